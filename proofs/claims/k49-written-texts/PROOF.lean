import PyProof.Rows.All
import Wide.All
import OpenK.AllK
import Wide.FinOn
import HandS.ForExc
import HandS.Comp
import HandS.Iter
import HandS.Text
import HandS.RaiseMore
import HandS.Wide
import HandS.Star
import HandS.Style
import HandS.IsInst
import HandS.Defaults
import HandS.CallSlots
import HandS.Deep
import HandS.Walk
import HandS.HeadEnd
import HandS.HeadHook1
import HandS.HeadHook2
import HandS.HeadHook4
import KE.KStateDown
import HandS.Base
import HandS.Call
import HandS.Ends
import HandS.More
import HandS.Words
import HandS.WordsExc
import HandS.Head0
import HandS.Head1
import HandS.Head2
import PySem.Challenge.RW_imagetones_k49_written_texts
set_option Elab.async false
set_option linter.all false
set_option maxRecDepth 100000
set_option maxHeartbeats 8000000
/-! G1: values, the virtual heap, the intermediate form, its evaluator. -/
namespace G4
open PySem

/-- a value: tuples are values, lists stand in the virtual heap -/
inductive D where
  | non | bl (b : Bool) | int (i : Int) | str (x : Str) | tup (xs : List D) | ref (a : Nat)
  deriving Inhabited

/-- an object of the virtual heap: a list, a list that is read alone -/
inductive Ob where
  | lst (xs : List D) | scr (xs : List D)
  deriving Inhabited
abbrev Hv := List Ob
abbrev Sl := List (Option D)

/-- what comes out: a value, an own exception (its class, its fields), or no word -/
inductive R (α : Type) where
  | ok (a : α) (h : Hv)
  | ex (c : Nat) (as : List D) (h : Hv)
  | bad
def R.bind {α β : Type} (r : R α) (f : α → Hv → R β) : R β := match r with
  | .ok a h => f a h
  | .ex c as h => .ex c as h
  | .bad => .bad
/-- a statement's end -/
inductive RS where
  | nx (τ : Sl) (h : Hv)
  | rt (d : D) (h : Hv)
  | bk (τ : Sl) (h : Hv)
  | ct (τ : Sl) (h : Hv)
  | ex (c : Nat) (as : List D) (τ : Sl) (h : Hv)
  | bad
def R.stm {α : Type} (r : R α) (τ : Sl) (f : α → Hv → RS) : RS := match r with
  | .ok a h => f a h
  | .ex c as h => .ex c as τ h
  | .bad => .bad

def lim : Nat := 16777216
def Hv.get (h : Hv) (a : Nat) : Option (List D) := match h[a]? with
  | some (.lst xs) => some xs
  | some (.scr xs) => some xs
  | none => none
def Hv.lst (h : Hv) (a : Nat) : Option (List D) := match h[a]? with
  | some (.lst xs) => some xs
  | _ => none
def getS (τ : Sl) (i : Nat) : Option D := match τ[i]? with
  | some (some d) => some d
  | _ => none
/-- a new list -/
def mk (xs : List D) (h : Hv) : R D := if xs.length ≤ lim then .ok (.ref h.length) (h ++ [.lst xs]) else .bad
def sm (i : Int) : Bool := decide (i.natAbs.log2 < 5000)

/-! ### data as a whole -/
def optAll {α β : Type} (f : α → Option β) : List α → Option (List β)
  | [] => some []
  | x :: xs => match f x with
    | some y => match optAll f xs with
      | some ys => some (y :: ys)
      | none => none
    | none => none
def dat : Nat → Hv → D → Option PyData
  | 0, _, _ => none
  | n + 1, h, d => match d with
    | .non => some .none
    | .bl b => some (.bool b)
    | .int i => some (.int i)
    | .str x => some (.str x)
    | .tup xs => match optAll (dat n h) xs with
      | some ds => some (.tuple ds)
      | none => none
    | .ref a => match h.get a with
      | some xs => match optAll (dat n h) xs with
        | some ds => some (.list ds)
        | none => none
      | none => none
/-- how deep data may lie -/
def dp : Nat := 12
def eqD (h : Hv) (x y : D) : Option Bool := match x, y with
  | .int i, .int j => some (decide (i = j))
  | .str i, .str j => some (decide (i = j))
  | .bl i, .bl j => some (decide (i = j))
  | .int _, .str _ => some false
  | .str _, .int _ => some false
  | .non, .non => some true
  | .non, .int _ => some false
  | .int _, .non => some false
  | .non, .str _ => some false
  | .str _, .non => some false
  | x, y => match dat dp h x, dat dp h y with
    | some d, some e => if SeqAt.shaped d = true ∧ SeqAt.shaped e = true then some (PyData.eqv d e) else none
    | _, _ => none
def ofD (P : D → Option α) : List D → Option (List α) := optAll P
def dInt : D → Option Int
  | .int i => some i
  | _ => none
def dBl : D → Option Bool
  | .bl b => some b
  | _ => none
def dStr : D → Option Str
  | .str x => some x
  | _ => none
def flatD : D → Bool
  | .tup _ => false
  | .ref _ => false
  | _ => true
def eqF : D → D → Bool
  | .non, .non => true
  | .bl a, .bl b => a == b
  | .int a, .int b => decide (a = b)
  | .str a, .str b => decide (a = b)
  | .bl a, .int j => decide ((if a then (1 : Int) else 0) = j)
  | .int i, .bl b => decide (i = (if b then (1 : Int) else 0))
  | _, _ => false

/-! ### operators -/
inductive O2 where
  | add | sub | mul | fdiv | mod | pow
def O2.ev (o : O2) (x y : D) (h : Hv) : R D := match o, x, y with
  | .add, .int i, .int j => .ok (.int (i + j)) h
  | .add, .str a, .str b => if a.length + b.length ≤ lim then .ok (.str (a ++ b)) h else .bad
  | .add, .ref a, .ref b => match h.lst a, h.lst b with
    | some xs, some ys => mk (xs ++ ys) h
    | _, _ => .bad
  | .sub, .int i, .int j => .ok (.int (i - j)) h
  | .mul, .int i, .int j => if sm i = true ∧ sm j = true then .ok (.int (i * j)) h else .bad
  | .mul, .ref a, .int k => match h.lst a with
    | some xs => if -(2 ^ 63) ≤ k ∧ k < 2 ^ 63 then mk (List.replicate k.toNat xs).flatten h else .bad
    | none => .bad
  | .mul, .str a, .int k => if 0 ≤ k ∧ k ≤ 1000 ∧ a.length ≤ 1000 then .ok (.str (Txt.mul a k)) h else .bad
  | .fdiv, .int i, .int j => if 0 < j ∧ sm j = true then .ok (.int (i / j)) h else .bad
  | .mod, .int i, .int j => if 0 < j then .ok (.int (i % j)) h else .bad
  | .pow, .int i, .int j => if 0 ≤ j ∧ j ≤ 100 ∧ sm i = true then .ok (.int (i ^ j.toNat)) h else .bad
  | _, _, _ => .bad
/-- in place -/
def O2.ip (o : O2) (x y : D) (h : Hv) : R D := match o, x, y with
  | .add, .int i, .int j => .ok (.int (i + j)) h
  | .sub, .int i, .int j => .ok (.int (i - j)) h
  | .add, .str a, .str b => if a.length + b.length ≤ lim then .ok (.str (a ++ b)) h else .bad
  | .add, .ref a, .ref b => match h.lst a, h.lst b with
    | some xs, some ys => if xs.length + ys.length ≤ lim ∧ a ≠ b then .ok (.ref a) (h.set a (.lst (xs ++ ys))) else .bad
    | _, _ => .bad
  | _, _, _ => .bad
inductive Oc where
  | eq | ne | lt | le | gt | ge | inn | nin
def hasD (h : Hv) (x y : D) : Option Bool := match y with
  | .tup ys => if flatD x = true ∧ ys.all flatD = true then some (ys.any fun z => eqF z x) else none
  | .ref a => match h.get a with
    | some ys => if flatD x = true ∧ ys.all flatD = true then some (ys.any fun z => eqF z x) else match dat dp h x, dat dp h y with
      | some d, some (.list ds) => if SeqAt.shaped d = true ∧ SeqAt.shaped (.list ds) = true then some (ds.any fun z => PyData.eqv z d) else none
      | _, _ => none
    | none => none
  | .str z => match x with
    | .str a => match a.cps.toList with
      | [c] => some (decide (c ∈ z.cps.toList))
      | _ => none
    | _ => none
  | _ => none
def Oc.ev (o : Oc) (x y : D) (h : Hv) : Option Bool := match o with
  | .eq => eqD h x y
  | .ne => (eqD h x y).map (!·)
  | .lt => match x, y with
    | .int i, .int j => some (decide (i < j))
    | _, _ => none
  | .le => match x, y with
    | .int i, .int j => some (decide (i ≤ j))
    | _, _ => none
  | .gt => match x, y with
    | .int i, .int j => some (decide (j < i))
    | _, _ => none
  | .ge => match x, y with
    | .int i, .int j => some (decide (j ≤ i))
    | _, _ => none
  | .inn => hasD h x y
  | .nin => (hasD h x y).map (!·)
def tru (d : D) (h : Hv) : Option Bool := match d with
  | .bl b => some b
  | .int i => some (decide (i ≠ 0))
  | .non => some false
  | .tup xs => some (!xs.isEmpty)
  | .ref a => (h.get a).map fun xs => !xs.isEmpty
  | .str _ => none

/-! ### items, slices -/
def idx (n : Nat) (i : Int) : Option Nat := if 0 ≤ i then (if i < n then some i.toNat else none) else if -(n : Int) ≤ i then some (i + n).toNat else none
def cut (xs : List D) (lo hi : Option Int) : List D := (xs.drop (HT.sIx xs.length 0 lo)).take (HT.sIx xs.length xs.length hi - HT.sIx xs.length 0 lo)
def itemD (x y : D) (h : Hv) : R D := match y with
  | .int i => match x with
    | .tup xs => match (idx xs.length i).bind fun j => xs[j]? with
      | some d => .ok d h
      | none => .bad
    | .ref a => match h.get a with
      | some xs => match (idx xs.length i).bind fun j => xs[j]? with
        | some d => .ok d h
        | none => .bad
      | none => .bad
    | .str z => if z.length ≤ lim then match (idx z.cps.toList.length i).bind fun j => z.cps.toList[j]? with
        | some c => .ok (.str ⟨#[c]⟩) h
        | none => .bad
      else .bad
    | _ => .bad
  | _ => .bad
def sliceD (x : D) (lo hi : Option Int) (h : Hv) : R D := match x with
  | .ref a => match h.get a with
    | some xs => .ok (.ref h.length) (h ++ [.lst (cut xs lo hi)])
    | none => .bad
  | .str z => if z.length ≤ lim then .ok (.str (L2.cutS z lo hi)) h else .bad
  | _ => .bad

/-! ### built-in functions, methods -/
inductive Bu where
  | abs | max | min | len | int | sum | any | all | list | tuple | repr | divmod | str
def maxI : List Int → Int
  | [] => 0
  | [x] => x
  | x :: y :: r => let m := maxI (y :: r); if m > x then m else x
def minI : List Int → Int
  | [] => 0
  | [x] => x
  | x :: y :: r => let m := minI (y :: r); if m < x then m else x
def Bu.ev (b : Bu) (as : List D) (h : Hv) : R D := match b, as with
  | .abs, [.int i] => .ok (.int (if i < 0 then -i else i)) h
  | .max, [.int i, .int j] => .ok (.int (if j > i then j else i)) h
  | .min, [.int i, .int j] => .ok (.int (if j < i then j else i)) h
  | .max, [.ref a] => match h.get a with
    | some xs => match optAll dInt xs with
      | some (n :: ns) => .ok (.int (maxI (n :: ns))) h
      | _ => .bad
    | none => .bad
  | .min, [.ref a] => match h.get a with
    | some xs => match optAll dInt xs with
      | some (n :: ns) => .ok (.int (minI (n :: ns))) h
      | _ => .bad
    | none => .bad
  | .len, [.ref a] => match h.get a with
    | some xs => .ok (.int xs.length) h
    | none => .bad
  | .len, [.tup xs] => .ok (.int xs.length) h
  | .len, [.str x] => if x.length ≤ lim then .ok (.int x.length) h else .bad
  | .int, [.int i] => .ok (.int i) h
  | .int, [.bl k] => .ok (.int (if k then 1 else 0)) h
  | .sum, [.ref a] => match h.get a with
    | some xs => match optAll dInt xs with
      | some ns => .ok (.int ns.sum) h
      | none => .bad
    | none => .bad
  | .any, [.ref a] => match h.get a with
    | some xs => match optAll dBl xs with
      | some bs => .ok (.bl (bs.any id)) h
      | none => .bad
    | none => .bad
  | .all, [.ref a] => match h.get a with
    | some xs => match optAll dBl xs with
      | some bs => .ok (.bl (bs.all id)) h
      | none => .bad
    | none => .bad
  | .list, [.ref a] => match h.get a with
    | some xs => .ok (.ref h.length) (h ++ [.lst xs])
    | none => .bad
  | .list, [.tup xs] => .ok (.ref h.length) (h ++ [.lst xs])
  | .tuple, [.ref a] => match h.get a with
    | some xs => .ok (.tup xs) h
    | none => .bad
  | .tuple, [.tup xs] => .ok (.tup xs) h
  | .repr, [d] => match dat dp h d with
    | some p => if p.showable = true ∧ p.hasDict = false ∧ p.depth ≤ 12 ∧ p.shown.length ≤ lim then .ok (.str p.shown) h else .bad
    | none => .bad
  | .divmod, [.int i, .int j] => if 0 < j ∧ j < 1073741824 then .ok (.tup [.int (i / j), .int (i % j)]) h else .bad
  | .int, [.str x] => match intText? x with
    | some n => if x.length ≤ 640 then .ok (.int n) h else .bad
    | none => .bad
  | .str, [.int i] => if i.natAbs.log2 < 1920 then .ok (.str (toString i)) h else .bad
  | .str, [.str x] => .ok (.str x) h
  | _, _ => .bad
/-- texts cut, texts joined -/
def splD (a : Str) (y : D) (h : Hv) : R D := match y with
  | .str b => if (b.length == 0) = false ∧ a.length + 2 ≤ lim then .ok (.ref h.length) (h ++ [.lst ((Txt.split a b).map D.str)]) else .bad
  | _ => .bad
def joiD (a : Str) (y : D) (h : Hv) : R D := match y with
  | .ref p => match h.get p with
    | some xs => match optAll dStr xs with
      | some ys => if (ys.map (·.length)).sum + ys.length * a.length ≤ 16777216 then .ok (.str (Txt.join a ys)) h else .bad
      | none => .bad
    | none => .bad
  | _ => .bad
inductive Me where
  | append | extend
def Me.ev (m : Me) (o : D) (as : List D) (h : Hv) : R D := match m, o, as with
  | .append, .ref a, [y] => match h.lst a with
    | some xs => if xs.length < lim then .ok .non (h.set a (.lst (xs ++ [y]))) else .bad
    | none => .bad
  | .extend, .ref a, [.ref b] => match h.lst a, h.lst b with
    | some xs, some ys => if xs.length + ys.length ≤ lim then .ok .non (h.set a (.lst (xs ++ ys))) else .bad
    | _, _ => .bad
  | _, _, _ => .bad
inductive Ty where
  | int | bool | str | list | tuple | dict
  deriving DecidableEq
def Ty.has (t : Ty) : D → Bool
  | .non => false
  | .bl _ => match t with
    | .int => true
    | .bool => true
    | _ => false
  | .int _ => match t with
    | .int => true
    | _ => false
  | .str _ => match t with
    | .str => true
    | _ => false
  | .tup _ => match t with
    | .tuple => true
    | _ => false
  | .ref _ => match t with
    | .list => true
    | _ => false

/-! ### the form -/
inductive IG where
  | nm (i : Nat) | tp (gs : List IG)
mutual
inductive IE where
  | var (i : Nat) | con (d : D) | glo (x : Str) (d : D)
  | b2 (o : O2) (a b : IE) | neg (a : IE)
  | cm (o : Oc) (a b : IE) | cmN (n : Bool) (a : IE) | ch (o o' : Oc) (a b c : IE)
  | bo (k : Bool) (es : IA) | nt (a : IE) | ie (t : IT) (a b : IE)
  | tp (es : IA) | ls (es : IA) | ix (a b : IE) | sl (a : IE) (lo hi : IO)
  | cf (f : Nat) (es : IA) | ck (f : Nat) (es ks : IA) (pm : List Nat)
  | cb (b : Bu) (es : IA) | mt (m : Me) (o : IE) (es : IA)
  | isi (a : IE) (t : Ty) | isiT (a : IE) (ts : List Ty)
  | spl (o e : IE) | joi (o e : IE)
  | lc (own : List (Str × Nat)) (g : IG) (it : II) (t : IO) (tt : IT) (e : IE)
inductive IA where
  | nil | cons (e : IE) (r : IA) | star (e : IE) (r : IA)
inductive IO where
  | no | so (e : IE)
inductive IT where
  | v (e : IE) | cm (o : Oc) (a b : IE) | cmN (n : Bool) (a : IE) | ch (o o' : Oc) (a b c : IE)
  | bo (k : Bool) (ts : ITs) | nt (t : IT) | yes
inductive ITs where
  | nil | cons (t : IT) (r : ITs)
inductive II where
  | seq (e : IE) | rng (es : IA) | enm (e : IE) | zip (a b : IE)
end
mutual
inductive IS where
  | asg (g : IG) (e : IE) | par (ix : List Nat) (es : IA) | setl (o i e : IE) | aug (i : Nat) (o : O2) (e : IE)
  | ex (e : IE) | ret (e : IE) | retn | iff (t : IT) (a b : ISs) | wh (t : IT) (b : ISs) | fr (g : IG) (it : II) (b : ISs)
  | br | ct | ps | nev
inductive ISs where
  | nil | cons (s : IS) (r : ISs)
end

/-! ### what is walked -/
inductive It where
  | fix (xs : List D) | lst (a : Nat) | enm (a : Nat) | zip (a b : Nat) | rng (lo : Int) (n : Nat) | rngc (lo c : Int) (n : Nat)
/-- the i-th: no word, the end, an item -/
def It.nxt (J : It) (i : Nat) (h : Hv) : Option (Option D) := match J with
  | .fix xs => some xs[i]?
  | .lst a => match h.get a with
    | some xs => some xs[i]?
    | none => none
  | .enm a => match h.get a with
    | some xs => match xs[i]? with
      | some d => some (some (.tup [.int i, d]))
      | none => some none
    | none => none
  | .zip a b => match h.get a, h.get b with
    | some xs, some ys => match xs[i]?, ys[i]? with
      | some d, some e => some (some (.tup [d, e]))
      | _, _ => some none
    | _, _ => none
  | .rng lo n => if i < n then some (some (.int (lo + i))) else some none
  | .rngc lo c n => if i < n then some (some (.int (lo + i * c))) else some none
def forL (nxt : Nat → Hv → Option (Option D)) (bod : D → Sl → Hv → RS) : Nat → Nat → Sl → Hv → RS
  | 0, _, _, _ => .bad
  | n + 1, i, τ, h => match nxt i h with
    | none => .bad
    | some none => .nx τ h
    | some (some d) => match bod d τ h with
      | .nx τ' h' => forL nxt bod n (i + 1) τ' h'
      | .ct τ' h' => forL nxt bod n (i + 1) τ' h'
      | .bk τ' h' => .nx τ' h'
      | .rt d h' => .rt d h'
      | .ex c as τ' h' => .ex c as τ' h'
      | .bad => .bad
def whL (tst : Sl → Hv → R Bool) (bod : Sl → Hv → RS) : Nat → Sl → Hv → RS
  | 0, _, _ => .bad
  | n + 1, τ, h => (tst τ h).stm τ fun b h => match b with
    | false => .nx τ h
    | true => match bod τ h with
      | .nx τ' h' => whL tst bod n τ' h'
      | .ct τ' h' => whL tst bod n τ' h'
      | .bk τ' h' => .nx τ' h'
      | .rt d h' => .rt d h'
      | .ex c as τ' h' => .ex c as τ' h'
      | .bad => .bad
def lcL (nxt : Nat → Hv → Option (Option D)) (bod : D → Hv → R (Option D)) (l : Nat) : Nat → Nat → Hv → R D
  | 0, _, _ => .bad
  | n + 1, i, h => match nxt i h with
    | none => .bad
    | some none => .ok (.ref l) h
    | some (some d) => match bod d h with
      | .ok o h' => match o with
        | none => lcL nxt bod l n (i + 1) h'
        | some y => match h'.lst l with
          | some acc => if acc.length < lim then lcL nxt bod l n (i + 1) (h'.set l (.lst (acc ++ [y]))) else .bad
          | none => .bad
      | _ => .bad
/-- more turns than any list has items -/
def turns : Nat := 16777300

mutual
def asG : IG → D → Sl → Option Sl
  | .nm i, d, τ => some (τ.set i (some d))
  | .tp gs, d, τ => match d with
    | .tup ds => asGs gs ds τ
    | _ => none
def asGs : List IG → List D → Sl → Option Sl
  | [], ds, τ => match ds with
    | [] => some τ
    | _ => none
  | g :: gs, ds, τ => match ds with
    | d :: ds => match asG g d τ with
      | some τ' => asGs gs ds τ'
      | none => none
    | [] => none
end
def wipeS (τ : Sl) : List Nat → Sl
  | [] => τ
  | v :: vs => (wipeS τ vs).set v none
def permV (ds : List D) (pm : List Nat) : List D := pm.map fun i => ds.getD i .non

/-! ### the evaluator: Φ is what the calls give -/
abbrev Den := Nat → List D → Hv → R D
section
variable (Φ : Den)
mutual
def evE : IE → Sl → Hv → R D
  | .var i, τ, h => match getS τ i with
    | some d => .ok d h
    | none => .bad
  | .con d, _, h => .ok d h
  | .glo _ d, _, h => .ok d h
  | .b2 o a b, τ, h => (evE a τ h).bind fun x h => (evE b τ h).bind fun y h => o.ev x y h
  | .neg a, τ, h => (evE a τ h).bind fun x h => match x with
    | .int i => .ok (.int (-i)) h
    | _ => .bad
  | .cm o a b, τ, h => (evE a τ h).bind fun x h => (evE b τ h).bind fun y h => match o.ev x y h with
    | some k => .ok (.bl k) h
    | none => .bad
  | .cmN n a, τ, h => (evE a τ h).bind fun x h => match x with
    | .non => .ok (.bl (!n)) h
    | _ => .ok (.bl n) h
  | .ch o o' a b c, τ, h => (evE a τ h).bind fun x h => (evE b τ h).bind fun y h => match o.ev x y h with
    | some true => (evE c τ h).bind fun z h => match o'.ev y z h with
      | some k => .ok (.bl k) h
      | none => .bad
    | some false => .ok (.bl false) h
    | none => .bad
  | .bo k es, τ, h => evB k es τ h
  | .nt a, τ, h => (evE a τ h).bind fun x h => match x with
    | .bl k => .ok (.bl (!k)) h
    | _ => .bad
  | .ie t a b, τ, h => (evT t τ h).bind fun k h => match k with
    | true => evE a τ h
    | false => evE b τ h
  | .tp es, τ, h => (evA es τ h).bind fun ds h => if ds.length ≤ lim then .ok (.tup ds) h else .bad
  | .ls es, τ, h => (evA es τ h).bind fun ds h => mk ds h
  | .ix a b, τ, h => (evE a τ h).bind fun x h => (evE b τ h).bind fun y h => itemD x y h
  | .sl a lo hi, τ, h => (evE a τ h).bind fun x h => (evO lo τ h).bind fun l h => (evO hi τ h).bind fun u h => sliceD x l u h
  | .cf f es, τ, h => (evA es τ h).bind fun ds h => Φ f ds h
  | .ck f es ks pm, τ, h => (evA es τ h).bind fun ds h => (evA ks τ h).bind fun zs h => Φ f (permV (ds ++ zs) pm) h
  | .cb b es, τ, h => (evA es τ h).bind fun ds h => b.ev ds h
  | .mt m o es, τ, h => (evE o τ h).bind fun x h => match x with
    | .ref a => (evA es τ h).bind fun ds h => m.ev (.ref a) ds h
    | _ => .bad
  | .spl o e, τ, h => (evE o τ h).bind fun x h => match x with
    | .str a => (evE e τ h).bind fun y h => splD a y h
    | _ => .bad
  | .joi o e, τ, h => (evE o τ h).bind fun x h => match x with
    | .str a => (evE e τ h).bind fun y h => joiD a y h
    | _ => .bad
  | .isi a t, τ, h => (evE a τ h).bind fun x h => .ok (.bl (t.has x)) h
  | .isiT a ts, τ, h => (evE a τ h).bind fun x h => .ok (.bl (ts.any fun t => t.has x)) h
  | .lc own g it _ tt e, τ, h => (evI it τ h).bind fun J h =>
      lcL J.nxt (fun d h => match asG g d (wipeS τ (own.map (·.2))) with
        | some τ2 => (evT tt τ2 h).bind fun k h => match k with
          | true => (evE e τ2 h).bind fun y h => .ok (some y) h
          | false => .ok none h
        | none => .bad) h.length turns 0 (h ++ [.lst []])
def evB (k : Bool) : IA → Sl → Hv → R D
  | .nil, _, _ => .bad
  | .cons e .nil, τ, h => evE e τ h
  | .cons e r, τ, h => (evE e τ h).bind fun x h => match x with
    | .bl c => if c = k then evB k r τ h else .ok (.bl c) h
    | _ => .bad
  | .star _ _, _, _ => .bad
def evA : IA → Sl → Hv → R (List D)
  | .nil, _, h => .ok [] h
  | .cons e r, τ, h => (evE e τ h).bind fun x h => (evA r τ h).bind fun xs h => .ok (x :: xs) h
  | .star e r, τ, h => (evE e τ h).bind fun x h => match x with
    | .tup ys => (evA r τ h).bind fun xs h => .ok (ys ++ xs) h
    | .ref a => match h.get a with
      | some ys => (evA r τ h).bind fun xs h => .ok (ys ++ xs) h
      | none => .bad
    | _ => .bad
def evO : IO → Sl → Hv → R (Option Int)
  | .no, _, h => .ok none h
  | .so e, τ, h => (evE e τ h).bind fun x h => match x with
    | .int i => .ok (some i) h
    | _ => .bad
def evT : IT → Sl → Hv → R Bool
  | .v e, τ, h => (evE e τ h).bind fun x h => match tru x h with
    | some k => .ok k h
    | none => .bad
  | .cm o a b, τ, h => (evE a τ h).bind fun x h => (evE b τ h).bind fun y h => match o.ev x y h with
    | some k => .ok k h
    | none => .bad
  | .cmN n a, τ, h => (evE a τ h).bind fun x h => match x with
    | .non => .ok (!n) h
    | _ => .ok n h
  | .ch o o' a b c, τ, h => (evE a τ h).bind fun x h => (evE b τ h).bind fun y h => match o.ev x y h with
    | some true => (evE c τ h).bind fun z h => match o'.ev y z h with
      | some k => .ok k h
      | none => .bad
    | some false => .ok false h
    | none => .bad
  | .bo k ts, τ, h => evTs k ts τ h
  | .nt t, τ, h => (evT t τ h).bind fun k h => .ok (!k) h
  | .yes, _, h => .ok true h
def evTs (k : Bool) : ITs → Sl → Hv → R Bool
  | .nil, _, _ => .bad
  | .cons t .nil, τ, h => evT t τ h
  | .cons t r, τ, h => (evT t τ h).bind fun c h => if c = k then evTs k r τ h else .ok c h
def evI : II → Sl → Hv → R It
  | .seq e, τ, h => (evE e τ h).bind fun x h => match x with
    | .tup xs => .ok (.fix xs) h
    | .ref a => match h.get a with
      | some _ => .ok (.lst a) h
      | none => .bad
    | .str z => .ok (.fix (z.cps.toList.map fun c => D.str ⟨#[c]⟩)) h
    | _ => .bad
  | .rng es, τ, h => (evA es τ h).bind fun ds h => match ds with
    | [.int j] => if -(2 ^ 62) ≤ j ∧ j < 2 ^ 62 then .ok (.rng 0 j.toNat) h else .bad
    | [.int i, .int j] => if -(2 ^ 62) ≤ i ∧ i < 2 ^ 62 ∧ -(2 ^ 62) ≤ j ∧ j < 2 ^ 62 then .ok (.rng i (j - i).toNat) h else .bad
    | _ => .bad
  | .enm e, τ, h => (evE e τ h).bind fun x h => match x with
    | .ref a => match h.get a with
      | some _ => .ok (.enm a) h
      | none => .bad
    | _ => .bad
  | .zip a b, τ, h => (evE a τ h).bind fun x h => (evE b τ h).bind fun y h => match x, y with
    | .ref a, .ref b => match h.get a, h.get b with
      | some _, some _ => .ok (.zip a b) h
      | _, _ => .bad
    | _, _ => .bad
end
def parS (τ : Sl) : List Nat → List D → Option Sl
  | [], [] => some τ
  | i :: is, d :: ds => parS (τ.set i (some d)) is ds
  | _, _ => none
mutual
def exS : IS → Sl → Hv → RS
  | .asg g e, τ, h => (evE Φ e τ h).stm τ fun x h => match asG g x τ with
    | some τ' => .nx τ' h
    | none => .bad
  | .par ix es, τ, h => (evA Φ es τ h).stm τ fun ds h => match parS τ ix ds with
    | some τ' => .nx τ' h
    | none => .bad
  | .setl o i e, τ, h => (evE Φ e τ h).stm τ fun v h => (evE Φ o τ h).stm τ fun x h => (evE Φ i τ h).stm τ fun y h => match x, y with
    | .ref a, .int k => match h.lst a with
      | some xs => match idx xs.length k with
        | some j => .nx τ (h.set a (.lst (xs.set j v)))
        | none => .bad
      | none => .bad
    | _, _ => .bad
  | .aug i o e, τ, h => match getS τ i with
    | some x => (evE Φ e τ h).stm τ fun y h => (o.ip x y h).stm τ fun z h => .nx (τ.set i (some z)) h
    | none => .bad
  | .ex e, τ, h => (evE Φ e τ h).stm τ fun _ h => .nx τ h
  | .ret e, τ, h => (evE Φ e τ h).stm τ fun x h => .rt x h
  | .retn, _, h => .rt .non h
  | .iff t a b, τ, h => (evT Φ t τ h).stm τ fun k h => match k with
    | true => exSs a τ h
    | false => exSs b τ h
  | .wh t b, τ, h => whL (evT Φ t) (exSs b) turns τ h
  | .fr g it b, τ, h => (evI Φ it τ h).stm τ fun J h => forL J.nxt (fun d τ h => match asG g d τ with
    | some τ' => exSs b τ' h
    | none => .bad) turns 0 τ h
  | .br, τ, h => .bk τ h
  | .ct, τ, h => .ct τ h
  | .ps, τ, h => .nx τ h
  | .nev, _, _ => .bad
def exSs : ISs → Sl → Hv → RS
  | .nil, τ, h => .nx τ h
  | .cons s r, τ, h => match exS s τ h with
    | .nx τ' h' => exSs r τ' h'
    | x => x
end
end

/-! ### functions -/
structure Fn where
  np : Nat
  ns : Nat
  body : ISs
def runFn (Φ : Den) (f : Fn) (as : List D) (h : Hv) : R D := if as.length = f.np then
    match exSs Φ f.body (as.map some ++ List.replicate (f.ns - f.np) none) h with
    | .nx _ h' => .ok .non h'
    | .rt d h' => .ok d h'
    | .ex c as _ h' => .ex c as h'
    | _ => .bad
  else .bad
abbrev Tab := Nat → Option Fn
def den (T : Tab) : Nat → Den
  | 0 => fun _ _ _ => .bad
  | k + 1 => fun f as h => match T f with
    | some fn => runFn (den T k) fn as h
    | none => .bad
end G4

/-! G2: how the virtual heap stands for the layer's heap; what a def that is evaluated keeps. -/
namespace G4
open PySem PySem.Spec PyProof.Rows L2

theorem lim_eq : lim = sizeLine := by rw [sizeLine_eq]; rfl

/-! ### values -/
mutual
def RelD (ρ : List Addr) (H : Hp) : D → V → Prop
  | .non, v => v = .non
  | .bl b, v => v = .bl b
  | .int i, v => v = .int i
  | .str x, v => v = .str x
  | .tup ds, v => ∃ p xs, v = .ref p ∧ H p = some (.tup xs) ∧ RelDs ρ H ds xs
  | .ref a, v => ∃ p, v = .ref p ∧ ρ[a]? = some p
def RelDs (ρ : List Addr) (H : Hp) : List D → List V → Prop
  | [], vs => vs = []
  | d :: ds, vs => ∃ w ws, vs = w :: ws ∧ RelD ρ H d w ∧ RelDs ρ H ds ws
end
/-- later: more addresses, all tuples as they were -/
structure Ext (ρ : List Addr) (H : Hp) (ρ' : List Addr) (H' : Hp) : Prop where
  at_ : ∀ (i : Nat) (p : Addr), ρ[i]? = some p → ρ'[i]? = some p
  tup : ∀ p xs, H p = some (.tup xs) → H' p = some (.tup xs)
theorem Ext.refl (ρ : List Addr) (H : Hp) : Ext ρ H ρ H := ⟨fun _ _ h => h, fun _ _ h => h⟩
theorem Ext.trans {ρ ρ1 ρ2 : List Addr} {H H1 H2 : Hp} (a : Ext ρ H ρ1 H1) (b : Ext ρ1 H1 ρ2 H2) : Ext ρ H ρ2 H2 :=
  ⟨fun i p h => b.at_ i p (a.at_ i p h), fun p xs h => b.tup p xs (a.tup p xs h)⟩
section
variable {ρ ρ' : List Addr} {H H' : Hp}
mutual
theorem RelD.mono (e : Ext ρ H ρ' H') : ∀ (d : D) (v : V), RelD ρ H d v → RelD ρ' H' d v
  | .non, _, h => h
  | .bl _, _, h => h
  | .int _, _, h => h
  | .str _, _, h => h
  | .tup ds, _, h => by
    obtain ⟨p, xs, e1, e2, r⟩ := h
    exact ⟨p, xs, e1, e.tup p xs e2, RelDs.mono e ds xs r⟩
  | .ref a, _, h => by
    obtain ⟨p, e1, e2⟩ := h
    exact ⟨p, e1, e.at_ a p e2⟩
theorem RelDs.mono (e : Ext ρ H ρ' H') : ∀ (ds : List D) (vs : List V), RelDs ρ H ds vs → RelDs ρ' H' ds vs
  | [], _, h => h
  | d :: ds, _, h => by
    obtain ⟨w, ws, e1, r, rs⟩ := h
    exact ⟨w, ws, e1, RelD.mono e d w r, RelDs.mono e ds ws rs⟩
end
theorem RelDs.len : ∀ {ds : List D} {vs : List V}, RelDs ρ H ds vs → ds.length = vs.length
  | [], _, h => by cases h; rfl
  | d :: ds, _, h => by
    obtain ⟨w, ws, rfl, r, rs⟩ := h
    simp [RelDs.len rs]
theorem RelDs.get : ∀ {ds : List D} {vs : List V} {i : Nat} {d : D}, RelDs ρ H ds vs → ds[i]? = some d → ∃ v, vs[i]? = some v ∧ RelD ρ H d v
  | [], _, _, _, _, e => by simp at e
  | d :: ds, _, 0, _, h, e => by
    obtain ⟨w, ws, rfl, r, rs⟩ := h
    simp at e; subst e
    exact ⟨w, rfl, r⟩
  | d :: ds, _, i + 1, x, h, e => by
    obtain ⟨w, ws, rfl, r, rs⟩ := h
    obtain ⟨v, e1, r1⟩ := RelDs.get (i := i) rs (by simpa using e)
    exact ⟨v, by simpa using e1, r1⟩
theorem RelDs.geto {ds : List D} {vs : List V} (h : RelDs ρ H ds vs) {i : Nat} {v : V} (e : vs[i]? = some v) : ∃ d, ds[i]? = some d ∧ RelD ρ H d v := by
  have hi : i < ds.length := by
    rw [h.len]
    exact (List.getElem?_eq_some_iff.mp e).1
  obtain ⟨v', e1, r⟩ := h.get (List.getElem?_eq_getElem hi)
  rw [e] at e1; cases e1
  exact ⟨_, List.getElem?_eq_getElem hi, r⟩
theorem RelDs.app : ∀ {ds es : List D} {vs ws : List V}, RelDs ρ H ds vs → RelDs ρ H es ws → RelDs ρ H (ds ++ es) (vs ++ ws)
  | [], _, _, _, h, k => by cases h; exact k
  | d :: ds, _, _, _, h, k => by
    obtain ⟨w, ws, rfl, r, rs⟩ := h
    exact ⟨w, _, rfl, r, RelDs.app rs k⟩
theorem RelDs.take : ∀ {ds : List D} {vs : List V} (n : Nat), RelDs ρ H ds vs → RelDs ρ H (ds.take n) (vs.take n)
  | _, _, 0, _ => by simp [RelDs]
  | [], _, n + 1, h => by cases h; simp [RelDs]
  | d :: ds, _, n + 1, h => by
    obtain ⟨w, ws, rfl, r, rs⟩ := h
    exact ⟨w, _, rfl, r, RelDs.take n rs⟩
theorem RelDs.drop : ∀ {ds : List D} {vs : List V} (n : Nat), RelDs ρ H ds vs → RelDs ρ H (ds.drop n) (vs.drop n)
  | _, _, 0, h => h
  | [], _, n + 1, h => by cases h; simp [RelDs]
  | d :: ds, _, n + 1, h => by
    obtain ⟨w, ws, rfl, r, rs⟩ := h
    exact RelDs.drop n rs
theorem RelDs.set : ∀ {ds : List D} {vs : List V} (i : Nat) {d : D} {v : V}, RelDs ρ H ds vs → RelD ρ H d v → RelDs ρ H (ds.set i d) (vs.set i v)
  | [], _, i, _, _, h, _ => by cases h; simp [RelDs]
  | d :: ds, _, 0, _, _, h, k => by
    obtain ⟨w, ws, rfl, r, rs⟩ := h
    exact ⟨_, _, rfl, k, rs⟩
  | d :: ds, _, i + 1, _, _, h, k => by
    obtain ⟨w, ws, rfl, r, rs⟩ := h
    exact ⟨w, _, rfl, r, RelDs.set i rs k⟩
theorem RelDs.rep {ds : List D} {vs : List V} (h : RelDs ρ H ds vs) : ∀ k : Nat, RelDs ρ H (List.replicate k ds).flatten (List.replicate k vs).flatten
  | 0 => by simp [RelDs]
  | k + 1 => by
    rw [List.replicate_succ, List.replicate_succ, List.flatten_cons, List.flatten_cons]
    exact h.app (RelDs.rep h k)
theorem RelDs.one {d : D} {v : V} (h : RelD ρ H d v) : RelDs ρ H [d] [v] := ⟨v, [], rfl, h, rfl⟩
theorem RelDs.nil_iff {ds : List D} {vs : List V} (h : RelDs ρ H ds vs) : vs.isEmpty = ds.isEmpty := by
  cases ds with
  | nil => cases h; rfl
  | cons d ds => obtain ⟨w, ws, rfl, _⟩ := h; rfl
theorem RelDs.ints : ∀ {ds : List D} {vs : List V} {ns : List Int}, RelDs ρ H ds vs → optAll dInt ds = some ns → vs = ns.map V.int
  | [], _, ns, h, e => by
    cases h
    simp [optAll] at e; subst e; rfl
  | d :: ds, _, ns, h, e => by
    obtain ⟨w, ws, rfl, r, rs⟩ := h
    cases d with
    | int i =>
      have hw : w = .int i := r
      subst hw
      simp only [optAll, dInt] at e
      cases q : optAll dInt ds with
      | none => rw [q] at e; cases e
      | some ms =>
        rw [q] at e
        cases e
        rw [RelDs.ints rs q]; rfl
    | _ => simp [optAll, dInt] at e
theorem RelDs.bls : ∀ {ds : List D} {vs : List V} {ns : List Bool}, RelDs ρ H ds vs → optAll dBl ds = some ns → vs = ns.map V.bl
  | [], _, ns, h, e => by
    cases h
    simp [optAll] at e; subst e; rfl
  | d :: ds, _, ns, h, e => by
    obtain ⟨w, ws, rfl, r, rs⟩ := h
    cases d with
    | bl i =>
      have hw : w = .bl i := r
      subst hw
      simp only [optAll, dBl] at e
      cases q : optAll dBl ds with
      | none => rw [q] at e; cases e
      | some ms =>
        rw [q] at e
        cases e
        rw [RelDs.bls rs q]; rfl
    | _ => simp [optAll, dBl] at e
end

/-! ### the heap -/
/-- read, never written -/
def SqR (K : PySem.W.Frag) (H : Hp) (p : Addr) (xs : List V) : Prop :=
  (∃ o, H p = some (.frz o (.lst xs))) ∨ ∃ (o : Obj) (its : Array Value) (n : Nat), K.lookup p = some o ∧ o.cls = .type "list" ∧ o.dict = none ∧ o.data = .seq its n ∧ its.size ≤ sizeLine ∧ Vals xs its.toList
def RelOb (K : PySem.W.Frag) (ρ : List Addr) (H : Hp) : Ob → Addr → Prop
  | .lst ds, p => ∃ xs, H p = some (.lst xs) ∧ RelDs ρ H ds xs
  | .scr ds, p => ∃ xs, SqR K H p xs ∧ RelDs ρ H ds xs
structure RelH (K : PySem.W.Frag) (ρ : List Addr) (h : Hv) (H : Hp) : Prop where
  len : ρ.length = h.length
  ob : ∀ (i : Nat) (o : Ob) (p : Addr), h[i]? = some o → ρ[i]? = some p → RelOb K ρ H o p
  inj : ∀ (i j : Nat) (p : Addr) (xs ys : List D), h[i]? = some (.lst xs) → h[j]? = some (.lst ys) → ρ[i]? = some p → ρ[j]? = some p → i = j
def RelS (ρ : List Addr) (H : Hp) (τ : Sl) (σ : L2.St) : Prop := τ.length = σ.length ∧ ∀ (i : Nat) (d : D), τ[i]? = some (some d) → ∃ v, σ[i]? = some (some v) ∧ RelD ρ H d v
section
variable {K : PySem.W.Frag} {ρ ρ' : List Addr} {h : Hv} {H H' : Hp} {τ : Sl} {σ : L2.St}
theorem RelS.mono (e : Ext ρ H ρ' H') (r : RelS ρ H τ σ) : RelS ρ' H' τ σ := ⟨r.1, fun i d q => by
  obtain ⟨v, e1, r1⟩ := r.2 i d q
  exact ⟨v, e1, r1.mono e⟩⟩
theorem RelS.get {i : Nat} {d : D} (r : RelS ρ H τ σ) (q : getS τ i = some d) : ∃ v, σ[i]? = some (some v) ∧ RelD ρ H d v := by
  refine r.2 i d ?_
  unfold getS at q
  split at q
  · cases q; assumption
  · cases q
theorem RelS.set {i : Nat} {d : D} {v : V} (r : RelS ρ H τ σ) (q : RelD ρ H d v) : RelS ρ H (τ.set i (some d)) (σ.set i (some v)) := by
  refine ⟨by simpa using r.1, fun j e hj => ?_⟩
  by_cases hji : i = j
  · subst hji
    by_cases hl : i < τ.length
    · rw [List.getElem?_set_self hl] at hj
      cases hj
      exact ⟨v, by rw [List.getElem?_set_self (by rw [← r.1]; exact hl)], q⟩
    · rw [List.getElem?_eq_none (by simpa using hl)] at hj; cases hj
  · rw [List.getElem?_set_ne hji] at hj
    obtain ⟨v', e1, r1⟩ := r.2 j e hj
    exact ⟨v', by rw [List.getElem?_set_ne hji]; exact e1, r1⟩
theorem RelS.wipe (r : RelS ρ H τ σ) : ∀ vs : List Nat, RelS ρ H (wipeS τ vs) (L2.wipe σ vs)
  | [] => r
  | v :: vs => by
    have q := RelS.wipe r vs
    refine ⟨by simpa [wipeS, L2.wipe] using q.1, fun j e hj => ?_⟩
    unfold wipeS at hj
    by_cases hji : v = j
    · subst hji
      by_cases hl : v < (wipeS τ vs).length
      · rw [List.getElem?_set_self hl] at hj; cases hj
      · rw [List.getElem?_eq_none (by simpa using hl)] at hj; cases hj
    · rw [List.getElem?_set_ne hji] at hj
      obtain ⟨v', e1, r1⟩ := q.2 j e hj
      unfold L2.wipe
      exact ⟨v', by rw [List.getElem?_set_ne hji]; exact e1, r1⟩
theorem RelH.get {a : Nat} {p : Addr} {ds : List D} (r : RelH K ρ h H) (q : h.get a = some ds) (e : ρ[a]? = some p) : ∃ xs, SqL K H p xs ∧ RelDs ρ H ds xs := by
  unfold Hv.get at q
  split at q
  · cases q
    obtain ⟨xs, e1, r1⟩ := r.ob a _ p (by assumption) e
    exact ⟨xs, SqL.of e1, r1⟩
  · cases q
    obtain ⟨xs, e1, r1⟩ := r.ob a _ p (by assumption) e
    rcases e1 with ⟨o, e1⟩ | e1
    · exact ⟨xs, .inl (.inr ⟨o, e1⟩), r1⟩
    · exact ⟨xs, .inr e1, r1⟩
  · cases q
theorem Hv.lst_iff {a : Nat} {ds : List D} : h.lst a = some ds ↔ h[a]? = some (.lst ds) := by
  unfold Hv.lst
  constructor
  · intro q
    split at q
    · cases q; assumption
    · cases q
  · intro q
    rw [q]
theorem RelH.lst {a : Nat} {p : Addr} {ds : List D} (r : RelH K ρ h H) (q : h.lst a = some ds) (e : ρ[a]? = some p) : ∃ xs, H p = some (.lst xs) ∧ RelDs ρ H ds xs :=
  r.ob a _ p (Hv.lst_iff.mp q) e
theorem SqR.keep {p : Addr} {xs : List V} (r : SqR K H p xs) (k : ∀ o, H p = some (.frz o (.lst xs)) → H' p = some (.frz o (.lst xs))) : SqR K H' p xs := by
  rcases r with ⟨o, e⟩ | e
  · exact .inl ⟨o, k o e⟩
  · exact .inr e
theorem RelOb.keep {o : Ob} {p : Addr} (e : Ext ρ H ρ' H') (r : RelOb K ρ H o p) (k : ∀ u, H p = some u → ((∃ ds, o = .lst ds) ∧ ∃ xs, u = .lst xs) ∨ (∃ ob xs, u = .frz ob (.lst xs)) → H' p = some u) : RelOb K ρ' H' o p := by
  cases o with
  | lst ds =>
    obtain ⟨xs, e1, r1⟩ := r
    exact ⟨xs, k _ e1 (.inl ⟨⟨ds, rfl⟩, xs, rfl⟩), r1.mono e⟩
  | scr ds =>
    obtain ⟨xs, e1, r1⟩ := r
    exact ⟨xs, e1.keep fun o q => k _ q (.inr ⟨o, xs, rfl⟩), r1.mono e⟩
theorem rho_lt {i : Nat} {p : Addr} (e : ρ[i]? = some p) : i < ρ.length := (List.getElem?_eq_some_iff.mp e).1
theorem ext_alloc {p : Addr} {o : HO} (n : H p = none) : Ext ρ H (ρ ++ [p]) (upd H p o) := ⟨fun i q e => by
  rw [List.getElem?_append_left (rho_lt e)]; exact e, fun q xs e => by rw [upd_ne (ne_of_none e n)]; exact e⟩
theorem ext_tup {p : Addr} {o : HO} (n : H p = none) : Ext ρ H ρ (upd H p o) := ⟨fun i q e => e, fun q xs e => by rw [upd_ne (ne_of_none e n)]; exact e⟩
/-- a new list -/
theorem RelH.alloc {p : Addr} {ds : List D} {xs : List V} (r : RelH K ρ h H) (n : H p = none) (q : RelDs ρ H ds xs) : RelH K (ρ ++ [p]) (h ++ [.lst ds]) (upd H p (.lst xs)) := by
  have e : Ext ρ H (ρ ++ [p]) (upd H p (.lst xs)) := ext_alloc n
  have last : ∀ {i : Nat} {o : Ob}, (h ++ [Ob.lst ds])[i]? = some o → (h[i]? = some o ∧ i < h.length) ∨ (i = h.length ∧ o = .lst ds) := fun {i o} hi => by
    by_cases hl : i < h.length
    · rw [List.getElem?_append_left hl] at hi; exact .inl ⟨hi, hl⟩
    · rw [List.getElem?_append_right (by omega)] at hi
      have : i - h.length = 0 := by
        by_cases z : i - h.length = 0
        · exact z
        · rw [List.getElem?_eq_none (by simp; omega)] at hi; cases hi
      rw [this] at hi
      cases hi
      exact .inr ⟨by omega, rfl⟩
  have rl : ∀ {i : Nat} {a : Addr}, i < h.length → (ρ ++ [p])[i]? = some a → ρ[i]? = some a := fun {i a} hl hi => by
    rw [List.getElem?_append_left (by rw [r.len]; exact hl)] at hi; exact hi
  have rn : ∀ {a : Addr}, (ρ ++ [p])[h.length]? = some a → a = p := fun {a} hi => by
    rw [List.getElem?_append_right (by rw [r.len]; exact Nat.le_refl _), r.len, Nat.sub_self] at hi
    cases hi; rfl
  refine ⟨by simp [r.len], fun i o a hi ha => ?_, fun i j a us ws hi hj ha hb => ?_⟩
  · rcases last hi with ⟨h1, h2⟩ | ⟨rfl, rfl⟩
    · have hr := r.ob i o a h1 (rl h2 ha)
      refine hr.keep e fun u hu _ => ?_
      rw [upd_ne (ne_of_none hu n)]; exact hu
    · rw [rn ha]
      exact ⟨xs, upd_same, q.mono e⟩
  · rcases last hi with ⟨h1, h2⟩ | ⟨rfl, _⟩
    · rcases last hj with ⟨h3, h4⟩ | ⟨rfl, _⟩
      · exact r.inj i j a us ws h1 h3 (rl h2 ha) (rl h4 hb)
      · obtain ⟨zs, z1, _⟩ := r.ob i _ a h1 (rl h2 ha)
        rw [rn hb, n] at z1; cases z1
    · rcases last hj with ⟨h3, h4⟩ | ⟨rfl, _⟩
      · obtain ⟨zs, z1, _⟩ := r.ob j _ a h3 (rl h4 hb)
        rw [rn ha, n] at z1; cases z1
      · rfl
/-- a new tuple -/
theorem RelH.tup {p : Addr} {xs : List V} (r : RelH K ρ h H) (n : H p = none) : RelH K ρ h (upd H p (.tup xs)) :=
  ⟨r.len, fun i o a hi ha => (r.ob i o a hi ha).keep (ext_tup n) fun u hu _ => by rw [upd_ne (ne_of_none hu n)]; exact hu, r.inj⟩
theorem ext_set {p : Addr} {xs ys : List V} (e : H p = some (.lst xs)) : Ext ρ H ρ (upd H p (.lst ys)) := ⟨fun _ _ q => q, fun q zs z => by
  rw [upd_ne (fun w => by subst w; rw [e] at z; cases z)]; exact z⟩
/-- a list is written -/
theorem RelH.set {a : Nat} {p : Addr} {ds es : List D} {ys : List V} (r : RelH K ρ h H) (q : h.lst a = some ds) (e : ρ[a]? = some p) (k : RelDs ρ H es ys) : RelH K ρ (h.set a (.lst es)) (upd H p (.lst ys)) := by
  obtain ⟨xs, e1, r1⟩ := r.lst q e
  have q' := Hv.lst_iff.mp q
  have ex : Ext ρ H ρ (upd H p (.lst ys)) := ext_set e1
  have back : ∀ {i : Nat} {o : Ob}, (h.set a (Ob.lst es))[i]? = some o → (i = a ∧ o = .lst es) ∨ (i ≠ a ∧ h[i]? = some o) := fun {i o} hi => by
    by_cases z : i = a
    · subst z
      rw [List.getElem?_set_self (List.getElem?_eq_some_iff.mp q').1] at hi
      cases hi; exact .inl ⟨rfl, rfl⟩
    · rw [List.getElem?_set_ne (Ne.symm z)] at hi; exact .inr ⟨z, hi⟩
  refine ⟨by simp [r.len], fun i o b hi hb => ?_, fun i j b us ws hi hj hb hc => ?_⟩
  · rcases back hi with ⟨rfl, rfl⟩ | ⟨z, hi⟩
    · rw [e] at hb; cases hb
      exact ⟨ys, upd_same, k.mono ex⟩
    · refine (r.ob i o b hi hb).keep ex fun u hu hk => ?_
      by_cases w : b = p
      · subst w
        rw [e1] at hu; cases hu
        rcases hk with ⟨⟨us, rfl⟩, _⟩ | ⟨ob, zs, hz⟩
        · exact absurd (r.inj i a b us ds hi q' hb e) z
        · cases hz
      · rw [upd_ne w]; exact hu
  · rcases back hi with ⟨rfl, h1⟩ | ⟨z, hi2⟩
    · rcases back hj with ⟨rfl, _⟩ | ⟨z2, hj⟩
      · rfl
      · exact r.inj i j b ds ws q' hj hb hc
    · rcases back hj with ⟨rfl, h2⟩ | ⟨z2, hj2⟩
      · exact r.inj _ _ b us ds hi2 q' hb hc
      · exact r.inj _ _ b us ws hi2 hj2 hb hc
end

/-! ### what comes out -/
/-- an own exception as the evaluator tells it: its class's address by the number, its fields by name -/
structure XInfo where
  ad : Nat → Addr
  fld : Nat → Option Str
def RelX (XI : XInfo) (ρ : List Addr) (H : Hp) (c : Nat) (as : List D) (cls : Value) (d : Option Addr) : Prop :=
  cls = .ref (XI.ad c) ∧ match XI.fld c, as with
    | none, _ => d = none
    | some f, [a] => ∃ (x : Addr) (v : V), d = some x ∧ H x = some (.xd [(f, v)]) ∧ RelD ρ H a v
    | some _, _ => False
def Out {α : Type} (K : PySem.W.Frag) (XI : XInfo) (E : XK) (ρ : List Addr) (H : Hp) (r : R α) (P : α → Hv → List Addr → Hp → Prop) : Prop := match r with
  | .ok a h' => ∀ ρ' H', Ext ρ H ρ' H' → RelH K ρ' h' H' → P a h' ρ' H'
  | .ex c as h' => ∀ ρ' H' cls d, Ext ρ H ρ' H' → RelH K ρ' h' H' → RelX XI ρ' H' c as cls d → E cls d H'
  | .bad => False
section
variable {α β : Type} {K : PySem.W.Frag} {XI : XInfo} {E E' : XK} {ρ ρ1 : List Addr} {H H1 : Hp} {r : R α}
theorem Out.imp {P P' : α → Hv → List Addr → Hp → Prop} (o : Out K XI E ρ H r P) (k : ∀ a h' ρ' H', Ext ρ H ρ' H' → RelH K ρ' h' H' → P a h' ρ' H' → P' a h' ρ' H') : Out K XI E ρ H r P' := by
  cases r with
  | ok a h => exact fun ρ' H' e rh => k a h ρ' H' e rh (o ρ' H' e rh)
  | ex c as h => exact o
  | bad => exact o
theorem Out.later {P : α → Hv → List Addr → Hp → Prop} (o : Out K XI E ρ H r P) (e : Ext ρ H ρ1 H1) : Out K XI E ρ1 H1 r P := by
  cases r with
  | ok a h => exact fun ρ' H' e' rh => o ρ' H' (e.trans e') rh
  | ex c as h => exact fun ρ' H' cls d e' rh rx => o ρ' H' cls d (e.trans e') rh rx
  | bad => exact o
theorem Out.bind {f : α → Hv → R β} {P : β → Hv → List Addr → Hp → Prop} (o : Out K XI E ρ H (r.bind f) P) :
    Out K XI E ρ H r fun a h' ρ' H' => Out K XI E ρ' H' (f a h') P := by
  cases r with
  | ok a h =>
    have o' : Out K XI E ρ H (f a h) P := o
    exact fun ρ' H' e _ => o'.later e
  | ex c as h => exact o
  | bad => exact o
theorem Out.ok {a : α} {h' : Hv} {P : α → Hv → List Addr → Hp → Prop} (o : Out K XI E ρ H (.ok a h') P) (e : Ext ρ H ρ1 H1) (rh : RelH K ρ1 h' H1) : P a h' ρ1 H1 := o ρ1 H1 e rh
end

/-! ### readings by the evaluator -/
/-- the letters that do not change within a def -/
structure Ck where
  K : PySem.W.Frag
  XI : XInfo
  W : WX
abbrev Ck.E (c : Ck) (σ : L2.St) : XK := fun cl d H' => c.W cl d σ H'
def tD (c : Ck) (m : Sl → Hv → R D) : TE := fun σ H Q => ∃ ρ τ h, RelS ρ H τ σ ∧ RelH c.K ρ h H ∧ Out c.K c.XI (c.E σ) ρ H (m τ h) fun d _ ρ' H' => ∀ v, RelD ρ' H' d v → Q v H'
def tDs (c : Ck) (m : Sl → Hv → R (List D)) : TA := fun σ H Q => ∃ ρ τ h, RelS ρ H τ σ ∧ RelH c.K ρ h H ∧ Out c.K c.XI (c.E σ) ρ H (m τ h) fun ds _ ρ' H' => ∀ vs, RelDs ρ' H' ds vs → Q vs H'
def tDb (c : Ck) (m : Sl → Hv → R Bool) : TT := fun σ H Q => ∃ ρ τ h, RelS ρ H τ σ ∧ RelH c.K ρ h H ∧ Out c.K c.XI (c.E σ) ρ H (m τ h) fun b _ _ H' => Q b H'
def tDo (c : Ck) (m : Sl → Hv → R (Option Int)) : TO := fun σ H Q => ∃ ρ τ h, RelS ρ H τ σ ∧ RelH c.K ρ h H ∧ Out c.K c.XI (c.E σ) ρ H (m τ h) fun b _ _ H' => Q b H'
def OutS (c : Ck) (D : Ends) (σ : L2.St) (ρ : List Addr) (H : Hp) (r : RS) : Prop := match r with
  | .nx τ h => ∀ ρ' H' σ', Ext ρ H ρ' H' → RelH c.K ρ' h H' → RelS ρ' H' τ σ' → D.nx σ' H'
  | .bk τ h => ∀ ρ' H' σ', Ext ρ H ρ' H' → RelH c.K ρ' h H' → RelS ρ' H' τ σ' → D.bk σ' H'
  | .ct τ h => ∀ ρ' H' σ', Ext ρ H ρ' H' → RelH c.K ρ' h H' → RelS ρ' H' τ σ' → D.ct σ' H'
  | .rt d h => ∀ ρ' H' v, Ext ρ H ρ' H' → RelH c.K ρ' h H' → RelD ρ' H' d v → D.rt v H'
  | .ex k as τ h => ∀ ρ' H' σ' cls d, Ext ρ H ρ' H' → RelH c.K ρ' h H' → RelS ρ' H' τ σ' → RelX c.XI ρ' H' k as cls d → c.W cls d σ' H'
  | .bad => False
def tSs (c : Ck) (m : Sl → Hv → RS) : TS := fun D σ H => ∃ ρ τ h, RelS ρ H τ σ ∧ RelH c.K ρ h H ∧ OutS c D σ ρ H (m τ h)
theorem OutS.later {c : Ck} {D : Ends} {σ σ1 : L2.St} {ρ ρ1 : List Addr} {H H1 : Hp} {r : RS} (o : OutS c D σ ρ H r) (e : Ext ρ H ρ1 H1) : OutS c D σ1 ρ1 H1 r := by
  cases r with
  | nx τ h => exact fun ρ' H' σ' e' => o ρ' H' σ' (e.trans e')
  | bk τ h => exact fun ρ' H' σ' e' => o ρ' H' σ' (e.trans e')
  | ct τ h => exact fun ρ' H' σ' e' => o ρ' H' σ' (e.trans e')
  | rt τ h => exact fun ρ' H' σ' e' => o ρ' H' σ' (e.trans e')
  | ex k as τ h => exact fun ρ' H' σ' cls d e' => o ρ' H' σ' cls d (e.trans e')
  | bad => exact o
/-- an expression within a statement -/
theorem OutS.stm {α : Type} {c : Ck} {D : Ends} {σ : L2.St} {ρ : List Addr} {H : Hp} {r : R α} {τ : Sl} {f : α → Hv → RS} (o : OutS c D σ ρ H (r.stm τ f)) (rs : RelS ρ H τ σ) :
    Out c.K c.XI (c.E σ) ρ H r fun a h' ρ' H' => OutS c D σ ρ' H' (f a h') := by
  cases r with
  | ok a h =>
    have o' : OutS c D σ ρ H (f a h) := o
    exact fun ρ' H' e _ => o'.later e
  | ex k as h => exact fun ρ' H' cls d e rh rx => o ρ' H' σ cls d e rh (rs.mono e) rx
  | bad => exact o
theorem PE.weak {X : Cx} {e : Expr} {t t' : TE} (p : PE X e t) (h : ∀ σ H Q, t' σ H Q → t σ H Q) : PE X e t' := ⟨fun pins s σ H Q I q => p.run pins s σ H Q I (h σ H Q q)⟩
theorem PT.weak {X : Cx} {e : Expr} {t t' : TT} (p : PT X e t) (h : ∀ σ H Q, t' σ H Q → t σ H Q) : PT X e t' := ⟨fun pins s σ H Q I q => p.run pins s σ H Q I (h σ H Q q)⟩
theorem PA.weak {X : Cx} {e : List Expr} {t t' : TA} (p : PA X e t) (h : ∀ σ H Q, t' σ H Q → t σ H Q) : PA X e t' := ⟨fun ps pins s σ H Q I q => p.run ps pins s σ H Q I (h σ H Q q)⟩
theorem PS.weak {X : Cx} {e : Stmt} {t t' : TS} (p : PS X e t) (h : ∀ D σ H, t' D σ H → t D σ H) : PS X e t' := ⟨fun pins s σ H D I q => p.run pins s σ H D I (h D σ H q)⟩
theorem PSs.weak {X : Cx} {e : List Stmt} {t t' : TS} (p : PSs X e t) (h : ∀ D σ H, t' D σ H → t D σ H) : PSs X e t' := ⟨fun pins s σ H D I q => p.run pins s σ H D I (h D σ H q)⟩

/-! ### a def that is evaluated -/
/-- called with such arguments, the def at f gives what m gives; nothing is being shown as a text around it -/
structure FnG (P : Program) (w : World) (K : PySem.W.Frag) (XI : XInfo) (mg : Str → Option Value) (base : Heap) (k : Nat) (f : Addr) (fd : FuncData) (ps : List Str) (m : List D → Hv → R D) : Prop where
  run : ∀ (A : Around) (outer : List Env) (s : Shared) (H : Hp) (args : Args) (us : List Value) (vs : List V) (ds : List D) (ρ : List Addr) (h : Hv) (Q : VK) (E : XK), Room k A → A.guards = some [] → Env0 P w K mg base A outer s H →
    BindsTo s fd args (ps.zip us) → vs.length = ps.length → Vals vs us → RelDs ρ H ds vs → RelH K ρ h H → Out K XI E ρ H (m ds h) (fun d _ ρ' H' => ∀ v, RelD ρ' H' d v → Q v H') →
    codeAny (model P w) A (.call (.ref f) args) (CR (L2.CX P w) outer P w H s Q E) s
/-- THE RULE: by the body -/
theorem fnG_of {P : Program} {w : World} {K : PySem.W.Frag} {XI : XInfo} {mg : Str → Option Value} {base : Heap} {k : Nat} {f : Addr} {name qual : Str} {params : Arguments} {body : List Stmt} {scope : Scope} {dV kV doc pm cdv ct oc : Value} {an od : Option Addr}
    {osl : Array (Option Value)} {N ps : List Str} {m : List D → Hv → R D} {b : Sl → Hv → RS} (lk : K.lookup f = some ⟨oc, od, .func (PySem.W.fnOf name qual params body scope dV kV doc pm an cdv ct), osl⟩) (hcd : PySem.W.codeIn K cdv qual = true) (S : FnScope N ps scope)
    (hb : ∀ (A : Around) (outer : List Env) (s : Shared) (H : Hp) (E : XK), Room k (A.deeper (envOfC qual scope s.heap.objs.size f cdv)) → A.guards = some [] →
      PSs (cxOf (L2.CX P w) P w K mg base N qual scope f cdv A outer s H E) body (tSs ⟨K, XI, fun cl d _ H' => E cl d H'⟩ b))
    (hm : ∀ ds h, m ds h = if ds.length = ps.length then match b (ds.map some ++ List.replicate (N.length - ps.length) none) h with
      | .nx _ h' => .ok .non h'
      | .rt d h' => .ok d h'
      | .ex c as _ h' => .ex c as h'
      | _ => .bad else .bad) :
    FnG P w K XI mg base (k + 1) f (PySem.W.fnOf name qual params body scope dV kV doc pm an cdv ct) ps m := by
  refine ⟨fun A outer s H args us vs ds ρ h Q E hr hg e0 hbd hl r rd rh o => ?_⟩
  have KX : K.In s.heap := e0.mod.kin.keeps fun b o e => (e0.bs b o e).1
  have nl : s.heap.NoLimit := e0.mod.nolimit.keeps fun b o e => (e0.bs b o e).1
  have kinds : ∀ y ∈ ps.zip us, scope.names.lookup y.1 = some .local ∨ (scope.names.lookup y.1 = some .cell ∧ ((cellsFrom (s.heap.objs.size + 1) scope.names []).lookup y.1).isSome = true) := by
    intro y hy
    rcases S.par y.1 (List.of_mem_zip hy).1 with z | z
    · exact Or.inl z
    · exact Or.inr ⟨z, PySem.W.cellsFrom_some _ _ _ (Or.inl z)⟩
  refine codeAny_call_function hr.depth (KX _ _ lk) rfl S.co S.gen rfl (PySem.W.codeRec_of KX hcd) (hbd _ _ _ _ ?_)
  refine wpAny_newFunctionEnv_cells S.kind kinds fun env he s1 x => ?_
  subst he
  refine ⟨nl.keeps x.toInCall.keep, codeAny_func ?_⟩
  have I : Inv (cxOf (L2.CX P w) P w K mg base N qual scope f cdv A outer s H E) [] (L2.start N vs) H s1 := inv_start S hr.hd e0 hl r x
  have dl : ds.length = ps.length := by rw [rd.len, hl]
  have rs : RelS ρ H (ds.map some ++ List.replicate (N.length - ps.length) none) (L2.start N vs) := by
    unfold L2.start
    refine ⟨by simp [dl, hl], fun i d e => ?_⟩
    by_cases hi : i < ds.length
    · rw [List.getElem?_append_left (by simpa using hi), List.getElem?_map] at e
      cases q : ds[i]? with
      | none => rw [q] at e; cases e
      | some d' =>
        rw [q] at e
        cases e
        obtain ⟨v, e1, r1⟩ := rd.get q
        exact ⟨v, by rw [List.getElem?_append_left (by rw [List.length_map, ← rd.len]; exact hi), List.getElem?_map, e1]; rfl, r1⟩
    · rw [List.getElem?_append_right (by simpa using hi), List.getElem?_replicate] at e
      split at e <;> cases e
  rw [hm, if_pos dl] at o
  have goal : tSs ⟨K, XI, fun cl d _ H' => E cl d H'⟩ b { nx := fun _ H' => Q .non H', rt := Q } (L2.start N vs) H := by
    refine ⟨ρ, _, h, rs, rh, ?_⟩
    cases q : b (ds.map some ++ List.replicate (N.length - ps.length) none) h with
    | nx τ h' =>
      rw [q] at o
      exact fun ρ' H' σ' e rh' _ => o ρ' H' e rh' V.non rfl
    | rt d h' =>
      rw [q] at o
      exact fun ρ' H' v e rh' rv => o ρ' H' e rh' v rv
    | ex c as τ h' =>
      rw [q] at o
      exact fun ρ' H' σ' cls d e rh' _ rx => o ρ' H' cls d e rh' rx
    | bk τ h' => rw [q] at o; exact False.elim o
    | ct τ h' => rw [q] at o; exact False.elim o
    | bad => rw [q] at o; exact o
  refine wpAny_mono ((hb A outer s H E (hr.deeper _) hg).run [] s1 (L2.start N vs) H _ I goal) (fun fl s' hs => ?_) fun e s' hs => hs
  cases fl with
  | ret u =>
    obtain ⟨v, σ', H', J, rv, q⟩ := hs
    exact ⟨v, H', J.os, J.bare, J.base, J.hok, rv, q⟩
  | next =>
    obtain ⟨σ', H', J, q⟩ := hs
    exact ⟨V.non, H', J.os, J.bare, J.base, J.hok, rfl, q⟩
  | brk =>
    obtain ⟨_, _, _, q⟩ := hs
    exact False.elim q
  | cont =>
    obtain ⟨_, _, _, q⟩ := hs
    exact False.elim q
end G4

/-! G3: operators and built-in functions, by values. -/
namespace G4
open PySem PySem.Spec PyProof.Rows L2

def PostD (K : PySem.W.Frag) (XI : XInfo) (E : XK) (ρ : List Addr) (H : Hp) (r : R D) (Q : VK) : Prop := Out K XI E ρ H r fun d _ ρ' H' => ∀ v, RelD ρ' H' d v → Q v H'
section
variable {K : PySem.W.Frag} {XI : XInfo} {E : XK} {ρ : List Addr} {h : Hv} {H : Hp} {Q : VK}
theorem PostD.here {d : D} {v : V} (o : PostD K XI E ρ H (.ok d h) Q) (rh : RelH K ρ h H) (r : RelD ρ H d v) : Q v H := o ρ H (Ext.refl _ _) rh v r
/-- a new list -/
theorem PostD.newl {ds : List D} {xs : List V} (o : PostD K XI E ρ H (.ok (.ref h.length) (h ++ [.lst ds])) Q) (rh : RelH K ρ h H) (r : RelDs ρ H ds xs) : ∀ p, H p = none → Q (.ref p) (upd H p (.lst xs)) := fun p n => by
  refine o (ρ ++ [p]) _ (ext_alloc n) (rh.alloc n r) _ ⟨p, rfl, ?_⟩
  rw [List.getElem?_append_right (by rw [rh.len]; exact Nat.le_refl _), rh.len, Nat.sub_self]
  rfl
theorem PostD.mk {ds : List D} {xs : List V} (o : PostD K XI E ρ H (mk ds h) Q) (rh : RelH K ρ h H) (r : RelDs ρ H ds xs) : xs.length ≤ sizeLine ∧ ∀ p, H p = none → Q (.ref p) (upd H p (.lst xs)) := by
  unfold G4.mk at o
  split at o
  · rename_i hl
    exact ⟨by rw [← r.len, ← lim_eq]; exact hl, o.newl rh r⟩
  · exact False.elim o
/-- a new tuple -/
theorem PostD.newt {ds : List D} {xs : List V} (o : PostD K XI E ρ H (.ok (.tup ds) h) Q) (rh : RelH K ρ h H) (r : RelDs ρ H ds xs) : ∀ p, H p = none → Q (.ref p) (upd H p (.tup xs)) := fun p n =>
  o ρ _ (ext_tup n) (rh.tup n) _ ⟨p, xs, rfl, upd_same, r.mono (ext_tup n)⟩
/-- a list is written -/
theorem PostD.set {d : D} {v : V} {a : Nat} {p : Addr} {ds es : List D} {ys : List V} (o : PostD K XI E ρ H (.ok d (h.set a (.lst es))) Q) (rh : RelH K ρ h H) (q : h.lst a = some ds) (e : ρ[a]? = some p) (k : RelDs ρ H es ys)
    (r : RelD ρ H d v) : Q v (upd H p (.lst ys)) := by
  obtain ⟨xs, e1, _⟩ := rh.lst q e
  exact o ρ _ (ext_set e1) (rh.set q e k) v (r.mono (ext_set e1))
end

theorem sm_log {i : Int} (h : sm i = true) : i.natAbs.log2 < 5000 := of_decide_eq_true h
theorem small_pow {i : Int} {j : Int} (hi : sm i = true) (h0 : 0 ≤ j) (h1 : j ≤ 100) : (Builtin.Int.intBits i : Int) * j ≤ 2 ^ 27 := by
  have h := sm_log hi
  have hb : Builtin.Int.intBits i ≤ 5000 := by
    unfold Builtin.Int.intBits
    split <;> omega
  have h2 : (Builtin.Int.intBits i : Int) * j ≤ 5000 * j := Int.mul_le_mul_of_nonneg_right (by omega) h0
  omega
section
variable {X : Cx}
theorem op_powW : OpR X (binaryOp .Pow) (rI (fun i j => 0 ≤ j ∧ j ≤ 100 ∧ sm i = true) fun i j => .int (i ^ j.toNat)) :=
  opI fun _ _ _ _ _ _ _ hc q => pow_int hc.1 (small_pow hc.2.2 hc.1 hc.2.1) q
theorem ixN_idx (n : Nat) (i : Int) : ixN n i = idx n i := rfl

/-! ### binary operators -/
def rMulS : R2 := fun x y H Q => ∃ a k, x = .str a ∧ y = .int k ∧ 0 ≤ k ∧ k ≤ 1000 ∧ a.length ≤ 1000 ∧ Q (.str (Txt.mul a k)) H
theorem mulOk_le {a : Str} {k : Int} (h0 : 0 ≤ k) (h1 : k ≤ 1000) (h2 : a.length ≤ 1000) : MulOk a k := by
  refine ⟨by simp only [Bool.or_eq_false_iff, decide_eq_false_iff_not]; omega, fun c _ => ?_, fun c _ => ?_⟩
  · have : (1000 : Int) ≤ (2 ^ 63 - 1) / k := by
      rw [Int.le_ediv_iff_mul_le (by omega)]
      omega
    omega
  · have h3 : a.length * k.toNat ≤ 1000 * 1000 := Nat.mul_le_mul h2 (by omega)
    show decide (a.length * k.toNat > sizeLine) = false
    rw [decide_eq_false_iff_not, sizeLine_eq]
    omega
theorem op_mulS {X : Cx} : OpR X (binaryOp .Mult) rMulS := by
  intro pins s σ H x y u v Q I rx ry q
  obtain ⟨a, k, rfl, rfl, h0, h1, h2, q⟩ := q
  obtain ⟨t, rfl⟩ := rx
  obtain ⟨t2, rfl⟩ := ry
  exact SB.mul (mulOk_le h0 h1 h2) fun t' k' => ⟨.str _, H, I.tok _, ⟨_, rfl⟩, q⟩
def rAll2 (K : PySem.W.Frag) : O2 → R2
  | .add => fun x y H Q => (rI0 fun i j => .int (i + j)) x y H Q ∨ ((∃ i j, x = .str i ∧ y = .str j ∧ i.length + j.length ≤ sizeLine ∧ Q (.str (i ++ j)) H) ∨ rCat x y H Q)
  | .sub => rI0 fun i j => .int (i - j)
  | .mul => fun x y H Q => (rI CMulW fun i j => .int (i * j)) x y H Q ∨ (rRep x y H Q ∨ rMulS x y H Q)
  | .fdiv => rI CDivW fun i j => .int (i / j)
  | .mod => rI (fun _ j => 0 < j) fun i j => .int (i % j)
  | .pow => rI (fun i j => 0 ≤ j ∧ j ≤ 100 ∧ sm i = true) fun i j => .int (i ^ j.toNat)
def O2.py : O2 → Operator
  | .add => .Add
  | .sub => .Sub
  | .mul => .Mult
  | .fdiv => .FloorDiv
  | .mod => .Mod
  | .pow => .Pow
theorem op_all2 (o : O2) : OpR X (binaryOp o.py) (rAll2 X.K o) := by
  cases o with
  | add => exact op_add.or (op_add_str.or op_cat)
  | sub => exact op_sub
  | mul => exact op_mulW.or (op_rep.or op_mulS)
  | fdiv => exact op_fdivW
  | mod => exact op_mod
  | pow => exact op_powW
end
section
variable {K : PySem.W.Frag} {XI : XInfo} {E : XK} {ρ : List Addr} {h : Hv} {H : Hp} {Q : VK}
theorem b2_ok (o : O2) {x y : D} {v u : V} (rh : RelH K ρ h H) (rx : RelD ρ H x v) (ry : RelD ρ H y u) (q : PostD K XI E ρ H (o.ev x y h) Q) : rAll2 K o v u H Q := by
  cases o with
  | add =>
    cases x with
    | int i =>
      cases y with
      | int j =>
        have e1 : v = .int i := rx
        have e2 : u = .int j := ry
        exact .inl ⟨i, j, e1, e2, PostD.here q rh rfl⟩
      | _ => exact False.elim q
    | str a =>
      cases y with
      | str b =>
        have e1 : v = .str a := rx
        have e2 : u = .str b := ry
        simp only [O2.ev] at q
        split at q
        · rename_i hl
          exact .inr (.inl ⟨a, b, e1, e2, by rw [← lim_eq]; exact hl, PostD.here q rh rfl⟩)
        · exact False.elim q
      | _ => exact False.elim q
    | ref a =>
      cases y with
      | ref b =>
        obtain ⟨p, e1, r1⟩ := rx
        obtain ⟨p2, e2, r2⟩ := ry
        simp only [O2.ev] at q
        split at q
        · rename_i xs ys hx hy
          obtain ⟨us, u1, k1⟩ := rh.lst hx r1
          obtain ⟨ws, w1, k2⟩ := rh.lst hy r2
          obtain ⟨hl, q'⟩ := PostD.mk q rh (k1.app k2)
          rw [List.length_append] at hl
          exact .inr (.inr ⟨p, p2, us, ws, e1, e2, u1, w1, hl, q'⟩)
        · exact False.elim q
      | _ => exact False.elim q
    | _ => exact False.elim q
  | sub =>
    cases x with
    | int i =>
      cases y with
      | int j => exact ⟨i, j, rx, ry, PostD.here q rh rfl⟩
      | _ => exact False.elim q
    | _ => exact False.elim q
  | mul =>
    cases x with
    | int i =>
      cases y with
      | int j =>
        simp only [O2.ev] at q
        split at q
        · rename_i hl
          refine .inl ⟨i, j, rx, ry, ?_, PostD.here q rh rfl⟩
          have h1 := sm_log hl.1
          have h2 := sm_log hl.2
          unfold CMulW
          omega
        · exact False.elim q
      | _ => exact False.elim q
    | ref a =>
      cases y with
      | int k =>
        obtain ⟨p, e1, r1⟩ := rx
        simp only [O2.ev] at q
        split at q
        · rename_i xs hx
          split at q
          · rename_i hk
            obtain ⟨us, u1, k1⟩ := rh.lst hx r1
            obtain ⟨hl, q'⟩ := PostD.mk q rh (k1.rep k.toNat)
            rw [List.length_flatten, List.map_replicate, List.sum_replicate_nat, Nat.mul_comm] at hl
            exact .inr (.inl ⟨p, k, us, e1, ry, u1, hk.1, hk.2, hl, q'⟩)
          · exact False.elim q
        · exact False.elim q
      | _ => exact False.elim q
    | str a =>
      cases y with
      | int k =>
        simp only [O2.ev] at q
        split at q
        · rename_i hk
          exact .inr (.inr ⟨a, k, rx, ry, hk.1, hk.2.1, hk.2.2, PostD.here q rh rfl⟩)
        · exact False.elim q
      | _ => exact False.elim q
    | _ => exact False.elim q
  | fdiv =>
    cases x with
    | int i =>
      cases y with
      | int j =>
        simp only [O2.ev] at q
        split at q
        · rename_i hl
          refine ⟨i, j, rx, ry, ⟨hl.1, ?_⟩, PostD.here q rh rfl⟩
          have h2 := sm_log hl.2
          omega
        · exact False.elim q
      | _ => exact False.elim q
    | _ => exact False.elim q
  | mod =>
    cases x with
    | int i =>
      cases y with
      | int j =>
        simp only [O2.ev] at q
        split at q
        · rename_i hl
          exact ⟨i, j, rx, ry, hl, PostD.here q rh rfl⟩
        · exact False.elim q
      | _ => exact False.elim q
    | _ => exact False.elim q
  | pow =>
    cases x with
    | int i =>
      cases y with
      | int j =>
        simp only [O2.ev] at q
        split at q
        · rename_i hl
          exact ⟨i, j, rx, ry, hl, PostD.here q rh rfl⟩
        · exact False.elim q
      | _ => exact False.elim q
    | _ => exact False.elim q
/-! ### in place -/
def rIp2 (K : PySem.W.Frag) : O2 → R2
  | .add => fun x y H Q => (rI0 fun i j => .int (i + j)) x y H Q ∨ ((∃ i j, x = .str i ∧ y = .str j ∧ i.length + j.length ≤ sizeLine ∧ Q (.str (i ++ j)) H) ∨ rExt2 x y H Q)
  | .sub => rI0 fun i j => .int (i - j)
  | _ => fun _ _ _ _ => False
theorem ip_all2 {X : Cx} (o : O2) : OpR X (inplaceOp o.py) (rIp2 X.K o) := by
  cases o with
  | add => exact iop_add.or (iop_add_str.or iop_ext)
  | sub => exact iop_sub
  | _ => exact fun _ _ _ _ _ _ _ _ _ _ _ _ z => z.elim
theorem ip_ok (o : O2) {x y : D} {v u : V} (rh : RelH K ρ h H) (rx : RelD ρ H x v) (ry : RelD ρ H y u) (q : PostD K XI E ρ H (o.ip x y h) Q) : rIp2 K o v u H Q := by
  cases o with
  | add =>
    cases x with
    | int i =>
      cases y with
      | int j => exact .inl ⟨i, j, rx, ry, PostD.here q rh rfl⟩
      | _ => exact False.elim q
    | str a =>
      cases y with
      | str b =>
        simp only [O2.ip] at q
        split at q
        · rename_i hl
          exact .inr (.inl ⟨a, b, rx, ry, by rw [← lim_eq]; exact hl, PostD.here q rh rfl⟩)
        · exact False.elim q
      | _ => exact False.elim q
    | ref a =>
      cases y with
      | ref b =>
        obtain ⟨p, e1, r1⟩ := rx
        obtain ⟨p2, e2, r2⟩ := ry
        simp only [O2.ip] at q
        split at q
        · rename_i xs ys hx hy
          split at q
          · rename_i hl
            obtain ⟨us, u1, k1⟩ := rh.lst hx r1
            obtain ⟨ws, w1, k2⟩ := rh.lst hy r2
            refine .inr (.inr ⟨p, p2, us, ws, e1, e2, u1, w1, ?_, PostD.set q rh hx r1 (k1.app k2) ⟨p, rfl, r1⟩⟩)
            rw [← k1.len, ← k2.len, ← lim_eq]; exact hl.1
          · exact False.elim q
        · exact False.elim q
      | _ => exact False.elim q
    | _ => exact False.elim q
  | sub =>
    cases x with
    | int i =>
      cases y with
      | int j => exact ⟨i, j, rx, ry, PostD.here q rh rfl⟩
      | _ => exact False.elim q
    | _ => exact False.elim q
  | _ => exact False.elim q
end

/-! ### data as a whole -/
section
variable {K : PySem.W.Frag} {ρ : List Addr} {h : Hv} {H : Hp}
theorem dat_ok (rh : RelH K ρ h H) : ∀ (n : Nat) (d : D) (v : V) (p : PyData), RelD ρ H d v → dat n h d = some p → Dp K H v p
  | 0, _, _, _, _, e => by simp [dat] at e
  | n + 1, d, v, p, r, e => by
    have all : ∀ (xs : List D) (vs : List V) (ds : List PyData), RelDs ρ H xs vs → optAll (dat n h) xs = some ds → DpAll K H vs ds := by
      intro xs
      induction xs with
      | nil =>
        intro vs ds r e
        cases r
        simp [optAll] at e
        subst e
        exact .nil
      | cons x xs ih =>
        intro vs ds r e
        obtain ⟨w, ws, rfl, r1, rs⟩ := r
        simp only [optAll] at e
        split at e
        · rename_i y hy
          split at e
          · rename_i ys hys
            cases e
            exact .cons (dat_ok rh n x w y r1 hy) (ih ws ys rs hys)
          · cases e
        · cases e
    cases d with
    | non => have e1 : v = .non := r; subst e1; simp [dat] at e; subst e; exact .non
    | bl b => have e1 : v = .bl b := r; subst e1; simp [dat] at e; subst e; exact .bl b
    | int i => have e1 : v = .int i := r; subst e1; simp [dat] at e; subst e; exact .int i
    | str x => have e1 : v = .str x := r; subst e1; simp [dat] at e; subst e; exact .str x
    | tup xs =>
      obtain ⟨a, vs, e1, e2, r1⟩ := r
      subst e1
      simp only [dat] at e
      split at e
      · rename_i ds hds
        cases e
        exact .tup (SqT.of e2) (all xs vs ds r1 hds)
      · cases e
    | ref a =>
      obtain ⟨q, e1, r1⟩ := r
      subst e1
      simp only [dat] at e
      split at e
      · rename_i xs hx
        split at e
        · rename_i ds hds
          cases e
          obtain ⟨vs, s1, s2⟩ := rh.get hx r1
          exact .lst s1 (all xs vs ds s2 hds)
        · cases e
      · cases e
end

/-! ### comparisons -/
def rEqA (K : PySem.W.Frag) : R2 := fun x y H Q => rEq x y H Q ∨ rEqD K x y H Q
def rNeA (K : PySem.W.Frag) : R2 := fun x y H Q => rNe x y H Q ∨ rNeD K x y H Q
def rInS : R2 := fun x y H Q => ∃ (c : Nat) (z : Str), x = .str ⟨#[c]⟩ ∧ y = .str z ∧ Q (.bl (decide (c ∈ z.cps.toList))) H
def rNinS : R2 := fun x y H Q => ∃ (c : Nat) (z : Str), x = .str ⟨#[c]⟩ ∧ y = .str z ∧ Q (.bl (!decide (c ∈ z.cps.toList))) H
def rInA (K : PySem.W.Frag) : R2 := fun x y H Q => rIn K false x y H Q ∨ (rInD K x y H Q ∨ rInS x y H Q)
def rNinA (K : PySem.W.Frag) : R2 := fun x y H Q => rIn K true x y H Q ∨ (rNotInD K x y H Q ∨ rNinS x y H Q)
def rCmpA (K : PySem.W.Frag) : Oc → R2
  | .eq => rEqA K
  | .ne => rNeA K
  | .lt => rI0 fun i j => .bl (decide (i < j))
  | .le => rI0 fun i j => .bl (decide (i ≤ j))
  | .gt => rI0 fun i j => .bl (decide (j < i))
  | .ge => rI0 fun i j => .bl (decide (j ≤ i))
  | .inn => rInA K
  | .nin => rNinA K
def Oc.py : Oc → CmpOp
  | .eq => .Eq
  | .ne => .NotEq
  | .lt => .Lt
  | .le => .LtE
  | .gt => .Gt
  | .ge => .GtE
  | .inn => .In
  | .nin => .NotIn
theorem op_cmpA {X : Cx} (hu : X.A.units + 65 < cLine) (o : Oc) : OpR X (compareOp o.py) (rCmpA X.K o) := by
  cases o with
  | eq => exact op_eq.or (op_eqD (by omega))
  | ne => exact op_ne.or (op_neD (by omega))
  | lt => exact op_lt
  | le => exact op_le
  | gt => exact op_gt
  | ge => exact op_ge
  | inn => exact op_in_seq.or ((op_inD hu).or op_in_sign)
  | nin => exact op_notIn_seq.or ((op_notInD hu).or op_notIn_sign)
section
variable {K : PySem.W.Frag} {ρ : List Addr} {h : Hv} {H : Hp} {Q : VK}
/-- == by values, whatever is asked of the answer -/
theorem eq_ok {x y : D} {v u : V} {b : Bool} (rh : RelH K ρ h H) (rx : RelD ρ H x v) (ry : RelD ρ H y u) (e : eqD h x y = some b) :
    (scal v u = true ∧ decide (v = u) = b) ∨ ∃ d f, Dp K H v d ∧ Dp K H u f ∧ SeqAt.shaped d = true ∧ SeqAt.shaped f = true ∧ PyData.eqv d f = b := by
  have deep : (match dat dp h x, dat dp h y with
      | some d, some e => if SeqAt.shaped d = true ∧ SeqAt.shaped e = true then some (PyData.eqv d e) else none
      | _, _ => none) = some b → (scal v u = true ∧ decide (v = u) = b) ∨ ∃ d f, Dp K H v d ∧ Dp K H u f ∧ SeqAt.shaped d = true ∧ SeqAt.shaped f = true ∧ PyData.eqv d f = b := fun z => by
    split at z
    · rename_i d f hd hf
      split at z
      · rename_i hs
        cases z
        exact .inr ⟨d, f, dat_ok rh _ _ _ _ rx hd, dat_ok rh _ _ _ _ ry hf, hs.1, hs.2, rfl⟩
      · cases z
    · cases z
  cases x with
  | int i =>
    cases y with
    | int j =>
      have e1 : v = .int i := rx
      have e2 : u = .int j := ry
      subst e1 e2
      simp only [eqD] at e
      cases e
      exact .inl ⟨rfl, by simp⟩
    | str j =>
      have e1 : v = .int i := rx
      have e2 : u = .str j := ry
      subst e1 e2
      simp only [eqD] at e
      cases e
      exact .inl ⟨rfl, by simp⟩
    | non =>
      have e1 : v = .int i := rx
      have e2 : u = .non := ry
      subst e1 e2
      simp only [eqD] at e
      cases e
      exact .inl ⟨rfl, by simp⟩
    | _ => exact deep e
  | str i =>
    cases y with
    | int j =>
      have e1 : v = .str i := rx
      have e2 : u = .int j := ry
      subst e1 e2
      simp only [eqD] at e
      cases e
      exact .inl ⟨rfl, by simp⟩
    | str j =>
      have e1 : v = .str i := rx
      have e2 : u = .str j := ry
      subst e1 e2
      simp only [eqD] at e
      cases e
      exact .inl ⟨rfl, by simp⟩
    | non =>
      have e1 : v = .str i := rx
      have e2 : u = .non := ry
      subst e1 e2
      simp only [eqD] at e
      cases e
      exact .inl ⟨rfl, by simp⟩
    | _ => exact deep e
  | non =>
    cases y with
    | int j =>
      have e1 : v = .non := rx
      have e2 : u = .int j := ry
      subst e1 e2
      simp only [eqD] at e
      cases e
      exact .inl ⟨rfl, by simp⟩
    | str j =>
      have e1 : v = .non := rx
      have e2 : u = .str j := ry
      subst e1 e2
      simp only [eqD] at e
      cases e
      exact .inl ⟨rfl, by simp⟩
    | non =>
      have e1 : v = .non := rx
      have e2 : u = .non := ry
      subst e1 e2
      simp only [eqD] at e
      cases e
      exact .inl ⟨rfl, by simp⟩
    | _ => exact deep e
  | bl i =>
    cases y with
    | bl j =>
      have e1 : v = .bl i := rx
      have e2 : u = .bl j := ry
      subst e1 e2
      simp only [eqD] at e
      cases e
      exact .inl ⟨rfl, by simp⟩
    | _ => exact deep e
  | tup i => exact deep e
  | ref i => exact deep e
theorem flat_ok {x : D} {v : V} (r : RelD ρ H x v) (f : flatD x = true) : flatV v = true := by
  cases x with
  | non => have e1 : v = .non := r; subst e1; rfl
  | bl b => have e1 : v = .bl b := r; subst e1; rfl
  | int i => have e1 : v = .int i := r; subst e1; rfl
  | str x => have e1 : v = .str x := r; subst e1; rfl
  | tup xs => cases f
  | ref a => cases f
theorem flats_ok : ∀ {xs : List D} {vs : List V}, RelDs ρ H xs vs → xs.all flatD = true → vs.all flatV = true
  | [], _, r, _ => by cases r; rfl
  | x :: xs, _, r, f => by
    obtain ⟨w, ws, rfl, r1, rs⟩ := r
    rw [List.all_cons, Bool.and_eq_true] at f
    rw [List.all_cons, flat_ok r1 f.1, flats_ok rs f.2]; rfl
theorem eqF_ok {x y : D} {v u : V} (rx : RelD ρ H x v) (ry : RelD ρ H y u) (f : flatD x = true) (g : flatD y = true) : eqV v u = eqF x y := by
  cases x <;> first
    | (cases f; done)
    | (cases y <;> first
        | (cases g; done)
        | (have e1 := rx
           have e2 := ry
           simp only [RelD] at e1 e2
           subst e1 e2
           first
             | rfl
             | (simp only [eqV, eqF]; rw [Bool.eq_iff_iff]; simp)))
theorem anyF_ok {x : D} {v : V} (rx : RelD ρ H x v) (f : flatD x = true) : ∀ {xs : List D} {vs : List V}, RelDs ρ H xs vs → xs.all flatD = true → inV v vs = xs.any fun z => eqF z x
  | [], _, r, _ => by cases r; rfl
  | y :: xs, _, r, g => by
    obtain ⟨w, ws, rfl, r1, rs⟩ := r
    rw [List.all_cons, Bool.and_eq_true] at g
    have ih := anyF_ok rx f rs g.2
    unfold inV at ih ⊢
    rw [List.any_cons, List.any_cons, eqF_ok r1 rx g.1 f, ih]
theorem has_ok {x y : D} {v u : V} {b : Bool} (rh : RelH K ρ h H) (rx : RelD ρ H x v) (ry : RelD ρ H y u) (e : hasD h x y = some b) :
    (∃ p xs, u = .ref p ∧ (SqL K H p xs ∨ SqT K H p xs) ∧ flatV v = true ∧ xs.all flatV = true ∧ inV v xs = b) ∨
      (∃ d ds, Dp K H v d ∧ Dp K H u (.list ds) ∧ SeqAt.shaped d = true ∧ SeqAt.shaped (.list ds) = true ∧ (ds.any fun z => PyData.eqv z d) = b) ∨
      ∃ (c : Nat) (z : Str), v = .str ⟨#[c]⟩ ∧ u = .str z ∧ decide (c ∈ z.cps.toList) = b := by
  cases y with
  | str z =>
    simp only [hasD] at e
    split at e
    · rename_i a
      split at e
      · rename_i c hc
        cases e
        have ea : a = ⟨#[c]⟩ := by
          cases a with
          | mk cps =>
            have : cps = #[c] := by rw [← Array.toArray_toList (xs := cps)]; exact congrArg List.toArray hc
            rw [this]
        exact .inr (.inr ⟨c, z, by rw [← ea]; exact rx, ry, rfl⟩)
      · cases e
    · cases e
  | tup ys =>
    obtain ⟨p, xs, e1, e2, r2⟩ := ry
    simp only [hasD] at e
    split at e
    · rename_i hf
      cases e
      exact .inl ⟨p, xs, e1, .inr (SqT.of e2), flat_ok rx hf.1, flats_ok r2 hf.2, anyF_ok rx hf.1 r2 hf.2⟩
    · cases e
  | ref a =>
    obtain ⟨p, e1, e2⟩ := ry
    simp only [hasD] at e
    split at e
    · rename_i ys hys
      obtain ⟨xs, s1, s2⟩ := rh.get hys e2
      split at e
      · rename_i hf
        cases e
        exact .inl ⟨p, xs, e1, .inl s1, flat_ok rx hf.1, flats_ok s2 hf.2, anyF_ok rx hf.1 s2 hf.2⟩
      · split at e
        · rename_i d ds hd hds
          split at e
          · rename_i hs
            cases e
            exact .inr (.inl ⟨d, ds, dat_ok rh _ _ _ _ rx hd, dat_ok rh _ (.ref a) u _ ⟨p, e1, e2⟩ hds, hs.1, hs.2, rfl⟩)
          · cases e
        · cases e
    · cases e
  | _ => cases e
theorem cmp_ok (o : Oc) {x y : D} {v u : V} {b : Bool} (rh : RelH K ρ h H) (rx : RelD ρ H x v) (ry : RelD ρ H y u) (e : o.ev x y h = some b) (q : Q (.bl b) H) : rCmpA K o v u H Q := by
  have int2 : ∀ {i j : Int}, x = .int i → y = .int j → v = .int i ∧ u = .int j := fun hx hy => by subst hx hy; exact ⟨rx, ry⟩
  cases o with
  | eq =>
    rcases eq_ok rh rx ry e with ⟨h1, h2⟩ | ⟨d, f, h1, h2, h3, h4, h5⟩
    · exact .inl ⟨h1, by rw [h2]; exact q⟩
    · exact .inr ⟨d, f, h1, h2, h3, h4, by rw [h5]; exact q⟩
  | ne =>
    simp only [Oc.ev, Option.map_eq_some_iff] at e
    obtain ⟨k, e, rfl⟩ := e
    rcases eq_ok rh rx ry e with ⟨h1, h2⟩ | ⟨d, f, h1, h2, h3, h4, h5⟩
    · exact .inl ⟨h1, by rw [h2]; exact q⟩
    · exact .inr ⟨d, f, h1, h2, h3, h4, by rw [h5]; exact q⟩
  | lt =>
    simp only [Oc.ev] at e
    split at e
    · cases e; exact ⟨_, _, (int2 rfl rfl).1, (int2 rfl rfl).2, q⟩
    · cases e
  | le =>
    simp only [Oc.ev] at e
    split at e
    · cases e; exact ⟨_, _, (int2 rfl rfl).1, (int2 rfl rfl).2, q⟩
    · cases e
  | gt =>
    simp only [Oc.ev] at e
    split at e
    · cases e; exact ⟨_, _, (int2 rfl rfl).1, (int2 rfl rfl).2, q⟩
    · cases e
  | ge =>
    simp only [Oc.ev] at e
    split at e
    · cases e; exact ⟨_, _, (int2 rfl rfl).1, (int2 rfl rfl).2, q⟩
    · cases e
  | inn =>
    rcases has_ok rh rx ry e with ⟨p, xs, h1, h2, h3, h4, h5⟩ | ⟨d, ds, h1, h2, h3, h4, h5⟩ | ⟨cc, z, h1, h2, h3⟩
    · exact .inl ⟨p, xs, h1, h2, h3, h4, by simp only [Bool.false_eq_true, if_false]; rw [h5]; exact q⟩
    · exact .inr (.inl ⟨d, ds, h1, h2, h3, h4, by rw [h5]; exact q⟩)
    · exact .inr (.inr ⟨cc, z, h1, h2, by rw [h3]; exact q⟩)
  | nin =>
    simp only [Oc.ev, Option.map_eq_some_iff] at e
    obtain ⟨k, e, rfl⟩ := e
    rcases has_ok rh rx ry e with ⟨p, xs, h1, h2, h3, h4, h5⟩ | ⟨d, ds, h1, h2, h3, h4, h5⟩ | ⟨cc, z, h1, h2, h3⟩
    · exact .inl ⟨p, xs, h1, h2, h3, h4, by simp only [if_true]; rw [h5]; exact q⟩
    · exact .inr (.inl ⟨d, ds, h1, h2, h3, h4, by rw [h5]; exact q⟩)
    · exact .inr (.inr ⟨cc, z, h1, h2, by rw [h3]; exact q⟩)
theorem tru_okD {x : D} {v : V} {b : Bool} (rh : RelH K ρ h H) (rx : RelD ρ H x v) (e : tru x h = some b) : TruV K v H b := by
  cases x with
  | non => have e1 : v = .non := rx; subst e1; simp only [tru] at e; cases e; rfl
  | bl k => have e1 : v = .bl k := rx; subst e1; simp only [tru] at e; cases e; rfl
  | int i =>
    have e1 : v = .int i := rx
    subst e1
    simp only [tru] at e
    cases e
    show decide (i ≠ 0) = (i != 0)
    rw [bne, Bool.beq_eq_decide_eq, decide_not]
  | str x => cases e
  | tup xs =>
    obtain ⟨p, vs, e1, e2, r⟩ := rx
    subst e1
    simp only [tru] at e
    cases e
    exact .inr (.inl ⟨vs, SqT.of e2, by rw [r.nil_iff]⟩)
  | ref a =>
    obtain ⟨p, e1, e2⟩ := rx
    subst e1
    simp only [tru, Option.map_eq_some_iff] at e
    obtain ⟨xs, hx, rfl⟩ := e
    obtain ⟨vs, s1, s2⟩ := rh.get hx e2
    exact .inl ⟨vs, s1, by rw [s2.nil_iff]⟩
end
end G4

/-! G5: items, slices, built-in functions, methods, by values. -/
namespace G4
open PySem PySem.Spec PyProof.Rows L2

section
variable {K : PySem.W.Frag} {XI : XInfo} {E : XK} {ρ : List Addr} {h : Hv} {H : Hp} {Q : VK}
theorem atI_rel {xs : List D} {vs : List V} {i : Int} {d : D} (r : RelDs ρ H xs vs) (e : ((idx xs.length i).bind fun j => xs[j]?) = some d) : ∃ v, atI vs i = some v ∧ RelD ρ H d v := by
  unfold atI
  rw [ixN_idx, ← r.len]
  cases q : idx xs.length i with
  | none => rw [q] at e; cases e
  | some j =>
    rw [q] at e
    exact r.get e
theorem item_ok {x y : D} {v u : V} (rh : RelH K ρ h H) (rx : RelD ρ H x v) (ry : RelD ρ H y u) (q : PostD K XI E ρ H (itemD x y h) Q) : rIx K v u H Q := by
  cases y with
  | int i =>
    cases x with
    | tup xs =>
      obtain ⟨p, vs, e1, e2, r⟩ := rx
      simp only [itemD] at q
      split at q
      · rename_i d hd
        obtain ⟨w, w1, w2⟩ := atI_rel r hd
        exact .inr (.inl ⟨p, vs, i, w, e1, ry, SqT.of e2, w1, q.here rh w2⟩)
      · exact False.elim q
    | ref a =>
      obtain ⟨p, e1, e2⟩ := rx
      simp only [itemD] at q
      split at q
      · rename_i xs hx
        obtain ⟨vs, s1, s2⟩ := rh.get hx e2
        split at q
        · rename_i d hd
          obtain ⟨w, w1, w2⟩ := atI_rel s2 hd
          exact .inl ⟨p, vs, i, w, e1, ry, s1, w1, q.here rh w2⟩
        · exact False.elim q
      · exact False.elim q
    | str z =>
      simp only [itemD] at q
      split at q
      · rename_i hz
        split at q
        · rename_i c hc
          exact .inr (.inr ⟨z, i, c, rx, ry, by rw [← lim_eq]; exact hz, hc, q.here rh rfl⟩)
        · exact False.elim q
      · exact False.elim q
    | _ => exact False.elim q
  | _ => cases x <;> exact False.elim q
theorem cut_rel {xs : List D} {vs : List V} {lo hi : Option Int} (r : RelDs ρ H xs vs) : RelDs ρ H (cut xs lo hi) (cutV vs lo hi) := by
  unfold cut cutV
  rw [← r.len]
  exact (r.drop _).take _
def rSlA (K : PySem.W.Frag) : V → Option Int → Option Int → Hp → VK → Prop := fun x lo hi H Q => rSlL K x lo hi H Q ∨ rSlS x lo hi H Q
theorem slice_ok {x : D} {v : V} {lo hi : Option Int} (rh : RelH K ρ h H) (rx : RelD ρ H x v) (q : PostD K XI E ρ H (sliceD x lo hi h) Q) : rSlA K v lo hi H Q := by
  cases x with
  | str z =>
    simp only [sliceD] at q
    split at q
    · rename_i hz
      exact .inr ⟨z, rx, by rw [← lim_eq]; exact hz, q.here rh rfl⟩
    · exact False.elim q
  | ref a =>
    obtain ⟨p, e1, e2⟩ := rx
    simp only [sliceD] at q
    split at q
    · rename_i xs hx
      obtain ⟨vs, s1, s2⟩ := rh.get hx e2
      exact .inl ⟨p, vs, e1, s1, q.newl rh (cut_rel s2)⟩
    · exact False.elim q
  | _ => exact False.elim q
end

/-! ### built-in functions -/
theorem maxI_is : ∀ (n : Int) (ns : List Int), maxI (n :: ns) ∈ n :: ns ∧ ∀ y ∈ n :: ns, y ≤ maxI (n :: ns)
  | n, [] => ⟨by simp [maxI], fun y hy => by simp at hy; subst hy; simp [maxI]⟩
  | n, m :: ns => by
    obtain ⟨h1, h2⟩ := maxI_is m ns
    simp only [maxI]
    split
    · rename_i hg
      refine ⟨List.mem_cons_of_mem _ h1, fun y hy => ?_⟩
      rcases List.mem_cons.mp hy with rfl | hy
      · omega
      · exact h2 y hy
    · rename_i hg
      refine ⟨List.mem_cons_self, fun y hy => ?_⟩
      rcases List.mem_cons.mp hy with rfl | hy
      · exact Int.le_refl _
      · have := h2 y hy
        omega
theorem minI_is : ∀ (n : Int) (ns : List Int), minI (n :: ns) ∈ n :: ns ∧ ∀ y ∈ n :: ns, minI (n :: ns) ≤ y
  | n, [] => ⟨by simp [minI], fun y hy => by simp at hy; subst hy; simp [minI]⟩
  | n, m :: ns => by
    obtain ⟨h1, h2⟩ := minI_is m ns
    simp only [minI]
    split
    · rename_i hg
      refine ⟨List.mem_cons_of_mem _ h1, fun y hy => ?_⟩
      rcases List.mem_cons.mp hy with rfl | hy
      · omega
      · exact h2 y hy
    · rename_i hg
      refine ⟨List.mem_cons_self, fun y hy => ?_⟩
      rcases List.mem_cons.mp hy with rfl | hy
      · exact Int.le_refl _
      · have := h2 y hy
        omega
def rRepr (K : PySem.W.Frag) : List V → Hp → VK → Prop := fun xs H Q => ∃ v p, xs = [v] ∧ Dp K H v p ∧ p.showable = true ∧ p.hasDict = false ∧ p.depth ≤ 12 ∧ p.shown.length ≤ sizeLine ∧ Q (.str p.shown) H
theorem call_reprA {X : Cx} (hg : X.A.guards = some []) (hu : X.A.units + 64 < cLine) : CallR X (.builtin "repr") (rRepr X.K) := by
  intro pins s σ H vs us Q I r q
  obtain ⟨v, p, rfl, hd, hs, hn, hdp, hl, q⟩ := q
  obtain ⟨u, rfl, ru⟩ := vals1 r
  cases hd with
  | non =>
    cases ru
    exact P.repr_of_none ⟨.str _, H, I.tok _, ⟨_, rfl⟩, q⟩
  | bl b =>
    cases ru
    exact P.repr_of_bool ⟨.str _, H, I.tok _, ⟨_, rfl⟩, q⟩
  | int i =>
    obtain ⟨t, rfl⟩ := ru
    exact P.repr_of_int (of_decide_eq_true hs) ⟨.str _, H, I.tok _, ⟨_, rfl⟩, q⟩
  | str x =>
    obtain ⟨t, rfl⟩ := ru
    exact P.repr_of_str ⟨.str _, H, I.tok _, ⟨_, rfl⟩, q⟩ hl
  | lst h1 h2 =>
    obtain ⟨as, rd⟩ := Dp.reads I _ _ u (.lst h1 h2) ru
    cases ru
    exact repr_of_reads' rd hs (fun z => by rw [hn] at z; cases z) hg (by omega) (fun _ _ e => e) (fun h' u' tk k => ⟨.str _, H, I.kept (t' := tk) k, ⟨_, rfl⟩, q⟩) hl
  | tup h1 h2 =>
    obtain ⟨as, rd⟩ := Dp.reads I _ _ u (.tup h1 h2) ru
    cases ru
    exact repr_of_reads' rd hs (fun z => by rw [hn] at z; cases z) hg (by omega) (fun _ _ e => e) (fun h' u' tk k => ⟨.str _, H, I.kept (t' := tk) k, ⟨_, rfl⟩, q⟩) hl
theorem strs_rel {ρ : List Addr} {H : Hp} : ∀ ys : List Str, RelDs ρ H (ys.map D.str) (ys.map V.str)
  | [] => rfl
  | y :: ys => ⟨_, _, rfl, rfl, strs_rel ys⟩
theorem strs_of {ρ : List Addr} {H : Hp} : ∀ {ds : List D} {vs : List V} {ns : List Str}, RelDs ρ H ds vs → optAll dStr ds = some ns → vs = ns.map V.str
  | [], _, ns, h, e => by
    cases h
    simp [optAll] at e; subst e; rfl
  | d :: ds, _, ns, h, e => by
    obtain ⟨w, ws, rfl, r, rs⟩ := h
    cases d with
    | str i =>
      have hw : w = .str i := r
      subst hw
      simp only [optAll, dStr] at e
      cases q : optAll dStr ds with
      | none => rw [q] at e; cases e
      | some ms =>
        rw [q] at e
        cases e
        rw [strs_of rs q]
        rfl
    | _ => simp [optAll, dStr] at e
def Bu.py : Bu → Str
  | .abs => "abs"
  | .max => "max"
  | .min => "min"
  | .len => "len"
  | .int => "int"
  | .sum => "sum"
  | .any => "any"
  | .all => "all"
  | .list => "list"
  | .tuple => "tuple"
  | .repr => "repr"
  | .divmod => "divmod"
  | .str => "str"
def Bu.fn : Bu → Value
  | .int => .type "int"
  | .list => .type "list"
  | .tuple => .type "tuple"
  | .abs => .builtin "abs"
  | .max => .builtin "max"
  | .min => .builtin "min"
  | .len => .builtin "len"
  | .sum => .builtin "sum"
  | .any => .builtin "any"
  | .all => .builtin "all"
  | .repr => .builtin "repr"
  | .divmod => .builtin "divmod"
  | .str => .type "str"
def Bu.isTy : Bu → Bool
  | .int => true
  | .list => true
  | .tuple => true
  | .str => true
  | _ => false
theorem Bu.boot (b : Bu) : bootBuiltins b.py = some b.fn := by cases b <;> decide +kernel
theorem Bu.nm (b : Bu) : b.py ≠ "__name__" := by cases b <;> decide
theorem Bu.db (b : Bu) : (b.py == ("__debug__" : Str)) = false := by cases b <;> decide
def rBu (K : PySem.W.Frag) : Bu → List V → Hp → VK → Prop
  | .abs => fun xs H Q => ∃ i, xs = [.int i] ∧ Q (.int (if i < 0 then -i else i)) H
  | .max => fun xs H Q => (∃ i j, xs = [.int i, .int j] ∧ Q (.int (if j > i then j else i)) H) ∨ rMax K xs H Q
  | .min => fun xs H Q => (∃ i j, xs = [.int i, .int j] ∧ Q (.int (if j < i then j else i)) H) ∨ rMin K xs H Q
  | .len => fun xs H Q => ∃ x n, xs = [x] ∧ LenV K x H n ∧ Q (.int n) H
  | .int => fun xs H Q => ((∃ i, xs = [.int i] ∧ Q (.int i) H) ∨ ∃ k, xs = [.bl k] ∧ Q (.int (if k then 1 else 0)) H) ∨ ∃ a n, xs = [.str a] ∧ PySem.intText? a = some n ∧ a.length ≤ 640 ∧ Q (.int n) H
  | .str => fun xs H Q => (∃ i, xs = [.int i] ∧ i.natAbs.log2 < 1920 ∧ Q (.str (toString i)) H) ∨ ∃ a, xs = [.str a] ∧ Q (.str a) H
  | .sum => rSum K
  | .any => rAny K
  | .all => rAll K
  | .list => fun xs H Q => ∃ p ys, xs = [.ref p] ∧ (SqL K H p ys ∨ SqT K H p ys) ∧ ∀ l, H l = none → Q (.ref l) (upd H l (.lst ys))
  | .tuple => fun xs H Q => ∃ p ys, xs = [.ref p] ∧ ((SqL K H p ys ∧ ∀ l, H l = none → Q (.ref l) (upd H l (.tup ys))) ∨ (SqT K H p ys ∧ Q (.ref p) H))
  | .repr => rRepr K
  | .divmod => fun xs H Q => ∃ i j, xs = [.int i, .int j] ∧ CDiv i j ∧ ∀ p, H p = none → Q (.ref p) (upd H p (.tup [.int (i / j), .int (i % j)]))
theorem call_bu {X : Cx} (hc : X.calm = true) (hg : X.A.guards = some []) (hu : X.A.units + 64 < cLine) (b : Bu) : CallR X b.fn (rBu X.K b) := by
  cases b with
  | abs => exact call_abs
  | max => exact (call_max2 hc).or (cr_max hc)
  | min => exact (call_min2 hc).or (cr_min hc)
  | len => exact call_len
  | int => exact call_int1.or call_int_str
  | str => exact call_str_int.or SkE.call_str_str
  | sum => exact cr_sum hc
  | any => exact cr_any hc
  | all => exact cr_all hc
  | list => exact call_list_of
  | tuple => exact call_tuple_of
  | repr => exact call_reprA hg hu
  | divmod => exact call_divmod
section
variable {K : PySem.W.Frag} {XI : XInfo} {E : XK} {ρ : List Addr} {h : Hv} {H : Hp} {Q : VK}
theorem one_rel {d : D} {vs : List V} (r : RelDs ρ H [d] vs) : ∃ v, vs = [v] ∧ RelD ρ H d v := by
  obtain ⟨w, ws, rfl, r1, rs⟩ := r
  cases rs
  exact ⟨w, rfl, r1⟩
theorem two_rel {d e : D} {vs : List V} (r : RelDs ρ H [d, e] vs) : ∃ v u, vs = [v, u] ∧ RelD ρ H d v ∧ RelD ρ H e u := by
  obtain ⟨w, ws, rfl, r1, rs⟩ := r
  obtain ⟨u, rfl, r2⟩ := one_rel rs
  exact ⟨w, u, rfl, r1, r2⟩
theorem bu_ok (b : Bu) {as : List D} {vs : List V} (rh : RelH K ρ h H) (r : RelDs ρ H as vs) (q : PostD K XI E ρ H (b.ev as h) Q) : rBu K b vs H Q := by
  unfold Bu.ev at q
  split at q
  · obtain ⟨v, rfl, e⟩ := one_rel r
    have e' : v = .int _ := e
    subst e'
    exact ⟨_, rfl, q.here rh rfl⟩
  · obtain ⟨v, u, rfl, e, f⟩ := two_rel r
    have e' : v = .int _ := e
    have f' : u = .int _ := f
    subst e' f'
    exact .inl ⟨_, _, rfl, q.here rh rfl⟩
  · obtain ⟨v, u, rfl, e, f⟩ := two_rel r
    have e' : v = .int _ := e
    have f' : u = .int _ := f
    subst e' f'
    exact .inl ⟨_, _, rfl, q.here rh rfl⟩
  · obtain ⟨v, rfl, p, rfl, e2⟩ := one_rel r
    split at q
    · rename_i xs hx
      obtain ⟨us, s1, s2⟩ := rh.get hx e2
      split at q
      · rename_i n ns hn
        have e3 := s2.ints hn
        subst e3
        refine .inr ⟨p, n :: ns, rfl, s1, by simp, fun m h1 h2 => ?_⟩
        have hm := maxI_is n ns
        have : m = maxI (n :: ns) := Int.le_antisymm (hm.2 m h1) (h2 _ hm.1)
        rw [this]
        exact q.here rh rfl
      · exact False.elim q
    · exact False.elim q
  · obtain ⟨v, rfl, p, rfl, e2⟩ := one_rel r
    split at q
    · rename_i xs hx
      obtain ⟨us, s1, s2⟩ := rh.get hx e2
      split at q
      · rename_i n ns hn
        have e3 := s2.ints hn
        subst e3
        refine .inr ⟨p, n :: ns, rfl, s1, by simp, fun m h1 h2 => ?_⟩
        have hm := minI_is n ns
        have : m = minI (n :: ns) := Int.le_antisymm (h2 _ hm.1) (hm.2 m h1)
        rw [this]
        exact q.here rh rfl
      · exact False.elim q
    · exact False.elim q
  · obtain ⟨v, rfl, p, rfl, e2⟩ := one_rel r
    split at q
    · rename_i xs hx
      obtain ⟨us, s1, s2⟩ := rh.get hx e2
      refine ⟨_, us.length, rfl, .inl ⟨us, s1, rfl⟩, ?_⟩
      rw [← s2.len]
      exact q.here rh rfl
    · exact False.elim q
  · obtain ⟨v, rfl, p, us, rfl, e2, s2⟩ := one_rel r
    refine ⟨_, us.length, rfl, .inr ⟨us, SqT.of e2, rfl⟩, ?_⟩
    rw [← s2.len]
    exact q.here rh rfl
  · obtain ⟨v, rfl, e⟩ := one_rel r
    have e' : v = .str _ := e
    subst e'
    split at q
    · rename_i hl
      exact ⟨_, _, rfl, ⟨by rw [← lim_eq]; exact hl, rfl⟩, q.here rh rfl⟩
    · exact False.elim q
  · obtain ⟨v, rfl, e⟩ := one_rel r
    have e' : v = .int _ := e
    subst e'
    exact .inl (.inl ⟨_, rfl, q.here rh rfl⟩)
  · obtain ⟨v, rfl, e⟩ := one_rel r
    have e' : v = .bl _ := e
    subst e'
    exact .inl (.inr ⟨_, rfl, q.here rh rfl⟩)
  · obtain ⟨v, rfl, p, rfl, e2⟩ := one_rel r
    split at q
    · rename_i xs hx
      obtain ⟨us, s1, s2⟩ := rh.get hx e2
      split at q
      · rename_i ns hn
        have e3 := s2.ints hn
        subst e3
        exact ⟨p, ns, rfl, s1, q.here rh rfl⟩
      · exact False.elim q
    · exact False.elim q
  · obtain ⟨v, rfl, p, rfl, e2⟩ := one_rel r
    split at q
    · rename_i xs hx
      obtain ⟨us, s1, s2⟩ := rh.get hx e2
      split at q
      · rename_i ns hn
        have e3 := s2.bls hn
        subst e3
        exact ⟨p, ns, rfl, s1, q.here rh rfl⟩
      · exact False.elim q
    · exact False.elim q
  · obtain ⟨v, rfl, p, rfl, e2⟩ := one_rel r
    split at q
    · rename_i xs hx
      obtain ⟨us, s1, s2⟩ := rh.get hx e2
      split at q
      · rename_i ns hn
        have e3 := s2.bls hn
        subst e3
        exact ⟨p, ns, rfl, s1, q.here rh rfl⟩
      · exact False.elim q
    · exact False.elim q
  · obtain ⟨v, rfl, p, rfl, e2⟩ := one_rel r
    split at q
    · rename_i xs hx
      obtain ⟨us, s1, s2⟩ := rh.get hx e2
      exact ⟨p, us, rfl, .inl s1, q.newl rh s2⟩
    · exact False.elim q
  · obtain ⟨v, rfl, p, us, rfl, e2, s2⟩ := one_rel r
    exact ⟨p, us, rfl, .inr (SqT.of e2), q.newl rh s2⟩
  · obtain ⟨v, rfl, p, rfl, e2⟩ := one_rel r
    split at q
    · rename_i xs hx
      obtain ⟨us, s1, s2⟩ := rh.get hx e2
      exact ⟨p, us, rfl, .inl ⟨s1, q.newt rh s2⟩⟩
    · exact False.elim q
  · obtain ⟨v, rfl, p, us, rfl, e2, s2⟩ := one_rel r
    exact ⟨p, us, rfl, .inr ⟨SqT.of e2, q.here rh ⟨p, us, rfl, e2, s2⟩⟩⟩
  · obtain ⟨v, rfl, e⟩ := one_rel r
    split at q
    · rename_i p hp
      split at q
      · rename_i hs
        exact ⟨v, p, rfl, dat_ok rh _ _ _ _ e hp, hs.1, hs.2.1, hs.2.2.1, by rw [← lim_eq]; exact hs.2.2.2, q.here rh rfl⟩
      · exact False.elim q
    · exact False.elim q
  · obtain ⟨v, u, rfl, e, f⟩ := two_rel r
    have e' : v = .int _ := e
    have f' : u = .int _ := f
    subst e' f'
    split at q
    · rename_i hs
      exact ⟨_, _, rfl, hs, q.newt rh ⟨_, _, rfl, rfl, _, _, rfl, rfl, rfl⟩⟩
    · exact False.elim q
  · obtain ⟨v, rfl, e⟩ := one_rel r
    have e' : v = .str _ := e
    subst e'
    split at q
    · rename_i n hn
      split at q
      · rename_i hl
        exact .inr ⟨_, n, rfl, hn, hl, q.here rh rfl⟩
      · exact False.elim q
    · exact False.elim q
  · obtain ⟨v, rfl, e⟩ := one_rel r
    have e' : v = .int _ := e
    subst e'
    split at q
    · rename_i hl
      exact .inl ⟨_, rfl, hl, q.here rh rfl⟩
    · exact False.elim q
  · obtain ⟨v, rfl, e⟩ := one_rel r
    have e' : v = .str _ := e
    subst e'
    exact .inr ⟨_, rfl, q.here rh rfl⟩
  · exact False.elim q

/-! ### methods -/
def Me.py : Me → Str
  | .append => "append"
  | .extend => "extend"
def rMe : Me → V → List V → Hp → VK → Prop
  | .append => rAppend
  | .extend => rExtend
theorem me_ok (m : Me) {o : D} {as : List D} {v : V} {vs : List V} (rh : RelH K ρ h H) (ro : RelD ρ H o v) (r : RelDs ρ H as vs) (q : PostD K XI E ρ H (m.ev o as h) Q) : rMe m v vs H Q := by
  unfold Me.ev at q
  split at q
  · obtain ⟨y, rfl, ry⟩ := one_rel r
    obtain ⟨p, rfl, e2⟩ := ro
    split at q
    · rename_i xs hx
      obtain ⟨us, s1, s2⟩ := rh.lst hx e2
      split at q
      · rename_i hl
        exact ⟨p, us, y, rfl, rfl, s1, by rw [← s2.len, ← lim_eq]; exact hl, PostD.set q rh hx e2 (s2.app (RelDs.one ry)) rfl⟩
      · exact False.elim q
    · exact False.elim q
  · obtain ⟨y, rfl, p2, rfl, e3⟩ := one_rel r
    obtain ⟨p, rfl, e2⟩ := ro
    split at q
    · rename_i xs ys hx hy
      obtain ⟨us, s1, s2⟩ := rh.lst hx e2
      obtain ⟨ws, s3, s4⟩ := rh.lst hy e3
      split at q
      · rename_i hl
        exact ⟨p, p2, us, ws, rfl, rfl, s1, s3, by rw [← s2.len, ← s4.len, ← lim_eq]; exact hl, PostD.set q rh hx e2 (s2.app s4) rfl⟩
      · exact False.elim q
    · exact False.elim q
  · exact False.elim q
end
/-! ### isinstance -/
def Ty.py : Ty → String
  | .int => "int"
  | .bool => "bool"
  | .str => "str"
  | .list => "list"
  | .tuple => "tuple"
  | .dict => "dict"
theorem Ty.boot (t : Ty) : bootBuiltins (Str.ofString t.py) = some (.type t.py) := by cases t <;> decide +kernel
theorem Ty.nm (t : Ty) : Str.ofString t.py ≠ "__name__" := by cases t <;> decide
theorem Ty.db (t : Ty) : (Str.ofString t.py == ("__debug__" : Str)) = false := by cases t <;> decide
inductive Kd where
  | non | bl | int | str | tup | lst
  deriving DecidableEq
def Kd.py : Kd → String
  | .non => "NoneType"
  | .bl => "bool"
  | .int => "int"
  | .str => "str"
  | .tup => "tuple"
  | .lst => "list"
def D.kd : D → Kd
  | .non => .non
  | .bl _ => .bl
  | .int _ => .int
  | .str _ => .str
  | .tup _ => .tup
  | .ref _ => .lst
def kindD (d : D) : String := d.kd.py
def Ty.hasK (t : Ty) : Kd → Bool
  | .non => false
  | .bl => match t with
    | .int => true
    | .bool => true
    | _ => false
  | .int => match t with
    | .int => true
    | _ => false
  | .str => match t with
    | .str => true
    | _ => false
  | .tup => match t with
    | .tuple => true
    | _ => false
  | .lst => match t with
    | .list => true
    | _ => false
theorem kitB_hasK (t : Ty) (k : Kd) : kitB k.py t.py = some (t.hasK k) := by
  cases k <;> cases t <;> decide +kernel
theorem has_hasK (t : Ty) (d : D) : t.has d = t.hasK d.kd := by cases d <;> rfl
theorem kitB_has (t : Ty) (d : D) : kitB (kindD d) t.py = some (t.has d) := by
  rw [has_hasK]
  exact kitB_hasK t d.kd
section
variable {K : PySem.W.Frag} {ρ : List Addr} {h : Hv} {H : Hp}
theorem tyX_ok {d : D} {v : V} (rh : RelH K ρ h H) (r : RelD ρ H d v) (ok : ∀ a, d = .ref a → a < h.length) : TyX K H v (.type (kindD d)) := by
  cases d with
  | non => have e : v = .non := r; subst e; exact .base .non
  | bl b => have e : v = .bl b := r; subst e; exact .base (.bl b)
  | int i => have e : v = .int i := r; subst e; exact .base (.int i)
  | str x => have e : v = .str x := r; subst e; exact .base (.str x)
  | tup xs =>
    obtain ⟨p, us, rfl, e2, _⟩ := r
    exact .base (.tup e2)
  | ref a =>
    obtain ⟨p, rfl, e2⟩ := r
    have hl := ok a rfl
    have ho := rh.ob a _ p (List.getElem?_eq_getElem hl) e2
    cases q : h[a] with
    | lst xs =>
      rw [q] at ho
      obtain ⟨us, u1, _⟩ := ho
      exact .base (.lst u1)
    | scr xs =>
      rw [q] at ho
      obtain ⟨us, u1, _⟩ := ho
      rcases u1 with ⟨o, u1⟩ | ⟨o, its, n, k1, k2, _⟩
      · exact .base (.frz u1)
      · exact .kList k1 k2
theorem ref_lt (rh : RelH K ρ h H) {d : D} {v : V} (r : RelD ρ H d v) : ∀ a, d = .ref a → a < h.length := fun a e => by
  subst e
  obtain ⟨p, _, e2⟩ := r
  rw [← rh.len]
  exact rho_lt e2
end
end G4

/-! G6: the contexts, the calls. -/
namespace G4
open PySem PySem.Spec PyProof.Rows L2

/-- what the checks go by: the functions' names, the built-in names that stand, the module's constants, how keywords lie -/
structure Cc where
  nm : Nat → Str
  bl : List Str
  gl : Str → Option D
  kw : Nat → Nat → List Str → Option (List Nat)
def permU (us : List Value) (pm : List Nat) : List Value := pm.map fun i => us.getD i .none
def permX (us : List V) (pm : List Nat) : List V := pm.map fun i => us.getD i .non
structure KwOk (fd : FuncData) (ps : List Str) (n : Nat) (ks : List Str) (pm : List Nat) : Prop where
  len : pm.length = ps.length
  lt : ∀ i ∈ pm, i < n + ks.length
  to : ∀ us ws : List Value, us.length = n → ws.length = ks.length → bindArgs fd ⟨us, ks.zip ws⟩ = pure (ps.zip (permU (us ++ ws) pm))
structure FnAt (T : Tab) (cc : Cc) (k : Nat) (P : Program) (w : World) (K : PySem.W.Frag) (XI : XInfo) (mg : Str → Option Value) (base : Heap) (f : Nat) (fn : Fn) (a : Addr) (fd : FuncData) (ps : List Str) : Prop where
  gl : mg (cc.nm f) = some (.ref a)
  kp : PySem.W.keepIn K (.ref a) = true
  np : ps.length = fn.np
  bn : ∀ us : List Value, us.length = ps.length → bindArgs fd ⟨us, []⟩ = pure (ps.zip us)
  kw : ∀ n ks pm, cc.kw f n ks = some pm → KwOk fd ps n ks pm
  ok : FnG P w K XI mg base k a fd ps (den T k f)
structure Stat (T : Tab) (cc : Cc) (k : Nat) (P : Program) (w : World) (K : PySem.W.Frag) (XI : XInfo) (mg : Str → Option Value) (base : Heap) : Prop where
  fn : ∀ f fn, T f = some fn → ∃ a fd ps, FnAt T cc k P w K XI mg base f fn a fd ps
  bl : ∀ x ∈ cc.bl, mg x = none
  gl : ∀ x d, cc.gl x = some d → ∃ u v, mg x = some u ∧ RelV v u ∧ ∀ ρ H, RelD ρ H d v
structure Gd (T : Tab) (cc : Cc) (k : Nat) (N : List Str) (so sc : Scope) (c : Ck) (X : Cx) : Prop where
  st : Stat T cc k X.prog X.w X.K c.XI X.mg X.base
  hK : c.K = X.K
  hN : X.N = N
  nd : N.Nodup
  hs : X.env.scope = sc
  kd : sc.kind = .function
  calm : X.calm = true
  fnl : ∀ x, so.names.lookup x = some .cell → X.fn x = true
  room : Room k X.A
  grd : X.A.guards = some []
  pas : ∀ σ, PassesAt (L2.CX X.prog X.w) X σ (c.E σ)
  own : PassesOwn (model X.prog X.w) X.A X.env X.xe

def noStar : Expr → Bool
  | .Starred .. => false
  | _ => true
theorem star_cons {e : Expr} {es : List Expr} {env : Env} (h : noStar e = true) : starEach (e :: es) env = (false, eval e env) :: starEach es env := by
  cases e <;> first | rfl | cases h
theorem star_all {env : Env} {pos : Pos} : ∀ {es : List Expr}, es.all noStar = true → (backTo pos (starEach es env)).any (·.1) = false
  | [], _ => rfl
  | e :: es, h => by
    rw [List.all_cons, Bool.and_eq_true] at h
    rw [star_cons h.1]
    show (false || (backTo pos (starEach es env)).any (·.1)) = false
    rw [star_all h.2]; rfl

section
variable {T : Tab} {cc : Cc} {k : Nat} {N : List Str} {so sc : Scope} {c : Ck} {X : Cx}
theorem den_len {K : PySem.W.Frag} {XI : XInfo} {E : XK} {ρ : List Addr} {H : Hp} {P : D → Hv → List Addr → Hp → Prop} {f : Nat} {fn : Fn} {ds : List D} {h : Hv} (hf : T f = some fn) (o : Out K XI E ρ H (den T k f ds h) P) : ds.length = fn.np := by
  cases k with
  | zero => exact False.elim o
  | succ k =>
    simp only [den, hf] at o
    unfold runFn at o
    split at o
    · assumption
    · exact False.elim o
/-- the callee runs -/
theorem run_fnG {pins : List (Addr × Obj)} {σ : L2.St} {H : Hp} {s : Shared} {Q : VK} {a : Addr} {fd : FuncData} {ps : List Str} {f : Nat} {fn : Fn} {us zs : List Value} {kws : List (Str × Value)} {vs : List V} {ds : List D} {ρ : List Addr} {h : Hv}
    (g : Gd T cc k N so sc c X) (F : FnAt T cc k X.prog X.w X.K c.XI X.mg X.base f fn a fd ps) (hf : T f = some fn) (hb : bindArgs fd ⟨us, kws⟩ = pure (ps.zip zs))
    (I : Inv X pins σ H s) (r : Vals vs zs) (rd : RelDs ρ H ds vs) (rh : RelH X.K ρ h H) (o : Out X.K c.XI (c.E σ) ρ H (den T k f ds h) fun d _ ρ' H' => ∀ v, RelD ρ' H' d v → Q v H') :
    wpAny (model X.prog X.w) X.A (call (.ref a) us kws) (EP X pins σ Q) X.xe s := by
  have hl : vs.length = ps.length := by rw [← rd.len, den_len hf o, F.np]
  refine wpAny_call (codeAny_mono (F.ok.run X.A X.stack s H ⟨us, kws⟩ zs vs ds ρ h Q (c.E σ) g.room g.grd I.env0 (.of_eq hb) hl r rd rh o) fun res s' hq => ?_)
  cases res with
  | error e => exact g.pas σ pins H s e s' I hq
  | ok fl =>
    cases fl with
    | ret u => exact I.after hq
    | next => exact False.elim hq
    | brk => exact False.elim hq
    | cont => exact False.elim hq
theorem pe_callG {f : Nat} {fn : Fn} {x : Str} {p pos : Pos} {e : Expr} {es : List Expr} {m : Sl → Hv → R (List D)} (g : Gd T cc k N so sc c X) (hf : T f = some fn) (hx : x = cc.nm f) (hg : Gl X x) (hdb : (x == ("__debug__" : Str)) = false) (n1 : noStar e = true) (ns : es.all noStar = true)
    (ha : PA X (e :: es) (tDs c m)) : PE X (.Call (.Name x p) (e :: es) [] pos) (tD c fun τ h => (m τ h).bind fun ds h => den T k f ds h) := by
  refine ⟨fun pins s σ H Q I q => ?_⟩
  obtain ⟨ρ, τ, h, rs, rh, o⟩ := q
  obtain ⟨a, fd, ps, F⟩ := g.st.fn f fn hf
  have hK := g.hK
  refine wpAny_Call_Name_kw (ld_glob I hg (by rw [hx]; exact F.gl) ?_ hdb)
  have goal : tDs c m σ H fun vs H1 => ∃ ρ1 h1 ds, RelDs ρ1 H1 ds vs ∧ RelH X.K ρ1 h1 H1 ∧ Out X.K c.XI (c.E σ) ρ1 H1 (den T k f ds h1) fun d _ ρ' H' => ∀ v, RelD ρ' H' d v → Q v H' :=
    ⟨ρ, τ, h, rs, rh, (Out.bind o).imp fun ds h1 ρ1 H1 e rh1 o1 vs rd => ⟨ρ1, h1, ds, rd, by rw [← hK]; exact rh1, by rw [← hK]; exact o1⟩⟩
  refine PySem.W.callWith_K (h₀ := X.base) I.ok.mod.kin F.kp (thn (ha.run pos pins s σ H _ I goal) fun us s1 ⟨vs, H1, I1, r, ρ1, h1, ds, rd, rh1, o1⟩ => ⟨I1.kIn, ?_⟩) (star_cons n1) (star_all ns)
  exact run_fnG g F hf (F.bn us (by rw [F.np, ← den_len hf o1, rd.len, r.length])) I1 r rd rh1 o1
theorem pe_callG0 {f : Nat} {fn : Fn} {x : Str} {p pos : Pos} (g : Gd T cc k N so sc c X) (hf : T f = some fn) (hx : x = cc.nm f) (hg : Gl X x) (hdb : (x == ("__debug__" : Str)) = false) :
    PE X (.Call (.Name x p) [] [] pos) (tD c fun τ h => den T k f [] h) := by
  refine ⟨fun pins s σ H Q I q => ?_⟩
  obtain ⟨ρ, τ, h, rs, rh, o⟩ := q
  obtain ⟨a, fd, ps, F⟩ := g.st.fn f fn hf
  rw [g.hK] at o rh
  refine wpAny_Call_Name_kw (ld_glob I hg (by rw [hx]; exact F.gl) ?_ hdb)
  refine PySem.W.callWith_K0 I.kIn F.kp ?_
  have rd : RelDs ρ H [] [] := rfl
  exact run_fnG (us := []) (zs := []) (vs := []) (ds := []) g F hf (F.bn [] (by rw [F.np, ← den_len hf o]; rfl)) I .nil rd rh o

/-! ### keywords -/
def kwVals (kws : List Keyword) : List Expr := kws.map fun kw => match kw with
  | ⟨_, e, _⟩ => e
def kwNames (kws : List Keyword) : List (Option Str) := kws.map fun kw => match kw with
  | ⟨n, _, _⟩ => n
theorem kw_isSome {env : Env} {pos : Pos} : ∀ {kws : List Keyword} {ks : List Str}, kwNames kws = ks.map some → (backToKw pos (keywordEach kws env)).all (·.1.isSome) = true
  | [], _, _ => rfl
  | ⟨n, e, p⟩ :: kws, [], h => by cases h
  | ⟨n, e, p⟩ :: kws, k :: ks, h => by
    have h1 : n = some k ∧ kwNames kws = ks.map some := by
      simp only [kwNames, List.map_cons, List.cons.injEq] at h
      exact h
    obtain ⟨rfl, h2⟩ := h1
    show (true && (backToKw pos (keywordEach kws env)).all (·.1.isSome)) = true
    rw [kw_isSome h2]; rfl
theorem kw_isNone {env : Env} {pos : Pos} : ∀ {kws : List Keyword} {ks : List Str}, kwNames kws = ks.map some → (backToKw pos (keywordEach kws env)).any (·.1.isNone) = false
  | [], _, _ => rfl
  | ⟨n, e, p⟩ :: kws, [], h => by cases h
  | ⟨n, e, p⟩ :: kws, k :: ks, h => by
    have h1 : n = some k ∧ kwNames kws = ks.map some := by
      simp only [kwNames, List.map_cons, List.cons.injEq] at h
      exact h
    obtain ⟨rfl, h2⟩ := h1
    show (false || (backToKw pos (keywordEach kws env)).any (·.1.isNone)) = false
    rw [kw_isNone h2]; rfl
theorem kw_names {env : Env} {pos : Pos} : ∀ {kws : List Keyword} {ks : List Str}, kwNames kws = ks.map some → (backToKw pos (keywordEach kws env)).filterMap (·.1) = ks
  | [], [], _ => rfl
  | [], _ :: _, h => by cases h
  | ⟨n, e, p⟩ :: kws, [], h => by cases h
  | ⟨n, e, p⟩ :: kws, k :: ks, h => by
    have h1 : n = some k ∧ kwNames kws = ks.map some := by
      simp only [kwNames, List.map_cons, List.cons.injEq] at h
      exact h
    obtain ⟨rfl, h2⟩ := h1
    show k :: (backToKw pos (keywordEach kws env)).filterMap (·.1) = k :: ks
    rw [kw_names h2]
theorem perm_vals {zs : List V} {ws : List Value} (r : Vals zs ws) : ∀ {pm : List Nat}, (∀ i ∈ pm, i < zs.length) → Vals (permX zs pm) (permU ws pm)
  | [], _ => .nil
  | i :: pm, h => by
    have hi : i < zs.length := h i List.mem_cons_self
    obtain ⟨u, e1, r1⟩ := r.get (List.getElem?_eq_getElem hi)
    have e2 : zs.getD i .non = zs[i] := by rw [List.getD_eq_getElem?_getD, List.getElem?_eq_getElem hi]; rfl
    have e3 : ws.getD i .none = u := by rw [List.getD_eq_getElem?_getD, e1]; rfl
    show Vals (zs.getD i .non :: permX zs pm) (ws.getD i .none :: permU ws pm)
    rw [e2, e3]
    exact .cons r1 (perm_vals r fun j hj => h j (List.mem_cons_of_mem _ hj))
theorem perm_rel {ρ : List Addr} {H : Hp} {ds : List D} {vs : List V} (r : RelDs ρ H ds vs) : ∀ {pm : List Nat}, (∀ i ∈ pm, i < ds.length) → RelDs ρ H (permV ds pm) (permX vs pm)
  | [], _ => rfl
  | i :: pm, h => by
    have hi : i < ds.length := h i List.mem_cons_self
    obtain ⟨u, e1, r1⟩ := r.get (List.getElem?_eq_getElem hi)
    have e2 : ds.getD i .non = ds[i] := by rw [List.getD_eq_getElem?_getD, List.getElem?_eq_getElem hi]; rfl
    have e3 : vs.getD i .non = u := by rw [List.getD_eq_getElem?_getD, e1]; rfl
    refine ⟨u, permX vs pm, by show vs.getD i .non :: permX vs pm = _; rw [e3], ?_, perm_rel r fun j hj => h j (List.mem_cons_of_mem _ hj)⟩
    show RelD ρ H (ds.getD i .non) u
    rw [e2]; exact r1
theorem run_kw {pins : List (Addr × Obj)} {σ : L2.St} {H : Hp} {s : Shared} {Q : VK} {a : Addr} {fd : FuncData} {ps ks : List Str} {pm : List Nat} {f : Nat} {fn : Fn} {us ws : List Value} {vs zs : List V} {ds es : List D} {ρ : List Addr} {h : Hv}
    (g : Gd T cc k N so sc c X) (F : FnAt T cc k X.prog X.w X.K c.XI X.mg X.base f fn a fd ps) (hf : T f = some fn) (hk : cc.kw f us.length ks = some pm) (hl : ws.length = ks.length)
    (I : Inv X pins σ H s) (r : Vals vs us) (rz : Vals zs ws) (rd : RelDs ρ H ds vs) (re : RelDs ρ H es zs) (rh : RelH X.K ρ h H)
    (o : Out X.K c.XI (c.E σ) ρ H (den T k f (permV (ds ++ es) pm) h) fun d _ ρ' H' => ∀ v, RelD ρ' H' d v → Q v H') :
    wpAny (model X.prog X.w) X.A (call (.ref a) us (ks.zip ws)) (EP X pins σ Q) X.xe s := by
  have kw := F.kw _ _ _ hk
  have l1 : ∀ i ∈ pm, i < (vs ++ zs).length := fun i hi => by
    have := kw.lt i hi
    rw [List.length_append, r.length, rz.length, hl]; exact this
  have l2 : ∀ i ∈ pm, i < (ds ++ es).length := fun i hi => by
    have := l1 i hi
    rw [(rd.app re).len]; exact this
  exact run_fnG g F hf (kw.to us ws rfl hl) I (perm_vals (r.append rz) l1) (perm_rel (rd.app re) l2) rh o
theorem PK.weak {kws : List Keyword} {t t' : TA} (p : PK X kws t) (h : ∀ σ H Q, t' σ H Q → t σ H Q) : PK X kws t' := ⟨fun ps pins s σ H Q I q => p.run ps pins s σ H Q I (h σ H Q q)⟩
theorem kw_len {kws : List Keyword} {ks : List Str} (h : kwNames kws = ks.map some) : kws.length = ks.length := by
  have := congrArg List.length h
  simpa [kwNames] using this
/-- f(.., k = e, ..) -/
theorem pe_callKG {f : Nat} {fn : Fn} {x : Str} {p pos : Pos} {es : List Expr} {kws : List Keyword} {ks : List Str} {pm : List Nat} {m mk : Sl → Hv → R (List D)} (g : Gd T cc k N so sc c X) (hf : T f = some fn) (hx : x = cc.nm f) (hg : Gl X x) (hdb : (x == ("__debug__" : Str)) = false)
    (ns : es.all noStar = true) (hks : kwNames kws = ks.map some) (hpm : cc.kw f es.length ks = some pm) (ha : PA X es (tDs c m)) (hk : PK X kws (tDs c mk)) (hlen : ∀ τ h ds h', m τ h = .ok ds h' → ds.length = es.length) (hklen : ∀ τ h ds h', mk τ h = .ok ds h' → ds.length = kws.length) (hnil : es = [] → ∀ τ h, m τ h = .ok [] h) :
    PE X (.Call (.Name x p) es kws pos) (tD c fun τ h => (m τ h).bind fun ds h => (mk τ h).bind fun zs h => den T k f (permV (ds ++ zs) pm) h) := by
  refine ⟨fun pins s σ H Q I q => ?_⟩
  obtain ⟨ρ, τ, h, rs, rh, o⟩ := q
  obtain ⟨a, fd, ps, F⟩ := g.st.fn f fn hf
  have hK := g.hK
  refine wpAny_Call_Name_kw (ld_glob I hg (by rw [hx]; exact F.gl) ?_ hdb)
  have inner : ∀ {ρ1 H1 h1 ds}, RelS ρ1 H1 τ σ → RelH c.K ρ1 h1 H1 → ∀ vs, RelDs ρ1 H1 ds vs → Out c.K c.XI (c.E σ) ρ1 H1 ((mk τ h1).bind fun zs h => den T k f (permV (ds ++ zs) pm) h) (fun d _ ρ' H' => ∀ v, RelD ρ' H' d v → Q v H') →
      tDs c mk σ H1 fun zs H2 => ∃ ρ2 h2 es', RelDs ρ2 H2 ds vs ∧ RelDs ρ2 H2 es' zs ∧ RelH X.K ρ2 h2 H2 ∧ es'.length = kws.length ∧ Out X.K c.XI (c.E σ) ρ2 H2 (den T k f (permV (ds ++ es') pm) h2) fun d _ ρ' H' => ∀ v, RelD ρ' H' d v → Q v H' := by
    intro ρ1 H1 h1 ds rs1 rh1 vs rd o1
    refine ⟨ρ1, τ, h1, rs1, rh1, ?_⟩
    have o2 := Out.bind o1
    cases e : mk τ h1 with
    | ok zs h2 =>
      rw [e] at o2
      exact fun ρ2 H2 e2 rh2 us ru => ⟨ρ2, h2, zs, rd.mono e2, ru, by rw [← hK]; exact rh2, hklen _ _ _ _ e, by rw [← hK]; exact o2 ρ2 H2 e2 rh2⟩
    | ex cl as h2 =>
      rw [e] at o2
      exact o2
    | bad =>
      rw [e] at o2
      exact o2
  have fin : ∀ {s1 : Shared} {H1 : Hp} {us : List Value} {vs : List V} {ds : List D}, Inv X pins σ H1 s1 → Vals vs us → ds.length = es.length → (tDs c mk σ H1 fun zs H2 => ∃ ρ2 h2 es', RelDs ρ2 H2 ds vs ∧ RelDs ρ2 H2 es' zs ∧ RelH X.K ρ2 h2 H2 ∧ es'.length = kws.length ∧ Out X.K c.XI (c.E σ) ρ2 H2 (den T k f (permV (ds ++ es') pm) h2) fun d _ ρ' H' => ∀ v, RelD ρ' H' d v → Q v H') →
      wpAny (model X.prog X.w) X.A (evalAll ((backToKw pos (keywordEach kws X.env)).map (·.2))) (fun ws s2 => X.K.In s2.heap ∧ wpAny (model X.prog X.w) X.A (call (.ref a) us (((backToKw pos (keywordEach kws X.env)).filterMap (·.1)).zip ws)) (EP X pins σ Q) X.xe s2) X.xe s1 := by
    intro s1 H1 us vs ds I1 r hl q1
    refine thn (hk.run pos pins s1 σ H1 _ I1 q1) fun ws s2 ⟨zs, H2, I2, rz, ρ2, h2, es', rd, re, rh2, hl2, o2⟩ => ⟨I2.kIn, ?_⟩
    rw [kw_names hks]
    have e1 : us.length = es.length := by rw [← r.length, ← rd.len, hl]
    exact run_kw g F hf (by rw [e1]; exact hpm) (by rw [← rz.length, ← re.len, hl2, kw_len hks]) I2 r rz rd re rh2 o2
  have o1 := Out.bind o
  cases es with
  | nil =>
    refine PySem.W.callWith_KW0 (h₀ := X.base) I.ok.mod.kin F.kp (kw_isSome hks) ?_ (by rw [kw_isNone hks]; rfl)
    refine fin (ds := []) I .nil rfl ?_
    rw [hnil rfl τ h] at o1
    exact inner rs rh [] rfl (o1 ρ H (Ext.refl _ _) rh)
  | cons e es =>
    have ns' := ns
    rw [List.all_cons, Bool.and_eq_true] at ns'
    have goal : tDs c m σ H fun vs H1 => ∃ ds, ds.length = (e :: es).length ∧ tDs c mk σ H1 fun zs H2 => ∃ ρ2 h2 es', RelDs ρ2 H2 ds vs ∧ RelDs ρ2 H2 es' zs ∧ RelH X.K ρ2 h2 H2 ∧ es'.length = kws.length ∧ Out X.K c.XI (c.E σ) ρ2 H2 (den T k f (permV (ds ++ es') pm) h2) fun d _ ρ' H' => ∀ v, RelD ρ' H' d v → Q v H' := by
      refine ⟨ρ, τ, h, rs, rh, ?_⟩
      cases e' : m τ h with
      | ok ds h1 =>
        rw [e'] at o1
        exact fun ρ1 H1 e1 rh1 vs rd => ⟨ds, hlen _ _ _ _ e', inner (rs.mono e1) rh1 vs rd (o1 ρ1 H1 e1 rh1)⟩
      | ex cl as h2 =>
        rw [e'] at o1
        exact o1
      | bad =>
        rw [e'] at o1
        exact o1
    refine PySem.W.callWith_KW (h₀ := X.base) I.ok.mod.kin F.kp (kw_isSome hks) (thn (ha.run pos pins s σ H _ I goal) fun us s1 ⟨vs, H1, I1, r, ds, hl, q1⟩ => ?_) (by rw [kw_isNone hks, Bool.or_false, star_cons ns'.1]; exact star_all ns'.2) (star_cons ns'.1)
    exact fin I1 r hl q1
end
end G4

/-! G7: targets, what is walked, loops, comprehensions. -/
namespace G4
open PySem PySem.Spec PyProof.Rows L2

/-! ### targets -/
mutual
def gOf (K : PySem.W.Frag) : IG → TG
  | .nm i => gName i
  | .tp gs => gTup K gs.length (gsOf K gs)
def gsOf (K : PySem.W.Frag) : List IG → TGs
  | [] => gNil
  | g :: gs => gCons (gOf K g) (gsOf K gs)
end
mutual
def tgs : IG → List Nat
  | .nm i => [i]
  | .tp gs => tgss gs
def tgss : List IG → List Nat
  | [] => []
  | g :: gs => tgs g ++ tgss gs
end
theorem wipe_get {σ : L2.St} : ∀ (vs : List Nat) (j : Nat), (L2.wipe σ vs)[j]? = if j ∈ vs then (if j < σ.length then some none else none) else σ[j]?
  | [], j => by simp [L2.wipe]
  | v :: vs, j => by
    unfold L2.wipe
    rw [List.getElem?_set, wipe_get vs j, L2.wipe_length]
    by_cases h : v = j
    · subst h
      simp
    · have h' : ¬ j = v := fun e => h e.symm
      simp [h, h']
theorem wipe_set {σ : L2.St} {vs : List Nat} {i : Nat} {x : Option V} (h : i ∈ vs) : L2.wipe (σ.set i x) vs = L2.wipe σ vs := by
  apply List.ext_getElem?
  intro j
  rw [wipe_get, wipe_get, List.length_set, List.getElem?_set]
  by_cases hj : j ∈ vs
  · simp [hj]
  · have : ¬ i = j := fun e => hj (e ▸ h)
    simp [hj, this]
theorem wipe_wipe {σ : L2.St} {vs : List Nat} : L2.wipe (L2.wipe σ vs) vs = L2.wipe σ vs := by
  apply List.ext_getElem?
  intro j
  simp only [wipe_get, L2.wipe_length]
  by_cases hj : j ∈ vs <;> simp [hj]
section
variable {K : PySem.W.Frag} {ρ : List Addr} {H : Hp}
mutual
theorem gOf_ok : ∀ (g : IG) {d : D} {v : V} {τ τ' : Sl} {σ : L2.St} {Q : L2.St → Hp → Prop}, RelD ρ H d v → asG g d τ = some τ' → RelS ρ H τ σ →
    (∀ σ', RelS ρ H τ' σ' → (∀ vs, (∀ i ∈ tgs g, i ∈ vs) → L2.wipe σ' vs = L2.wipe σ vs) → Q σ' H) → gOf K g v σ H Q
  | .nm i, d, v, τ, τ', σ, Q, r, e, rs, q => by
    simp only [asG] at e
    cases e
    exact q _ (rs.set r) fun vs hv => wipe_set (hv i (by simp [tgs]))
  | .tp gs, d, v, τ, τ', σ, Q, r, e, rs, q => by
    cases d with
    | tup ds =>
      obtain ⟨p, xs, e1, e2, r2⟩ := r
      simp only [asG] at e
      have hl := asGs_len gs e
      refine ⟨p, xs, e1, SqT.of e2, by rw [← r2.len, hl], ?_⟩
      exact gsOf_ok gs r2 e rs q
    | _ => simp [asG] at e
theorem gsOf_ok : ∀ (gs : List IG) {ds : List D} {vs : List V} {τ τ' : Sl} {σ : L2.St} {Q : L2.St → Hp → Prop}, RelDs ρ H ds vs → asGs gs ds τ = some τ' → RelS ρ H τ σ →
    (∀ σ', RelS ρ H τ' σ' → (∀ us, (∀ i ∈ tgss gs, i ∈ us) → L2.wipe σ' us = L2.wipe σ us) → Q σ' H) → gsOf K gs vs σ H Q
  | [], ds, vs, τ, τ', σ, Q, r, e, rs, q => by
    cases ds with
    | nil =>
      cases r
      simp only [asGs] at e
      cases e
      exact ⟨rfl, q σ rs fun _ _ => rfl⟩
    | cons d ds => simp [asGs] at e
  | g :: gs, ds, vs, τ, τ', σ, Q, r, e, rs, q => by
    cases ds with
    | nil => simp [asGs] at e
    | cons d ds =>
      obtain ⟨w, ws, rfl, r1, r2⟩ := r
      simp only [asGs] at e
      split at e
      · rename_i τ1 h1
        refine ⟨w, ws, rfl, gOf_ok g r1 h1 rs fun σ1 rs1 w1 => gsOf_ok gs r2 e rs1 fun σ2 rs2 w2 => q σ2 rs2 fun us hu => ?_⟩
        rw [w2 us fun i hi => hu i (by simp [tgss, hi]), w1 us fun i hi => hu i (by simp [tgss, hi])]
      · cases e
theorem asGs_len : ∀ (gs : List IG) {ds : List D} {τ τ' : Sl}, asGs gs ds τ = some τ' → ds.length = gs.length
  | [], ds, τ, τ', e => by
    cases ds with
    | nil => rfl
    | cons d ds => simp [asGs] at e
  | g :: gs, ds, τ, τ', e => by
    cases ds with
    | nil => simp [asGs] at e
    | cons d ds =>
      simp only [asGs] at e
      split at e
      · rw [List.length_cons, List.length_cons, asGs_len gs e]
      · cases e
end
end

/-! ### what is walked -/
def ItRel (K : PySem.W.Frag) (ρ : List Addr) (H : Hp) (J : It) (J' : L2.It) : Prop := ∀ ρ2 h2 H2, Ext ρ H ρ2 H2 → RelH K ρ2 h2 H2 → ∀ i, match J.nxt i h2 with
  | none => True
  | some none => J'.stop i H2
  | some (some d) => J'.go i H2 ∧ ∀ x H', J'.yld i H2 x H' → Ext ρ2 H2 ρ2 H' ∧ RelH K ρ2 h2 H' ∧ RelD ρ2 H' d x
def tDi (c : Ck) (m : Sl → Hv → R It) : TI := fun σ H R => ∃ ρ τ h, RelS ρ H τ σ ∧ RelH c.K ρ h H ∧ Out c.K c.XI (c.E σ) ρ H (m τ h) fun J _ ρ' H' => ∀ J', ItRel c.K ρ' H' J J' → R J' H'
theorem PI.weak {X : Cx} {tg iter : Expr} {t t' : TI} (p : PI X tg iter t) (h : ∀ σ H R, t' σ H R → t σ H R) : PI X tg iter t' := ⟨fun pins s σ H R I q => p.run pins s σ H R I (h σ H R q)⟩
section
variable {K : PySem.W.Frag} {ρ : List Addr} {H : Hp}
theorem it_lst {a : Nat} {p : Addr} (e : ρ[a]? = some p) : ItRel K ρ H (.lst a) (Itl K p) := fun ρ2 h2 H2 ex rh i => by
  have e2 := ex.at_ a p e
  simp only [It.nxt]
  cases q : h2.get a with
  | none => trivial
  | some xs =>
    obtain ⟨vs, s1, s2⟩ := rh.get q e2
    dsimp only
    cases z : xs[i]? with
    | none => exact ⟨vs, s1, by rw [← s2.len]; exact List.getElem?_eq_none_iff.mp z⟩
    | some d =>
      obtain ⟨v, v1, v2⟩ := s2.get z
      refine ⟨⟨vs, v, s1, v1⟩, fun x H' y => ?_⟩
      obtain ⟨rfl, y⟩ := y
      have := y vs s1
      rw [v1] at this; cases this
      exact ⟨Ext.refl _ _, rh, v2⟩
theorem it_fix {xs : List D} {p : Addr} {vs : List V} (e : H p = some (.tup vs)) (r : RelDs ρ H xs vs) : ItRel K ρ H (.fix xs) (Itt K p) := fun ρ2 h2 H2 ex rh i => by
  have e2 := ex.tup p vs e
  have s2 := r.mono ex
  simp only [It.nxt]
  cases z : xs[i]? with
  | none => exact ⟨vs, SqT.of e2, by rw [← s2.len]; exact List.getElem?_eq_none_iff.mp z⟩
  | some d =>
    obtain ⟨v, v1, v2⟩ := s2.get z
    refine ⟨⟨vs, v, SqT.of e2, v1⟩, fun x H' y => ?_⟩
    obtain ⟨rfl, y⟩ := y
    have := y vs (SqT.of e2)
    rw [v1] at this; cases this
    exact ⟨Ext.refl _ _, rh, v2⟩
theorem it_str {z : Str} : ItRel K ρ H (.fix (z.cps.toList.map fun c => D.str ⟨#[c]⟩)) (Its z) := fun ρ2 h2 H2 ex rh i => by
  simp only [It.nxt, List.getElem?_map, Array.getElem?_toList]
  cases q : z.cps[i]? with
  | none => exact Array.getElem?_eq_none_iff.mp q
  | some ch =>
    refine ⟨(Array.getElem?_eq_some_iff.mp q).1, fun x H' y => ?_⟩
    obtain ⟨rfl, c2, e, rfl⟩ := y
    rw [q] at e
    cases e
    exact ⟨Ext.refl _ _, rh, rfl⟩
theorem it_rng {lo : Int} {n : Nat} : ItRel K ρ H (.rng lo n) (Itr lo n) := fun ρ2 h2 H2 ex rh i => by
  simp only [It.nxt]
  by_cases hi : i < n
  · rw [if_pos hi]
    refine ⟨hi, fun x H' y => ?_⟩
    obtain ⟨rfl, rfl⟩ := y
    exact ⟨Ext.refl _ _, rh, rfl⟩
  · rw [if_neg hi]
    exact Nat.le_of_not_lt hi
theorem it_enm {a : Nat} {p : Addr} (e : ρ[a]? = some p) : ItRel K ρ H (.enm a) (Ite K p) := fun ρ2 h2 H2 ex rh i => by
  have e2 := ex.at_ a p e
  simp only [It.nxt]
  cases q : h2.get a with
  | none => trivial
  | some xs =>
    obtain ⟨vs, s1, s2⟩ := rh.get q e2
    dsimp only
    cases z : xs[i]? with
    | none => exact ⟨vs, s1, by rw [← s2.len]; exact List.getElem?_eq_none_iff.mp z⟩
    | some d =>
      obtain ⟨v, v1, v2⟩ := s2.get z
      have hi : i < vs.length := (List.getElem?_eq_some_iff.mp v1).1
      refine ⟨walk_enum.goes i H2 hi s1, fun x H' y => ?_⟩
      obtain ⟨T, a1, b1, rfl, n1, rfl, c1, c2⟩ := walk_enum.yields i H2 x H' hi s1 y
      cases c1
      have c2 : vs[i]? = some b1 := c2
      rw [v1] at c2; cases c2
      exact ⟨ext_tup n1, rh.tup n1, ⟨T, _, rfl, upd_same, _, _, rfl, rfl, _, _, rfl, v2.mono (ext_tup n1), rfl⟩⟩
theorem it_zip {a b : Nat} {p p2 : Addr} (e : ρ[a]? = some p) (f : ρ[b]? = some p2) : ItRel K ρ H (.zip a b) (Itz K p p2) := fun ρ2 h2 H2 ex rh i => by
  have e2 := ex.at_ a p e
  have f2 := ex.at_ b p2 f
  simp only [It.nxt]
  cases q : h2.get a with
  | none => trivial
  | some xs =>
    cases q2 : h2.get b with
    | none => trivial
    | some ys =>
      obtain ⟨vs, s1, s2⟩ := rh.get q e2
      obtain ⟨ws, t1, t2⟩ := rh.get q2 f2
      dsimp only
      cases z : xs[i]? with
      | none => exact ⟨vs, ws, s1, t1, .inl (by rw [← s2.len]; exact List.getElem?_eq_none_iff.mp z)⟩
      | some d =>
        cases z2 : ys[i]? with
        | none => exact ⟨vs, ws, s1, t1, .inr (by rw [← t2.len]; exact List.getElem?_eq_none_iff.mp z2)⟩
        | some d2 =>
          obtain ⟨v, v1, v2⟩ := s2.get z
          obtain ⟨w, w1, w2⟩ := t2.get z2
          refine ⟨⟨vs, ws, v, w, s1, t1, v1, w1⟩, fun x H' y => ?_⟩
          obtain ⟨T, a1, b1, rfl, n1, rfl, c1, c2⟩ := y
          have k1 := c1 vs s1
          have k2 := c2 ws t1
          rw [v1] at k1; cases k1
          rw [w1] at k2; cases k2
          exact ⟨ext_tup n1, rh.tup n1, ⟨T, _, rfl, upd_same, _, _, rfl, v2.mono (ext_tup n1), _, _, rfl, w2.mono (ext_tup n1), rfl⟩⟩
end
/-- over a list or a tuple, as it comes -/
theorem pi_seq {X : Cx} {tg e : Expr} {te : TE} (he : PE X e te) : PI X tg e fun σ H R => te σ H fun x H1 => (∃ a, x = .ref a ∧ (((∃ xs, SqL X.K H1 a xs) ∧ R (Itl X.K a) H1) ∨ ((∃ xs, SqT X.K H1 a xs) ∧ R (Itt X.K a) H1))) ∨ ∃ z, x = .str z ∧ R (Its z) H1 := by
  refine ⟨fun pins s σ H R I q => ?_⟩
  refine thn (he.run pins s σ H _ I q) fun v s1 ⟨x, H1, I1, r1, q0⟩ => ?_
  rcases q0 with ⟨a, ex, q1⟩ | ⟨x, ex, q⟩
  rotate_left
  · subst ex
    obtain ⟨t, rfl⟩ := r1
    cases ha : x.cps.all (· < 128)
    · exact wpAny_pyIter_wide ha (pi_one (tk := s1.toks) I1 _ (turn_str _ x t "str_iterator" (.inr rfl)) ⟨_, Heap.get?_push_size _ rfl, rfl, rfl⟩ q)
    · exact wpAny_pyIter_ascii ha (pi_one (tk := s1.toks) I1 _ (turn_str _ x t "str_ascii_iterator" (.inl rfl)) ⟨_, Heap.get?_push_size _ rfl, rfl, rfl⟩ q)
  subst ex
  cases r1
  have fpn : ∀ b ∈ [s1.heap.objs.size], FpOk X pins H1 b := fun b hb => by
    have eb : b = s1.heap.objs.size := List.mem_singleton.mp hb
    rw [eb]
    exact I1.fpOk (Nat.le_refl _) (I1.hok.fresh (Nat.le_refl _))
  rcases q1 with ⟨⟨xs, hx⟩, q2⟩ | ⟨⟨xs, hx⟩, q2⟩
  · obtain ⟨its, rv, p, _⟩ := I1.list hx
    refine wpAny_pyIter_list p.isList ?_
    exact ⟨_, _, _, _, H1, rfl, I1.kept (t' := s1.toks) fun b o w => Heap.get?_push_of_some _ w, turn_list a _, ⟨_, Heap.get?_push_size _ rfl, rfl, rfl⟩, fpn, q2⟩
  · obtain ⟨its, rv, p, _⟩ := I1.tuple hx
    refine wpAny_pyIter_tuple (show s1.heap.IsTuple a its.toArray from p) ?_
    exact ⟨_, _, _, _, H1, rfl, I1.kept (t' := s1.toks) fun b o w => Heap.get?_push_of_some _ w, turn_tuple a _, ⟨_, Heap.get?_push_size _ rfl, rfl, rfl⟩, fpn, q2⟩
section
variable {X : Cx} {c : Ck}
theorem pi_seqG {tg e : Expr} {m : Sl → Hv → R D} (hK : c.K = X.K) (he : PE X e (tD c m)) : PI X tg e (tDi c fun τ h => (m τ h).bind fun x h => match x with
    | .tup xs => .ok (.fix xs) h
    | .ref a => match h.get a with
      | some _ => .ok (.lst a) h
      | none => .bad
    | .str z => .ok (.fix (z.cps.toList.map fun c => D.str ⟨#[c]⟩)) h
    | _ => .bad) := by
  refine PI.weak (pi_seq he) fun σ H R q => ?_
  obtain ⟨ρ, τ, h, rs, rh, o⟩ := q
  refine ⟨ρ, τ, h, rs, rh, (Out.bind o).imp fun d h1 ρ1 H1 e1 rh1 o1 v rd => ?_⟩
  cases d with
  | tup xs =>
    obtain ⟨p, vs, rfl, e2, r2⟩ := rd
    exact .inl ⟨p, rfl, .inr ⟨⟨vs, SqT.of e2⟩, Out.ok o1 (Ext.refl _ _) rh1 _ (by rw [hK]; exact it_fix e2 r2)⟩⟩
  | str z => exact .inr ⟨z, rd, Out.ok o1 (Ext.refl _ _) rh1 _ it_str⟩
  | ref a =>
    obtain ⟨p, rfl, e2⟩ := rd
    dsimp only at o1
    split at o1
    · rename_i xs hx
      obtain ⟨vs, s1, _⟩ := rh1.get hx e2
      exact .inl ⟨p, rfl, .inl ⟨⟨vs, by rw [← hK]; exact s1⟩, Out.ok o1 (Ext.refl _ _) rh1 _ (by rw [hK]; exact it_lst e2)⟩⟩
    · exact False.elim o1
  | _ => exact False.elim o1

/-! ### loops -/
theorem ps_forG {tg iter : Expr} {body : List Stmt} {ig : IG} {mi : Sl → Hv → R It} {mb : Sl → Hv → RS} {pos : Pos} (hp : PassesOwn (model X.prog X.w) X.A X.env X.xe) (hc : X.calm = true) (hi : PI X tg iter (tDi c mi)) (hg : PG X tg (gOf c.K ig)) (hb : PSs X body (tSs c mb))
    (hs : ∀ x, foldedSetIterable iter X.env x = pure x) : PS X (.For tg iter body [] pos) (tSs c fun τ h => (mi τ h).stm τ fun J h => forL J.nxt (fun d τ h => match asG ig d τ with
      | some τ' => mb τ' h
      | none => .bad) turns 0 τ h) := by
  refine PS.weak (ps_for hp hc hi hg hb hs) fun D σ H q => ?_
  obtain ⟨ρ, τ, h, rs, rh, o⟩ := q
  refine ⟨ρ, τ, h, rs, rh, (OutS.stm o rs).imp fun J h1 ρ1 H1 e1 rh1 o1 J' hj => ?_⟩
  refine ⟨fun i m σ' H' => ∃ ρ' τ' h', RelS ρ' H' τ' σ' ∧ RelH c.K ρ' h' H' ∧ Ext ρ1 H1 ρ' H' ∧ OutS c D σ' ρ' H' (forL J.nxt (fun d τ h => match asG ig d τ with
      | some τ' => mb τ' h
      | none => .bad) m i τ' h'), ⟨turns, ρ1, τ, h1, rs.mono e1, rh1, Ext.refl _ _, o1⟩, ?_⟩
  rintro i m σ' H' ⟨ρ', τ', h', rs', rh', e', o'⟩
  cases m with
  | zero => exact False.elim o'
  | succ n =>
    have hx := hj ρ' h' H' e' rh' i
    unfold forL at o'
    cases q : J.nxt i h' with
    | none => rw [q] at o'; exact False.elim o'
    | some od =>
      cases od with
      | none =>
        rw [q] at o' hx
        exact .inl ⟨hx, o' ρ' H' σ' (Ext.refl _ _) rh' rs'⟩
      | some d =>
        rw [q] at o' hx
        dsimp only at o' hx
        refine .inr ⟨hx.1, fun σ2 H2 => ∃ m', m' < n + 1 ∧ ∃ ρ' τ' h', RelS ρ' H2 τ' σ2 ∧ RelH c.K ρ' h' H2 ∧ Ext ρ1 H1 ρ' H2 ∧ OutS c D σ2 ρ' H2 (forL J.nxt (fun d τ h => match asG ig d τ with
          | some τ' => mb τ' h
          | none => .bad) m' (i + 1) τ' h'), fun _ _ z => z, fun x H2 y => ?_⟩
        obtain ⟨ex, rhx, rx⟩ := hx.2 x H2 y
        cases qa : asG ig d τ' with
        | none => rw [qa] at o'; exact False.elim o'
        | some τ2 =>
          rw [qa] at o'
          dsimp only at o'
          refine gOf_ok ig rx qa (rs'.mono ex) fun σ2 rs2 _ => ⟨ρ', τ2, h', rs2, rhx, ?_⟩
          cases qb : mb τ2 h' with
          | nx τ3 h3 =>
            rw [qb] at o'
            exact fun ρ3 H3 σ3 e3 rh3 rs3 => ⟨n, Nat.lt_succ_self n, ρ3, τ3, h3, rs3, rh3, e'.trans (ex.trans e3), o'.later (ex.trans e3)⟩
          | ct τ3 h3 =>
            rw [qb] at o'
            exact fun ρ3 H3 σ3 e3 rh3 rs3 => ⟨n, Nat.lt_succ_self n, ρ3, τ3, h3, rs3, rh3, e'.trans (ex.trans e3), o'.later (ex.trans e3)⟩
          | bk τ3 h3 =>
            rw [qb] at o'
            exact fun ρ3 H3 σ3 e3 rh3 rs3 => o' ρ3 H3 σ3 (ex.trans e3) rh3 rs3
          | rt d3 h3 =>
            rw [qb] at o'
            exact fun ρ3 H3 v e3 rh3 rv => o' ρ3 H3 v (ex.trans e3) rh3 rv
          | ex cl as τ3 h3 =>
            rw [qb] at o'
            exact fun ρ3 H3 σ3 cls d e3 rh3 rs3 rx3 => o' ρ3 H3 σ3 cls d (ex.trans e3) rh3 rs3 rx3
          | bad => rw [qb] at o'; exact o'
theorem ps_whileG {tst : Expr} {body : List Stmt} {mt : Sl → Hv → R Bool} {mb : Sl → Hv → RS} {pos : Pos} (hp : PassesOwn (model X.prog X.w) X.A X.env X.xe) (ht : PT X tst (tDb c mt)) (hb : PSs X body (tSs c mb)) :
    PS X (.While tst body [] pos) (tSs c fun τ h => whL mt mb turns τ h) := by
  refine PS.weak (ps_while hp ht hb) fun D σ H q => ?_
  obtain ⟨ρ, τ, h, rs, rh, o⟩ := q
  refine ⟨fun m σ' H' => ∃ ρ' τ' h', RelS ρ' H' τ' σ' ∧ RelH c.K ρ' h' H' ∧ OutS c D σ' ρ' H' (whL mt mb m τ' h'), ⟨turns, ρ, τ, h, rs, rh, o⟩, ?_⟩
  rintro m σ' H' ⟨ρ', τ', h', rs', rh', o'⟩
  cases m with
  | zero => exact False.elim o'
  | succ n =>
    unfold whL at o'
    refine ⟨ρ', τ', h', rs', rh', (OutS.stm o' rs').imp fun b h1 ρ1 H1 e1 rh1 o1 => ?_⟩
    cases b with
    | false =>
      rw [if_neg Bool.false_ne_true]
      exact o1 ρ1 H1 σ' (Ext.refl _ _) rh1 (rs'.mono e1)
    | true =>
      rw [if_pos rfl]
      dsimp only at o1
      refine ⟨fun σ2 H2 => ∃ m', m' < n + 1 ∧ ∃ ρ' τ' h', RelS ρ' H2 τ' σ2 ∧ RelH c.K ρ' h' H2 ∧ OutS c D σ2 ρ' H2 (whL mt mb m' τ' h'), fun _ _ z => z, ρ1, τ', h1, rs'.mono e1, rh1, ?_⟩
      cases qb : mb τ' h1 with
      | nx τ3 h3 =>
        rw [qb] at o1
        exact fun ρ3 H3 σ3 e3 rh3 rs3 => ⟨n, Nat.lt_succ_self n, ρ3, τ3, h3, rs3, rh3, o1.later e3⟩
      | ct τ3 h3 =>
        rw [qb] at o1
        exact fun ρ3 H3 σ3 e3 rh3 rs3 => ⟨n, Nat.lt_succ_self n, ρ3, τ3, h3, rs3, rh3, o1.later e3⟩
      | bk τ3 h3 =>
        rw [qb] at o1
        exact fun ρ3 H3 σ3 e3 rh3 rs3 => o1 ρ3 H3 σ3 e3 rh3 rs3
      | rt d3 h3 =>
        rw [qb] at o1
        exact fun ρ3 H3 v e3 rh3 rv => o1 ρ3 H3 v e3 rh3 rv
      | ex cl as τ3 h3 =>
        rw [qb] at o1
        exact fun ρ3 H3 σ3 cls d e3 rh3 rs3 rx3 => o1 ρ3 H3 σ3 cls d e3 rh3 rs3 rx3
      | bad => rw [qb] at o1; exact o1

/-! ### list comprehensions -/
/-- nothing may be raised within -/
abbrev Ck.no (c : Ck) : Ck := { c with W := fun _ _ _ _ => False }
abbrev lcBody (ig : IG) (vs : List Nat) (mt : Sl → Hv → R Bool) (me : Sl → Hv → R D) (τ : Sl) : D → Hv → R (Option D) := fun d h => match asG ig d (wipeS τ vs) with
  | some τ2 => (mt τ2 h).bind fun k h => match k with
    | true => (me τ2 h).bind fun y h => .ok (some y) h
    | false => .ok none h
  | none => .bad
theorem lc_weak {ig : IG} {own : List (Str × Nat)} {mi : Sl → Hv → R It} {mt : Sl → Hv → R Bool} {me : Sl → Hv → R D} (hK : c.K = X.K) (ht : ∀ i ∈ tgs ig, i ∈ own.map (·.2)) {σ : L2.St} {H : Hp} {Q : VK}
    (q : tD c (fun τ h => (mi τ h).bind fun J h => lcL J.nxt (lcBody ig (own.map (·.2)) mt me τ) h.length turns 0 (h ++ [.lst []])) σ H Q) : tLc (tDi c mi) (gOf c.K ig) (tDb c.no mt) (tD c.no me) (own.map (·.2)) σ H Q := by
  obtain ⟨ρ, τ, h, rs, rh, o⟩ := q
  refine ⟨ρ, τ, h, rs, rh, (Out.bind o).imp fun J h1 ρ1 H1 e1 rh1 o1 J' hj Da hD => ?_⟩
  have rs1 := (rs.mono e1).mono (ext_alloc (o := .lst []) hD)
  have rhA : RelH c.K (ρ1 ++ [Da]) (h1 ++ [.lst []]) (upd H1 Da (.lst [])) := rh1.alloc hD rfl
  have at0 : (ρ1 ++ [Da])[h1.length]? = some Da := by
    rw [List.getElem?_append_right (by rw [rh1.len]; exact Nat.le_refl _), rh1.len, Nat.sub_self]; rfl
  refine ⟨fun i m H' => ∃ ρ' h', RelS ρ' H' (wipeS τ (own.map (·.2))) (L2.wipe σ (own.map (·.2))) ∧ RelH c.K ρ' h' H' ∧ Ext (ρ1 ++ [Da]) (upd H1 Da (.lst [])) ρ' H' ∧
    Out c.K c.XI (c.E σ) ρ' H' (lcL J.nxt (lcBody ig (own.map (·.2)) mt me τ) h1.length m i h') fun d _ ρ'' H'' => ∀ v, RelD ρ'' H'' d v → Q v H'', ⟨turns, ρ1 ++ [Da], h1 ++ [.lst []], rs1.wipe _, rhA, Ext.refl _ _, o1.later (ext_alloc hD)⟩, ?_⟩
  rintro i m H' ⟨ρ', h', rs', rh', e', o'⟩
  have atD := e'.at_ _ _ at0
  cases m with
  | zero => exact False.elim o'
  | succ n =>
    have hx := hj ρ' h' H' ((ext_alloc hD).trans e') rh' i
    unfold lcL at o'
    cases q : J.nxt i h' with
    | none => rw [q] at o'; exact False.elim o'
    | some od =>
      cases od with
      | none =>
        rw [q] at o' hx
        exact .inl ⟨hx, o' ρ' H' (Ext.refl _ _) rh' _ ⟨Da, rfl, atD⟩⟩
      | some d =>
        rw [q] at o' hx
        dsimp only at o' hx
        refine .inr ⟨hx.1, fun H2 => ∃ m', m' < n + 1 ∧ ∃ ρ' h', RelS ρ' H2 (wipeS τ (own.map (·.2))) (L2.wipe σ (own.map (·.2))) ∧ RelH c.K ρ' h' H2 ∧ Ext (ρ1 ++ [Da]) (upd H1 Da (.lst [])) ρ' H2 ∧
          Out c.K c.XI (c.E σ) ρ' H2 (lcL J.nxt (lcBody ig (own.map (·.2)) mt me τ) h1.length m' (i + 1) h') fun d _ ρ'' H'' => ∀ v, RelD ρ'' H'' d v → Q v H'', fun _ z => z, fun x H2 y => ?_⟩
        obtain ⟨ex, rhx, rx⟩ := hx.2 x H2 y
        cases qa : asG ig d (wipeS τ (own.map (·.2))) with
        | none => simp only [lcBody, qa] at o'; exact False.elim o'
        | some τ2 =>
          refine gOf_ok ig rx qa (rs'.mono ex) fun σ2 rs2 w2 => ⟨by rw [w2 _ ht, wipe_wipe], ρ', τ2, h', rs2, rhx, ?_⟩
          simp only [lcBody, qa] at o'
          cases qt : mt τ2 h' with
          | bad => rw [qt] at o'; exact False.elim o'
          | ex cl as h2 => rw [qt] at o'; exact False.elim o'
          | ok k h2 =>
            rw [qt] at o'
            intro ρ2 H3 e2 rh2
            cases k with
            | false =>
              rw [if_neg Bool.false_ne_true]
              have o2 : Out c.K c.XI (c.E σ) ρ' H' (lcL J.nxt (lcBody ig (own.map (·.2)) mt me τ) h1.length n (i + 1) h2) fun d _ ρ'' H'' => ∀ v, RelD ρ'' H'' d v → Q v H'' := o'
              exact ⟨n, Nat.lt_succ_self n, ρ2, h2, rs'.mono (ex.trans e2), rh2, e'.trans (ex.trans e2), o2.later (ex.trans e2)⟩
            | true =>
              rw [if_pos rfl]
              refine ⟨ρ2, τ2, h2, rs2.mono e2, rh2, ?_⟩
              have o2 : Out c.K c.XI (c.E σ) ρ' H' (match (me τ2 h2).bind fun y h => R.ok (some y) h with
                | .ok o h' => match o with
                  | none => lcL J.nxt (lcBody ig (own.map (·.2)) mt me τ) h1.length n (i + 1) h'
                  | some y => match h'.lst h1.length with
                    | some acc => if acc.length < lim then lcL J.nxt (lcBody ig (own.map (·.2)) mt me τ) h1.length n (i + 1) (h'.set h1.length (.lst (acc ++ [y]))) else .bad
                    | none => .bad
                | _ => .bad) fun d _ ρ'' H'' => ∀ v, RelD ρ'' H'' d v → Q v H'' := o'
              cases qe : me τ2 h2 with
              | bad => rw [qe] at o2; exact False.elim o2
              | ex cl as h3 => rw [qe] at o2; exact False.elim o2
              | ok z h3 =>
                rw [qe] at o2
                simp only [R.bind] at o2
                intro ρ3 H4 e3 rh3 v rv
                have at3 := e3.at_ _ _ (e2.at_ _ _ (ex.at_ _ _ atD))
                split at o2
                · rename_i acc hacc
                  split at o2
                  · rename_i hl
                    obtain ⟨us, u1, u2⟩ := rh3.lst hacc at3
                    have exs : Ext ρ3 H4 ρ3 (upd H4 Da (.lst (us ++ [v]))) := ext_set u1
                    exact ⟨us, u1, by rw [← u2.len, ← lim_eq]; exact hl, n, Nat.lt_succ_self n, ρ3, _, rs'.mono (ex.trans (e2.trans (e3.trans exs))), rh3.set hacc at3 (u2.app (RelDs.one rv)), e'.trans (ex.trans (e2.trans (e3.trans exs))),
                      o2.later (ex.trans (e2.trans (e3.trans exs)))⟩
                  · exact False.elim o2
                · exact False.elim o2
end
end G4

/-! G8: the checks of the form against the program's text; whoever passes them may be evaluated: expressions. -/
namespace G4
open PySem PySem.Spec PyProof.Rows L2

def vis (sc : Scope) (x : Str) : Bool := match sc.names.lookup x with
  | some .local => true
  | some .cell => true
  | some .free => true
  | _ => false
def loc (sc : Scope) (x : Str) : Bool := match sc.names.lookup x with
  | some .local => true
  | some .cell => true
  | _ => false
def isCell (sc : Scope) (x : Str) : Bool := match sc.names.lookup x with
  | some .cell => true
  | _ => false
def isLocal (sc : Scope) (x : Str) : Bool := match sc.names.lookup x with
  | some .local => true
  | _ => false
def glb (sc : Scope) (x : Str) : Bool := match sc.names.lookup x with
  | some .globalImplicit => true
  | _ => false
theorem vis_ok {sc : Scope} {x : Str} (h : vis sc x = true) : Vis sc x := by
  unfold vis at h
  split at h <;> first | exact .inl (by assumption) | exact .inr (.inl (by assumption)) | exact .inr (.inr (by assumption)) | cases h
theorem loc_ok {sc : Scope} {x : Str} (h : loc sc x = true) : Loc sc x := by
  unfold loc at h
  split at h <;> first | exact .inl (by assumption) | exact .inr (by assumption) | cases h
theorem cell_ok {sc : Scope} {x : Str} (h : isCell sc x = true) : sc.names.lookup x = some .cell := by
  unfold isCell at h
  split at h <;> first | assumption | cases h
theorem local_ok {sc : Scope} {x : Str} (h : isLocal sc x = true) : sc.names.lookup x = some .local := by
  unfold isLocal at h
  split at h <;> first | assumption | cases h
theorem glb_ok {sc : Scope} {x : Str} (h : glb sc x = true) : sc.names.lookup x = some .globalImplicit := by
  unfold glb at h
  split at h <;> first | assumption | cases h
def nameOk (x : Str) : Bool := !(x == ("__debug__" : Str)) && !(x == ("__classdict__" : Str))
theorem nameOk_d {x : Str} (h : nameOk x = true) : (x == ("__debug__" : Str)) = false := by
  unfold nameOk at h
  simp only [Bool.and_eq_true, Bool.not_eq_true'] at h
  exact h.1
theorem nameOk_c {x : Str} (h : nameOk x = true) : (x == ("__classdict__" : Str)) = false := by
  unfold nameOk at h
  simp only [Bool.and_eq_true, Bool.not_eq_true'] at h
  exact h.2
def conD : D → Const → Bool
  | .int i, .int j => decide (i = j)
  | .str x, .str y => decide (x = y)
  | .bl a, .bool b => decide (a = b)
  | .non, .none => true
  | _, _ => false
def noSet : Expr → Bool
  | .Set .. => false
  | _ => true
def noSlice : Expr → Bool
  | .Slice .. => false
  | _ => true
def noCall : Expr → Bool
  | .Call .. => false
  | _ => true
def isTup : Expr → Bool
  | .Tuple .. => true
  | _ => false
/-- truth of its value is asked, nothing else -/
def plainT : Expr → Bool
  | .UnaryOp .Not _ _ => false
  | .BoolOp .. => false
  | .IfExp .. => false
  | .Compare .. => false
  | _ => true
theorem plainT_ok {e : Expr} {env : Env} (h : plainT e = true) (whole : Sem Value) : isTrue e env whole = (do let v ← whole; standAt e.pos; holding [v] (truthy v)) := by
  cases e with
  | UnaryOp op x pos => (cases op <;> first | rfl | cases h)
  | BoolOp _ _ _ => cases h
  | IfExp _ _ _ _ => cases h
  | Compare _ _ _ _ => cases h
  | _ => rfl
theorem noSlice_ix {e : Expr} (h : noSlice e = true) : PlainIx e := fun o i => by
  cases e <;> first | rfl | cases h
theorem noSet_for {e : Expr} {env : Env} (h : noSet e = true) (x : Value) : foldedSetIterable e env x = pure x := by
  cases e <;> first | rfl | cases h
theorem noSet_mark {e : Expr} {op : CmpOp} (h : noSet e = true) : behindInMarks op e = false := by
  cases e <;> first | rfl | cases h
mutual
def chkG (N : List Str) (so sc : Scope) : IG → Expr → Bool
  | .nm i, e => match e with
    | .Name x _ => decide (N[i]? = some x) && ((isCell so x && loc sc x) || isLocal sc x)
    | _ => false
  | .tp gs, e => match e with
    | .Tuple es _ _ => chkGs N so sc gs es
    | _ => false
def chkGs (N : List Str) (so sc : Scope) : List IG → List Expr → Bool
  | [], es => match es with
    | [] => true
    | _ => false
  | g :: gs, es => match es with
    | e :: es => chkG N so sc g e && chkGs N so sc gs es
    | [] => false
end
section
variable (T : Tab) (cc : Cc)
mutual
def chkE (N : List Str) (so sc : Scope) : IE → Expr → Bool
  | .var i, e => match e with
    | .Name x _ => decide (N[i]? = some x) && (vis sc x && nameOk x)
    | _ => false
  | .con d, e => match e with
    | .Constant c _ _ => conD d c
    | _ => false
  | .glo x d, e => match e with
    | .Name y _ => decide (x = y) && (glb sc x && (nameOk x && (match cc.gl x with
      | some d' => eqF d d' && flatD d && flatD d' && decide (d.kd = d'.kd)
      | none => false)))
    | _ => false
  | .b2 o a b, e => match e with
    | .BinOp l op r _ => decide (o.py = op) && (chkE N so sc a l && chkE N so sc b r)
    | _ => false
  | .neg a, e => match e with
    | .UnaryOp op x _ => decide (op = .USub) && chkE N so sc a x
    | _ => false
  | .cm o a b, e => match e with
    | .Compare l ops rs _ => match ops, rs with
      | [op], [r] => decide (o.py = op) && (noSet r && (chkE N so sc a l && chkE N so sc b r))
      | _, _ => false
    | _ => false
  | .cmN n a, e => match e with
    | .Compare l ops rs _ => match ops, rs with
      | [op], [.Constant .none _ _] => decide (op = if n then .IsNot else .Is) && chkE N so sc a l
      | _, _ => false
    | _ => false
  | .ch o o' a b d, e => match e with
    | .Compare l ops rs _ => match ops, rs with
      | [op, op'], [r, r'] => decide (o.py = op) && (decide (o'.py = op') && (noSet r' && (chkE N so sc a l && (chkE N so sc b r && chkE N so sc d r'))))
      | _, _ => false
    | _ => false
  | .bo k es, e => match e with
    | .BoolOp op xs _ => decide (op = if k then .And else .Or) && chkB N so sc es xs
    | _ => false
  | .nt a, e => match e with
    | .UnaryOp op x _ => decide (op = .Not) && chkE N so sc a x
    | _ => false
  | .ie t a b, e => match e with
    | .IfExp x y z _ => chkT N so sc t x && (chkE N so sc a y && chkE N so sc b z)
    | _ => false
  | .tp es, e => match e with
    | .Tuple xs _ _ => chkA N so sc es xs
    | _ => false
  | .ls es, e => match e with
    | .List xs _ => chkA N so sc es xs
    | _ => false
  | .ix a b, e => match e with
    | .Subscript x y _ => noSlice y && (chkE N so sc a x && chkE N so sc b y)
    | _ => false
  | .sl a lo hi, e => match e with
    | .Subscript x y _ => match y with
      | .Slice l u none _ => chkE N so sc a x && (chkO N so sc lo l && chkO N so sc hi u)
      | _ => false
    | _ => false
  | .cf f es, e => match e with
    | .Call (.Name x _) xs kws _ => kws.isEmpty && (decide (x = cc.nm f) && (glb sc x && (nameOk x && ((T f).isSome && (xs.all noStar && chkA N so sc es xs)))))
    | _ => false
  | .ck f es ks pm, e => match e with
    | .Call (.Name x _) xs kws _ => decide (x = cc.nm f) && (glb sc x && (nameOk x && ((T f).isSome && (xs.all noStar && (chkA N so sc es xs && (chkA N so sc ks (kwVals kws) && ((kwVals kws).all noStar &&
        ((kwNames kws).all (·.isSome) && decide (cc.kw f xs.length ((kwNames kws).filterMap id) = some pm)))))))))
    | _ => false
  | .cb b es, e => match e with
    | .Call (.Name x _) xs kws _ => kws.isEmpty && (decide (x = b.py) && (decide (x ∈ cc.bl) && (glb sc x && (!xs.isEmpty && (xs.all noStar && chkA N so sc es xs)))))
    | _ => false
  | .mt m o es, e => match e with
    | .Call (.Attribute x at_ ap) xs kws cp => match xs with
      | [y] => kws.isEmpty && (decide (at_ = m.py) && (noCall x && ((ap.endLine == cp.line) && (noStar y && (chkE N so sc o x && chkA N so sc es [y])))))
      | _ => false
    | _ => false
  | .spl o y, e => match e with
    | .Call (.Attribute x at_ ap) xs kws cp => match xs with
      | [z] => kws.isEmpty && (decide (at_ = "split") && (noCall x && ((ap.endLine == cp.line) && (noStar z && (chkE N so sc o x && chkE N so sc y z)))))
      | _ => false
    | _ => false
  | .joi o y, e => match e with
    | .Call (.Attribute x at_ ap) xs kws cp => match xs with
      | [z] => kws.isEmpty && (decide (at_ = "join") && (noCall x && ((ap.endLine == cp.line) && (noStar z && (chkE N so sc o x && chkE N so sc y z)))))
      | _ => false
    | _ => false
  | .isi a t, e => match e with
    | .Call (.Name x _) xs kws _ => match xs with
      | [y, .Name z _] => kws.isEmpty && (decide (x = "isinstance") && (decide (("isinstance" : Str) ∈ cc.bl) && (glb sc x && (noStar y && (chkE N so sc a y && (decide (z = Str.ofString t.py) && (decide (z ∈ cc.bl) && glb sc z)))))))
      | _ => false
    | _ => false
  | .isiT _ _, _ => false
  | .lc own g it _ tt elt, e => match e with
    | .ListComp x gens scope _ => match gens with
      | [⟨tg, iter, ifs, as⟩] => decide (as = 0) && (blkC N sc scope own && (chkG N scope (relS scope sc) g tg && ((tgs g).all (fun i => decide (i ∈ own.map (·.2))) && (noSet iter && (chkI N so sc (isTup tg) it iter &&
          ((match ifs with
            | [] => match tt with
              | .yes => true
              | _ => false
            | [t] => chkT N scope (relS scope sc) tt t
            | _ => false) && chkE N scope (relS scope sc) elt x))))))
      | _ => false
    | _ => false
def chkB (N : List Str) (so sc : Scope) : IA → List Expr → Bool
  | .nil, _ => false
  | .cons e r, xs => match xs with
    | x :: xs => chkE N so sc e x && (match r, xs with
      | .nil, [] => true
      | .nil, _ => false
      | _, [] => false
      | _, _ => chkB N so sc r xs)
    | [] => false
  | .star _ _, _ => false
def chkA (N : List Str) (so sc : Scope) : IA → List Expr → Bool
  | .nil, xs => xs.isEmpty
  | .cons e r, xs => match xs with
    | x :: xs => noStar x && (chkE N so sc e x && chkA N so sc r xs)
    | [] => false
  | .star e r, xs => match xs with
    | .Starred x _ :: xs => chkE N so sc e x && chkA N so sc r xs
    | _ => false
def chkO (N : List Str) (so sc : Scope) : IO → Option Expr → Bool
  | .no, x => x.isNone
  | .so e, x => match x with
    | some x => chkE N so sc e x
    | none => false
def chkT (N : List Str) (so sc : Scope) : IT → Expr → Bool
  | .v e, x => plainT x && chkE N so sc e x
  | .cm o a b, e => match e with
    | .Compare l ops rs _ => match ops, rs with
      | [op], [r] => decide (o.py = op) && (noSet r && (chkE N so sc a l && chkE N so sc b r))
      | _, _ => false
    | _ => false
  | .cmN n a, e => match e with
    | .Compare l ops rs _ => match ops, rs with
      | [op], [.Constant .none _ _] => decide (op = if n then .IsNot else .Is) && chkE N so sc a l
      | _, _ => false
    | _ => false
  | .ch o o' a b d, e => match e with
    | .Compare l ops rs _ => match ops, rs with
      | [op, op'], [r, r'] => decide (o.py = op) && (decide (o'.py = op') && (noSet r' && (chkE N so sc a l && (chkE N so sc b r && chkE N so sc d r'))))
      | _, _ => false
    | _ => false
  | .bo k ts, e => match e with
    | .BoolOp op xs _ => decide (op = if k then .And else .Or) && chkTs N so sc ts xs
    | _ => false
  | .nt t, e => match e with
    | .UnaryOp op x _ => decide (op = .Not) && chkT N so sc t x
    | _ => false
  | .yes, _ => false
def chkTs (N : List Str) (so sc : Scope) : ITs → List Expr → Bool
  | .nil, _ => false
  | .cons t r, xs => match xs with
    | x :: xs => chkT N so sc t x && (match r, xs with
      | .nil, [] => true
      | .nil, _ => false
      | _, [] => false
      | _, _ => chkTs N so sc r xs)
    | [] => false
/-- tt: the target is a tuple -/
def chkI (N : List Str) (so sc : Scope) (tt : Bool) : II → Expr → Bool
  | .seq e, x => chkE N so sc e x
  | .rng es, x => match x with
    | .Call (.Name y _) xs kws _ => kws.isEmpty && (decide (y = "range") && (decide (("range" : Str) ∈ cc.bl) && (glb sc y && (xs.all noStar && ((xs.length == 1 || xs.length == 2) && chkA N so sc es xs)))))
    | _ => false
  | .enm e, x => match x with
    | .Call (.Name y _) xs kws _ => match xs with
      | [z] => kws.isEmpty && (decide (y = "enumerate") && (decide (("enumerate" : Str) ∈ cc.bl) && (glb sc y && (noStar z && (chkE N so sc e z && tt)))))
      | _ => false
    | _ => false
  | .zip a b, x => match x with
    | .Call (.Name y _) xs kws _ => match xs with
      | [z, w] => kws.isEmpty && (decide (y = "zip") && (decide (("zip" : Str) ∈ cc.bl) && (glb sc y && (noStar z && (noStar w && (chkE N so sc a z && (chkE N so sc b w && tt)))))))
      | _ => false
    | _ => false
end
end
end G4

/-! G9: whoever passes the checks may be evaluated: expressions. -/
namespace G4
open PySem PySem.Spec PyProof.Rows L2

theorem and2 {a b : Bool} (h : (a && b) = true) : a = true ∧ b = true := Bool.and_eq_true_iff.mp h
section
variable {T : Tab} {cc : Cc} {k : Nat}
theorem assign_star {e : Expr} {es : List Expr} {env : Env} {N so sc} {g : IG} (h : chkG N so sc g e = true) : assignEach (e :: es) env = (false, assign e env) :: assignEach es env := by
  cases e <;> first | rfl | (cases g <;> cases h)
theorem assign_len {env : Env} {N : List Str} {so sc : Scope} : ∀ {gs : List IG} {es : List Expr}, chkGs N so sc gs es = true → (assignEach es env).length = gs.length ∧ (assignEach es env).findIdx? (·.1) = none
  | [], es, h => by
    cases es with
    | nil => exact ⟨rfl, rfl⟩
    | cons e es => cases h
  | g :: gs, es, h => by
    cases es with
    | nil => cases h
    | cons e es =>
      obtain ⟨h1, h2⟩ := and2 h
      obtain ⟨l1, l2⟩ := assign_len (env := env) h2
      rw [assign_star h1]
      refine ⟨by simp [l1], ?_⟩
      rw [List.findIdx?_cons]
      simp [l2]
mutual
theorem pg_ok : ∀ (g : IG) {N : List Str} {so sc : Scope} {c : Ck} {X : Cx} {e : Expr}, Gd T cc k N so sc c X → chkG N so sc g e = true → PG X e (gOf X.K g)
  | .nm i, N, so, sc, c, X, e, g, h => by
    unfold chkG at h
    split at h
    · rename_i x p
      obtain ⟨h1, h2⟩ := and2 h
      have hN : X.N[i]? = some x := by rw [g.hN]; exact of_decide_eq_true h1
      have hn : X.N.Nodup := by rw [g.hN]; exact g.nd
      rcases Bool.or_eq_true_iff.mp h2 with h3 | h3
      · obtain ⟨h4, h5⟩ := and2 h3
        exact pg_name hn hN (by rw [g.hs]; exact loc_ok h5) (.inl (g.fnl _ (cell_ok h4)))
      · have hl : X.env.scope.names.lookup x = some .local := by rw [g.hs]; exact local_ok h3
        exact pg_name hn hN (.inl hl) (.inr hl)
    · cases h
  | .tp gs, N, so, sc, c, X, e, g, h => by
    unfold chkG at h
    split at h
    · obtain ⟨l1, l2⟩ := assign_len (env := X.env) h
      exact pg_tup g.calm (pgs_ok gs g h) l1 l2
    · cases h
theorem pgs_ok : ∀ (gs : List IG) {N : List Str} {so sc : Scope} {c : Ck} {X : Cx} {es : List Expr}, Gd T cc k N so sc c X → chkGs N so sc gs es = true → PGs X es (gsOf X.K gs)
  | [], N, so, sc, c, X, es, g, h => by
    cases es with
    | nil => exact pgs_nil
    | cons e es => cases h
  | gg :: gs, N, so, sc, c, X, es, g, h => by
    cases es with
    | nil => cases h
    | cons e es =>
      obtain ⟨h1, h2⟩ := and2 h
      exact pgs_cons (pg_ok gg g h1) (pgs_ok gs g h2) (by rw [assign_star h1]; rfl)
end

section
variable {X : Cx} {c : Ck}
theorem bin_weak {ma mb : Sl → Hv → R D} {f : D → D → Hv → R D} {r : R2} (hK : c.K = X.K)
    (hr : ∀ {ρ h H x y v u Q E}, RelH X.K ρ h H → RelD ρ H x v → RelD ρ H y u → PostD X.K c.XI E ρ H (f x y h) Q → r v u H Q) {σ : L2.St} {H : Hp} {Q : VK}
    (q : tD c (fun τ h => (ma τ h).bind fun x h => (mb τ h).bind fun y h => f x y h) σ H Q) : tOp r (tD c ma) (tD c mb) σ H Q := by
  obtain ⟨ρ, τ, h, rs, rh, o⟩ := q
  refine ⟨ρ, τ, h, rs, rh, (Out.bind o).imp fun d1 h1 ρ1 H1 e1 rh1 o1 v1 rd1 => ?_⟩
  refine ⟨ρ1, τ, h1, rs.mono e1, rh1, (Out.bind o1).imp fun d2 h2 ρ2 H2 e2 rh2 o2 v2 rd2 => ?_⟩
  rw [hK] at rh2 o2
  exact hr rh2 (rd1.mono e2) rd2 o2
theorem isN_rel {ρ : List Addr} {H : Hp} {d : D} {v : V} (r : RelD ρ H d v) : (match d with
    | .non => true
    | _ => false) = decide (v = .non) := by
  cases d with
  | non => have e : v = .non := r; subst e; rfl
  | bl b => have e : v = .bl b := r; subst e; rfl
  | int b => have e : v = .int b := r; subst e; rfl
  | str b => have e : v = .str b := r; subst e; rfl
  | tup ds => obtain ⟨p, xs, rfl, _⟩ := r; rfl
  | ref a => obtain ⟨p, rfl, _⟩ := r; rfl
theorem eqF_eq {d e : D} (h : (eqF d e && flatD d && flatD e && decide (d.kd = e.kd)) = true) : d = e := by
  cases d <;> cases e <;> simp_all [eqF, flatD, D.kd]
theorem evA_len {N : List Str} {so sc : Scope} : ∀ (es : IA) {xs : List Expr} {τ : Sl} {h : Hv} {ds : List D} {h' : Hv}, chkA T cc N so sc es xs = true → xs.all noStar = true → evA (den T k) es τ h = .ok ds h' → ds.length = xs.length
  | .nil, xs, τ, h, ds, h', hc, _, e => by
    unfold chkA at hc
    simp only [evA] at e
    cases e
    cases xs with
    | nil => rfl
    | cons x xs => cases hc
  | .cons a r, xs, τ, h, ds, h', hc, ns, e => by
    unfold chkA at hc
    cases xs with
    | nil => cases hc
    | cons x xs =>
      obtain ⟨_, h2⟩ := and2 hc
      obtain ⟨_, h3⟩ := and2 h2
      rw [List.all_cons] at ns
      simp only [evA] at e
      cases q : evE (den T k) a τ h with
      | bad => rw [q] at e; cases e
      | ex cl as h1 => rw [q] at e; cases e
      | ok d h1 =>
        rw [q] at e
        simp only [R.bind] at e
        cases q2 : evA (den T k) r τ h1 with
        | bad => rw [q2] at e; cases e
        | ex cl as h2 => rw [q2] at e; cases e
        | ok ds2 h2 =>
          rw [q2] at e
          cases e
          rw [List.length_cons, List.length_cons, evA_len r h3 (and2 ns).2 q2]
  | .star a r, xs, τ, h, ds, h', hc, ns, e => by
    unfold chkA at hc
    split at hc
    · rw [List.all_cons] at ns
      cases (and2 ns).1
    · cases hc
theorem some_names {ns : List (Option Str)} (h : ns.all (·.isSome) = true) : ns = (ns.filterMap id).map some := by
  induction ns with
  | nil => rfl
  | cons n ns ih =>
    rw [List.all_cons] at h
    obtain ⟨h1, h2⟩ := and2 h
    cases n with
    | none => cases h1
    | some x =>
      show some x :: ns = some x :: (ns.filterMap id).map some
      rw [← ih h2]
end
/-- the context of a comprehension's block -/
theorem Gd.blk {N : List Str} {so sc : Scope} {c : Ck} {X : Cx} (g : Gd T cc k N so sc c X) {scope : Scope} (hk : scope.kind = .function) (s : Shared) (H : Hp) (C : Addr) (cl : List (Str × Addr)) (fp : List Addr) :
    Gd T cc k N scope (relS scope sc) c.no (X.blk s H scope (compEnvC scope cl C X.env) fp) :=
  ⟨g.st, g.hK, g.hN, g.nd, by rw [← g.hs]; rfl, hk, g.calm, fun x hx => by
      show (scope.names.lookup x == some .cell) = true
      rw [hx]; rfl, g.room, g.grd, fun σ pins H s e s' I z => by
      obtain ⟨_, _, _, _, _, _, _, _, _, _, _, _, w⟩ := z
      exact w.elim, PassesOwn.never⟩
theorem Gd.units {N : List Str} {so sc : Scope} {c : Ck} {X : Cx} (g : Gd T cc k N so sc c X) : X.A.units + 65 < cLine := by
  have := g.room.un
  omega
theorem Gd.gl {N : List Str} {so sc : Scope} {c : Ck} {X : Cx} (g : Gd T cc k N so sc c X) {x : Str} (h : glb sc x = true) : Gl X x := by
  show X.env.scope.names.lookup x = _
  rw [g.hs]; exact glb_ok h
mutual
theorem sndE : ∀ (ir : IE) {N : List Str} {so sc : Scope} {c : Ck} {X : Cx} {e : Expr}, Gd T cc k N so sc c X → chkE T cc N so sc ir e = true → PE X e (tD c (evE (den T k) ir))
  | .var i, N, so, sc, c, X, e, g, h => by
    unfold chkE at h
    split at h
    · obtain ⟨h1, h2⟩ := and2 h
      obtain ⟨h2, h3⟩ := and2 h2
      refine PE.weak (pe_var (by rw [g.hN]; exact of_decide_eq_true h1) (by rw [g.hs]; exact vis_ok h2) (nameOk_d h3) (nameOk_c h3)) fun σ H Q q => ?_
      obtain ⟨ρ, τ, h, rs, rh, o⟩ := q
      simp only [evE] at o
      split at o
      · rename_i d hd
        obtain ⟨v, e1, r1⟩ := rs.get hd
        exact ⟨v, e1, Out.ok o (Ext.refl _ _) rh v r1⟩
      · exact False.elim o
    · cases h
  | .con d, N, so, sc, c, X, e, g, h => by
    unfold chkE at h
    split at h
    · rename_i cst j pos
      cases d <;> cases cst <;> first
        | (cases h; done)
        | (first
            | refine PE.weak pe_non fun σ H Q q => ?_
            | (have e1 := of_decide_eq_true h; subst e1; refine PE.weak pe_bl fun σ H Q q => ?_)
            | (have e1 := of_decide_eq_true h; subst e1; refine PE.weak pe_int fun σ H Q q => ?_)
            | (have e1 := of_decide_eq_true h; subst e1; refine PE.weak pe_str fun σ H Q q => ?_)
           obtain ⟨ρ, τ, h, rs, rh, o⟩ := q
           simp only [evE] at o
           exact Out.ok o (Ext.refl _ _) rh _ rfl)
    · cases h
  | .glo x d, N, so, sc, c, X, e, g, h => by
    unfold chkE at h
    split at h
    · obtain ⟨h1, h2⟩ := and2 h
      obtain ⟨h2, h3⟩ := and2 h2
      obtain ⟨h3, h4⟩ := and2 h3
      have e1 := of_decide_eq_true h1
      subst e1
      split at h4
      · rename_i d' hd
        obtain ⟨u, v, hm, rv, rd⟩ := g.st.gl _ _ hd
        have e2 := eqF_eq h4
        subst e2
        refine PE.weak (pe_glob (g.gl h2) hm rv (nameOk_d h3)) fun σ H Q q => ?_
        obtain ⟨ρ, τ, h, rs, rh, o⟩ := q
        simp only [evE] at o
        exact Out.ok o (Ext.refl _ _) rh _ (rd _ _)
      · cases h4
    · cases h
  | .b2 o a b, N, so, sc, c, X, e, g, h => by
    unfold chkE at h
    split at h
    · obtain ⟨h1, h2⟩ := and2 h
      obtain ⟨h2, h3⟩ := and2 h2
      have e1 := of_decide_eq_true h1
      subst e1
      refine PE.weak (pe_op (op_all2 o) (sndE a g h2) (sndE b g h3)) fun σ H Q q => ?_
      obtain ⟨ρ, τ, h, rs, rh, o1⟩ := q
      simp only [evE] at o1
      exact bin_weak g.hK (fun rh rx ry p => b2_ok o rh rx ry p) ⟨ρ, τ, h, rs, rh, o1⟩
    · cases h
  | .neg a, N, so, sc, c, X, e, g, h => by
    unfold chkE at h
    split at h
    · obtain ⟨h1, h2⟩ := and2 h
      have e1 := of_decide_eq_true h1
      subst e1
      refine PE.weak (pe_un un_neg (sndE a g h2)) fun σ H Q q => ?_
      obtain ⟨ρ, τ, h, rs, rh, o⟩ := q
      simp only [evE] at o
      refine ⟨ρ, τ, h, rs, rh, (Out.bind o).imp fun d1 h1 ρ1 H1 e1 rh1 o1 v1 rd1 => ?_⟩
      split at o1
      · exact ⟨_, rd1, Out.ok o1 (Ext.refl _ _) rh1 _ rfl⟩
      · exact False.elim o1
    · cases h
  | .cm o a b, N, so, sc, c, X, e, g, h => by
    unfold chkE at h
    split at h
    · split at h
      · obtain ⟨h1, h2⟩ := and2 h
        obtain ⟨h2, h3⟩ := and2 h2
        obtain ⟨h3, h4⟩ := and2 h3
        have e1 := of_decide_eq_true h1
        subst e1
        refine PE.weak (pe_cmpR (op_cmpA g.units o) (sndE a g h3) (sndE b g h4) (noSet_mark h2)) fun σ H Q q => ?_
        obtain ⟨ρ, τ, h, rs, rh, o1⟩ := q
        simp only [evE] at o1
        refine bin_weak (f := fun x y h => match o.ev x y h with
          | some k => .ok (.bl k) h
          | none => .bad) g.hK (fun rh rx ry p => ?_) ⟨ρ, τ, h, rs, rh, o1⟩
        split at p
        · exact cmp_ok o rh rx ry (by assumption) (Out.ok p (Ext.refl _ _) rh _ rfl)
        · exact False.elim p
      · cases h
    · cases h
  | .cmN n a, N, so, sc, c, X, e, g, h => by
    unfold chkE at h
    split at h
    · split at h
      · obtain ⟨h1, h2⟩ := and2 h
        have e1 := of_decide_eq_true h1
        cases n with
        | false =>
          have e1 : _ = CmpOp.Is := e1
          subst e1
          refine PE.weak (pe_cmpR op_isN (sndE a g h2) pe_non (nomark _ (by decide) (by decide))) fun σ H Q q => ?_
          obtain ⟨ρ, τ, h, rs, rh, o⟩ := q
          simp only [evE] at o
          refine ⟨ρ, τ, h, rs, rh, (Out.bind o).imp fun d1 h1 ρ1 H1 e1 rh1 o1 v1 rd1 => ⟨rfl, ?_⟩⟩
          rw [← isN_rel rd1]
          cases d1 <;> exact Out.ok o1 (Ext.refl _ _) rh1 _ rfl
        | true =>
          have e1 : _ = CmpOp.IsNot := e1
          subst e1
          refine PE.weak (pe_cmpR op_notN (sndE a g h2) pe_non (nomark _ (by decide) (by decide))) fun σ H Q q => ?_
          obtain ⟨ρ, τ, h, rs, rh, o⟩ := q
          simp only [evE] at o
          refine ⟨ρ, τ, h, rs, rh, (Out.bind o).imp fun d1 h1 ρ1 H1 e1 rh1 o1 v1 rd1 => ⟨rfl, ?_⟩⟩
          rw [← isN_rel rd1]
          cases d1 <;> exact Out.ok o1 (Ext.refl _ _) rh1 _ rfl
      · cases h
    · cases h
  | .ch o o' a b d, N, so, sc, c, X, e, g, h => by
    unfold chkE at h
    split at h
    · split at h
      · obtain ⟨h1, h2⟩ := and2 h
        obtain ⟨h2, h3⟩ := and2 h2
        obtain ⟨h3, h4⟩ := and2 h3
        obtain ⟨h4, h5⟩ := and2 h4
        obtain ⟨h5, h6⟩ := and2 h5
        have e1 := of_decide_eq_true h1
        subst e1
        have e2 := of_decide_eq_true h2
        subst e2
        refine PE.weak (pe_chain (op_cmpA g.units o) (op_cmpA g.units o') (sndE a g h4) (sndE b g h5) (sndE d g h6) (noSet_mark h3)) fun σ H Q q => ?_
        obtain ⟨ρ, τ, h, rs, rh, q1⟩ := q
        simp only [evE] at q1
        refine ⟨ρ, τ, h, rs, rh, (Out.bind q1).imp fun d1 h1 ρ1 H1 e1 rh1 o1 v1 rd1 => ?_⟩
        refine ⟨ρ1, τ, h1, rs.mono e1, rh1, (Out.bind o1).imp fun d2 h2 ρ2 H2 e2 rh2 o2 v2 rd2 => ?_⟩
        have rhX : RelH X.K ρ2 h2 H2 := by rw [← g.hK]; exact rh2
        split at o2
        · rename_i hk
          refine cmp_ok o rhX (rd1.mono e2) rd2 hk ⟨true, rfl, ?_⟩
          rw [if_pos rfl]
          refine ⟨ρ2, τ, h2, (rs.mono e1).mono e2, rh2, (Out.bind o2).imp fun d3 h3 ρ3 H3 e3 rh3 o3 v3 rd3 => ?_⟩
          have rhX : RelH X.K ρ3 h3 H3 := by rw [← g.hK]; exact rh3
          split at o3
          · exact cmp_ok o' rhX (rd2.mono e3) rd3 (by assumption) (Out.ok o3 (Ext.refl _ _) rh3 _ rfl)
          · exact False.elim o3
        · rename_i hk
          refine cmp_ok o rhX (rd1.mono e2) rd2 hk ⟨false, rfl, ?_⟩
          rw [if_neg Bool.false_ne_true]
          exact Out.ok o2 (Ext.refl _ _) rh2 _ rfl
        · exact False.elim o2
      · cases h
    · cases h
  | .bo kk es, N, so, sc, c, X, e, g, h => by
    unfold chkE at h
    split at h
    · obtain ⟨h1, h2⟩ := and2 h
      have e1 := of_decide_eq_true h1
      subst e1
      exact PE.weak (sndB es g h2) fun σ H Q q => by
        obtain ⟨ρ, τ, h, rs, rh, o⟩ := q
        simp only [evE] at o
        exact ⟨ρ, τ, h, rs, rh, o⟩
    · cases h
  | .nt a, N, so, sc, c, X, e, g, h => by
    unfold chkE at h
    split at h
    · obtain ⟨h1, h2⟩ := and2 h
      have e1 := of_decide_eq_true h1
      subst e1
      refine PE.weak (pe_not (sndE a g h2)) fun σ H Q q => ?_
      obtain ⟨ρ, τ, h, rs, rh, o⟩ := q
      simp only [evE] at o
      refine ⟨ρ, τ, h, rs, rh, (Out.bind o).imp fun d1 h1 ρ1 H1 e1 rh1 o1 v1 rd1 => ?_⟩
      split at o1
      · exact ⟨_, rd1, Out.ok o1 (Ext.refl _ _) rh1 _ rfl⟩
      · exact False.elim o1
    · cases h
  | .ie t a b, N, so, sc, c, X, e, g, h => by
    unfold chkE at h
    split at h
    · obtain ⟨h1, h2⟩ := and2 h
      obtain ⟨h2, h3⟩ := and2 h2
      refine PE.weak (pe_ifExp (sndT t g h1) (sndE a g h2) (sndE b g h3)) fun σ H Q q => ?_
      obtain ⟨ρ, τ, h, rs, rh, o⟩ := q
      simp only [evE] at o
      refine ⟨ρ, τ, h, rs, rh, (Out.bind o).imp fun kk h1 ρ1 H1 e1 rh1 o1 => ?_⟩
      cases kk with
      | true => rw [if_pos rfl]; exact ⟨ρ1, τ, h1, rs.mono e1, rh1, o1⟩
      | false => rw [if_neg Bool.false_ne_true]; exact ⟨ρ1, τ, h1, rs.mono e1, rh1, o1⟩
    · cases h
  | .tp es, N, so, sc, c, X, e, g, h => by
    unfold chkE at h
    split at h
    · refine PE.weak (pe_tup (sndA es g h)) fun σ H Q q => ?_
      obtain ⟨ρ, τ, h, rs, rh, o⟩ := q
      simp only [evE] at o
      refine ⟨ρ, τ, h, rs, rh, (Out.bind o).imp fun ds h1 ρ1 H1 e1 rh1 o1 vs rd => ?_⟩
      split at o1
      · rename_i hl
        exact ⟨by rw [← rd.len, ← lim_eq]; exact hl, PostD.newt o1 rh1 rd⟩
      · exact False.elim o1
    · cases h
  | .ls es, N, so, sc, c, X, e, g, h => by
    unfold chkE at h
    split at h
    · refine PE.weak (pe_lst (sndA es g h)) fun σ H Q q => ?_
      obtain ⟨ρ, τ, h, rs, rh, o⟩ := q
      simp only [evE] at o
      exact ⟨ρ, τ, h, rs, rh, (Out.bind o).imp fun ds h1 ρ1 H1 e1 rh1 o1 vs rd => PostD.mk o1 rh1 rd⟩
    · cases h
  | .ix a b, N, so, sc, c, X, e, g, h => by
    unfold chkE at h
    split at h
    · obtain ⟨h1, h2⟩ := and2 h
      obtain ⟨h2, h3⟩ := and2 h2
      refine PE.weak (pe_ix ix_seq (sndE a g h2) (sndE b g h3) (noSlice_ix h1)) fun σ H Q q => ?_
      obtain ⟨ρ, τ, h, rs, rh, o1⟩ := q
      simp only [evE] at o1
      exact bin_weak g.hK (fun rh rx ry p => item_ok rh rx ry p) ⟨ρ, τ, h, rs, rh, o1⟩
    · cases h
  | .sl a lo hi, N, so, sc, c, X, e, g, h => by
    unfold chkE at h
    split at h
    · split at h
      · obtain ⟨h1, h2⟩ := and2 h
        obtain ⟨h2, h3⟩ := and2 h2
        refine PE.weak (pe_slice (sl_list.or sl_str) (sndE a g h1) (sndO lo g h2) (sndO hi g h3)) fun σ H Q q => ?_
        obtain ⟨ρ, τ, h, rs, rh, o⟩ := q
        simp only [evE] at o
        refine ⟨ρ, τ, h, rs, rh, (Out.bind o).imp fun d1 h1 ρ1 H1 e1 rh1 o1 v1 rd1 => ?_⟩
        refine ⟨ρ1, τ, h1, rs.mono e1, rh1, (Out.bind o1).imp fun l h2 ρ2 H2 e2 rh2 o2 => ?_⟩
        refine ⟨ρ2, τ, h2, (rs.mono e1).mono e2, rh2, (Out.bind o2).imp fun u h3 ρ3 H3 e3 rh3 o3 => ?_⟩
        rw [g.hK] at rh3 o3
        exact slice_ok rh3 ((rd1.mono e2).mono e3) o3
      · cases h
    · cases h
  | .cf f es, N, so, sc, c, X, e, g, h => by
    unfold chkE at h
    split at h
    · rename_i x p xs kws pos
      obtain ⟨h0, h⟩ := and2 h
      obtain ⟨h1, h⟩ := and2 h
      obtain ⟨h2, h⟩ := and2 h
      obtain ⟨h3, h⟩ := and2 h
      obtain ⟨h4, h⟩ := and2 h
      obtain ⟨h5, h6⟩ := and2 h
      obtain ⟨fn, hf⟩ := Option.isSome_iff_exists.mp h4
      cases kws with
      | cons kw kws => cases h0
      | nil =>
        cases xs with
        | nil =>
          cases es with
          | nil =>
            refine PE.weak (pe_callG0 g hf (of_decide_eq_true h1) (g.gl h2) (nameOk_d h3)) fun σ H Q q => ?_
            obtain ⟨ρ, τ, h, rs, rh, o⟩ := q
            simp only [evE, evA] at o
            exact ⟨ρ, τ, h, rs, rh, o⟩
          | cons a r => cases h6
          | star a r => cases h6
        | cons x0 xs =>
          rw [List.all_cons] at h5
          obtain ⟨h7, h8⟩ := and2 h5
          refine PE.weak (pe_callG g hf (of_decide_eq_true h1) (g.gl h2) (nameOk_d h3) h7 h8 (sndA es g h6)) fun σ H Q q => ?_
          obtain ⟨ρ, τ, h, rs, rh, o⟩ := q
          simp only [evE] at o
          exact ⟨ρ, τ, h, rs, rh, o⟩
    · cases h
  | .ck f es ks pm, N, so, sc, c, X, e, g, h => by
    unfold chkE at h
    split at h
    · rename_i x p xs kws pos
      obtain ⟨h1, h⟩ := and2 h
      obtain ⟨h2, h⟩ := and2 h
      obtain ⟨h3, h⟩ := and2 h
      obtain ⟨h4, h⟩ := and2 h
      obtain ⟨h5, h⟩ := and2 h
      obtain ⟨h6, h⟩ := and2 h
      obtain ⟨h7, h⟩ := and2 h
      obtain ⟨h8, h⟩ := and2 h
      obtain ⟨h9, h10⟩ := and2 h
      obtain ⟨fn, hf⟩ := Option.isSome_iff_exists.mp h4
      have hk := sndK ks g h7 h8
      refine PE.weak (pe_callKG g hf (of_decide_eq_true h1) (g.gl h2) (nameOk_d h3) h5 (some_names h9) (of_decide_eq_true h10) (sndA es g h6) hk (fun τ h ds h' e => evA_len es h6 h5 e)
        (fun τ h ds h' e => by rw [evA_len ks h7 h8 e]; simp [kwVals]) (fun e τ h => ?_)) fun σ H Q q => ?_
      · subst e
        cases es with
        | nil => rfl
        | cons a r => cases h6
        | star a r => cases h6
      · obtain ⟨ρ, τ, h, rs, rh, o⟩ := q
        simp only [evE] at o
        exact ⟨ρ, τ, h, rs, rh, o⟩
    · cases h
  | .cb b es, N, so, sc, c, X, e, g, h => by
    unfold chkE at h
    split at h
    · rename_i x p xs kws pos
      obtain ⟨h0, h⟩ := and2 h
      obtain ⟨h1, h⟩ := and2 h
      obtain ⟨h2, h⟩ := and2 h
      obtain ⟨h3, h⟩ := and2 h
      obtain ⟨h4, h⟩ := and2 h
      obtain ⟨h5, h6⟩ := and2 h
      cases kws with
      | cons kw kws => cases h0
      | nil =>
        cases xs with
        | nil => cases h4
        | cons x0 xs =>
          rw [List.all_cons] at h5
          obtain ⟨h7, h8⟩ := and2 h5
          have e1 := of_decide_eq_true h1
          subst e1
          have hm := g.st.bl _ (of_decide_eq_true h2)
          have hcb := call_bu (X := X) g.calm g.grd (by have := g.units; omega) b
          have hv := b.boot
          have main : PE X (.Call (.Name b.py p) (x0 :: xs) [] pos) (tCB (rBu X.K b) (tDs c (evA (den T k) es))) := by
            cases hfn : b.fn with
            | builtin id =>
              rw [hfn] at hcb hv
              exact pe_callB hcb (g.gl h3) hm hv (sndA es g h6) b.nm b.db (star_cons h7) (star_all h8)
            | type t =>
              rw [hfn] at hcb hv
              exact pe_callTy hcb (g.gl h3) hm hv (sndA es g h6) b.nm b.db (star_cons h7) (star_all h8)
            | _ => cases b <;> cases hfn
          refine PE.weak main fun σ H Q q => ?_
          obtain ⟨ρ, τ, h, rs, rh, o⟩ := q
          simp only [evE] at o
          refine ⟨ρ, τ, h, rs, rh, (Out.bind o).imp fun ds h1 ρ1 H1 e1 rh1 o1 vs rd => ?_⟩
          rw [g.hK] at rh1 o1
          exact bu_ok b rh1 rd o1
    · cases h
  | .mt m o es, N, so, sc, c, X, e, g, h => by
    unfold chkE at h
    split at h
    · split at h
      · rename_i x at_ ap kws cp xs' y
        obtain ⟨h0, h⟩ := and2 h
        obtain ⟨h1, h⟩ := and2 h
        obtain ⟨h2, h⟩ := and2 h
        obtain ⟨h3, h⟩ := and2 h
        obtain ⟨h4, h⟩ := and2 h
        obtain ⟨h5, h6⟩ := and2 h
        cases kws with
        | cons kw kws => cases h0
        | nil =>
          have e1 := of_decide_eq_true h1
          subst e1
          have hbase : ∀ nm : Str, attributeBase x nm X.env (eval x X.env) = eval x X.env := fun nm => by
            cases x <;> first | rfl | cases h2
          have hfew : ((backTo cp (starEach [y] X.env)).all (fun x => !x.1) && (backToKw cp (keywordEach [] X.env)).all (fun x => x.1.isSome)
            && decide (([y] : List Expr).length + ([] : List Keyword).length + (if ([] : List Keyword).isEmpty then 0 else 1) < 30)) = true := by
            rw [star_cons h4]; rfl
          have main : PE X (.Call (.Attribute x m.py ap) [y] [] cp) (tBM X.K "list" (rMe m) (tD c (evE (den T k) o)) (tDs c (evA (den T k) es))) := by
            cases m with
            | append => exact pe_bm PySem.F.plainAttrs_list PySem.F.slot_list_append PySem.F.type_list_append mt_append (sndE o g h5) (sndA es g h6) (hbase _) hfew h3 (star_cons h4) rfl
            | extend => exact pe_bm PySem.F.plainAttrs_list PySem.F.slot_list_extend PySem.F.type_list_extend mt_extend (sndE o g h5) (sndA es g h6) (hbase _) hfew h3 (star_cons h4) rfl
          refine PE.weak main fun σ H Q q => ?_
          obtain ⟨ρ, τ, h, rs, rh, q1⟩ := q
          simp only [evE] at q1
          refine ⟨ρ, τ, h, rs, rh, (Out.bind q1).imp fun d1 h1 ρ1 H1 e1 rh1 o1 v1 rd1 => ?_⟩
          split at o1
          · rename_i a
            obtain ⟨p, rfl, e2⟩ := rd1
            have rhX : RelH X.K ρ1 h1 H1 := by rw [← g.hK]; exact rh1
            have hl : a < h1.length := by rw [← rh1.len]; exact rho_lt e2
            have sq : ∃ xs, SqL X.K H1 p xs := by
              have ho := rhX.ob a _ p (List.getElem?_eq_getElem hl) e2
              cases q : h1[a] with
              | lst xs =>
                rw [q] at ho
                obtain ⟨us, u1, _⟩ := ho
                exact ⟨us, SqL.of u1⟩
              | scr xs =>
                rw [q] at ho
                obtain ⟨us, u1, _⟩ := ho
                rcases u1 with ⟨ob, u1⟩ | u1
                · exact ⟨us, .inl (.inr ⟨ob, u1⟩)⟩
                · exact ⟨us, .inr u1⟩
            refine ⟨.inl ⟨rfl, sq⟩, ρ1, τ, h1, rs.mono e1, rh1, (Out.bind o1).imp fun ds h2 ρ2 H2 e3 rh2 o2 vs rd => ?_⟩
            rw [g.hK] at rh2 o2
            exact me_ok m rh2 (show RelD ρ2 H2 (.ref a) (.ref p) from ⟨p, rfl, e3.at_ _ _ e2⟩) rd o2
          · exact False.elim o1
      · cases h
    · cases h
  | .spl o y, N, so, sc, c, X, e, g, h => by
    unfold chkE at h
    split at h
    · split at h
      · rename_i x at_ ap kws cp xs' z
        obtain ⟨h0, h⟩ := and2 h
        obtain ⟨h1, h⟩ := and2 h
        obtain ⟨h2, h⟩ := and2 h
        obtain ⟨h3, h⟩ := and2 h
        obtain ⟨h4, h⟩ := and2 h
        obtain ⟨h5, h6⟩ := and2 h
        cases kws with
        | cons kw kws => cases h0
        | nil =>
          have e1 := of_decide_eq_true h1
          subst e1
          have hbase : attributeBase x "split" X.env (eval x X.env) = eval x X.env := by
            cases x <;> first | rfl | cases h2
          refine PE.weak (pe_split (sndE o g h5) (sndE y g h6) (by rw [star_cons h4]; rfl) hbase h3) fun σ H Q q => ?_
          obtain ⟨ρ, τ, h, rs, rh, q1⟩ := q
          simp only [evE] at q1
          refine ⟨ρ, τ, h, rs, rh, (Out.bind q1).imp fun d1 h1 ρ1 H1 e1 rh1 o1 v1 rd1 => ?_⟩
          split at o1
          · rename_i a
            have ev : v1 = .str a := rd1
            subst ev
            refine ⟨⟨a, rfl⟩, ρ1, τ, h1, rs.mono e1, rh1, (Out.bind o1).imp fun d2 h2 ρ2 H2 e2 rh2 o2 v2 rd2 => ?_⟩
            unfold splD at o2
            split at o2
            · rename_i b
              have ev : v2 = .str b := rd2
              subst ev
              split at o2
              · rename_i hb
                refine ⟨a, b, rfl, rfl, hb.1, by rw [← lim_eq]; exact hb.2, fun p hp => ?_⟩
                rw [g.hK] at rh2 o2
                exact PostD.newl o2 rh2 (strs_rel _) p hp
              · exact False.elim o2
            · exact False.elim o2
          · exact False.elim o1
      · cases h
    · cases h
  | .joi o y, N, so, sc, c, X, e, g, h => by
    unfold chkE at h
    split at h
    · split at h
      · rename_i x at_ ap kws cp xs' z
        obtain ⟨h0, h⟩ := and2 h
        obtain ⟨h1, h⟩ := and2 h
        obtain ⟨h2, h⟩ := and2 h
        obtain ⟨h3, h⟩ := and2 h
        obtain ⟨h4, h⟩ := and2 h
        obtain ⟨h5, h6⟩ := and2 h
        cases kws with
        | cons kw kws => cases h0
        | nil =>
          have e1 := of_decide_eq_true h1
          subst e1
          have hbase : attributeBase x "join" X.env (eval x X.env) = eval x X.env := by
            cases x <;> first | rfl | cases h2
          refine PE.weak (pe_join (sndE o g h5) (sndE y g h6) (by rw [star_cons h4]; rfl) hbase h3) fun σ H Q q => ?_
          obtain ⟨ρ, τ, h, rs, rh, q1⟩ := q
          simp only [evE] at q1
          refine ⟨ρ, τ, h, rs, rh, (Out.bind q1).imp fun d1 h1 ρ1 H1 e1 rh1 o1 v1 rd1 => ?_⟩
          split at o1
          · rename_i a
            have ev : v1 = .str a := rd1
            subst ev
            refine ⟨⟨a, rfl⟩, ρ1, τ, h1, rs.mono e1, rh1, (Out.bind o1).imp fun d2 h2 ρ2 H2 e2 rh2 o2 v2 rd2 => ?_⟩
            unfold joiD at o2
            split at o2
            · rename_i b
              obtain ⟨p, rfl, e3⟩ := rd2
              split at o2
              · rename_i xs hx
                split at o2
                · rename_i ys hy
                  split at o2
                  · rename_i hb
                    rw [g.hK] at rh2 o2
                    obtain ⟨us, s1, s2⟩ := rh2.get hx e3
                    have e4 := strs_of s2 hy
                    subst e4
                    exact ⟨a, p, ys, rfl, rfl, .inl s1, hb, PostD.here o2 rh2 rfl⟩
                  · exact False.elim o2
                · exact False.elim o2
              · exact False.elim o2
            · exact False.elim o2
          · exact False.elim o1
      · cases h
    · cases h
  | .isi a t, N, so, sc, c, X, e, g, h => by
    unfold chkE at h
    split at h
    · split at h
      · rename_i x p xs kws pos xs' y z zp
        obtain ⟨h0, h⟩ := and2 h
        obtain ⟨h1, h⟩ := and2 h
        obtain ⟨h2, h⟩ := and2 h
        obtain ⟨h3, h⟩ := and2 h
        obtain ⟨h4, h⟩ := and2 h
        obtain ⟨h5, h⟩ := and2 h
        obtain ⟨h6, h⟩ := and2 h
        obtain ⟨h7, h8⟩ := and2 h
        cases kws with
        | cons kw kws => cases h0
        | nil =>
          have e1 := of_decide_eq_true h1
          subst e1
          have e6 := of_decide_eq_true h6
          subst e6
          have pz : PE X (.Name (Str.ofString t.py) zp) (tC (.ty t.py)) := pe_bltn (g.gl h8) (g.st.bl _ (of_decide_eq_true h7)) t.boot rfl t.nm t.db
          refine PE.weak (pe_callB call_isi (g.gl h3) (g.st.bl _ (of_decide_eq_true h2)) boot_isinstance (pa_cons (sndE a g h5) (pa_cons pz pa_nil rfl) (star_cons h4)) (by decide) (by decide) (star_cons h4) rfl) fun σ H Q q => ?_
          obtain ⟨ρ, τ, h, rs, rh, o⟩ := q
          simp only [evE] at o
          refine ⟨ρ, τ, h, rs, rh, (Out.bind o).imp fun d1 h1 ρ1 H1 e1 rh1 o1 v1 rd1 => ?_⟩
          have rhX : RelH X.K ρ1 h1 H1 := by rw [← g.hK]; exact rh1
          exact ⟨v1, .ty t.py, .type (kindD d1), .type t.py, t.has d1, rfl, .ty _, tyX_ok rhX rd1 (ref_lt rhX rd1), kit_ty (kitB_has t d1), Out.ok o1 (Ext.refl _ _) rh1 _ rfl⟩
      · cases h
    · cases h
  | .isiT a ts, N, so, sc, c, X, e, g, h => by
    unfold chkE at h
    cases h
  | .lc own ig it t0 tt elt, N, so, sc, c, X, e, g, h => by
    unfold chkE at h
    split at h
    · split at h
      · rename_i x gens scope pos gens' tg iter ifs as
        obtain ⟨h1, h⟩ := and2 h
        obtain ⟨h2, h⟩ := and2 h
        obtain ⟨h3, h⟩ := and2 h
        obtain ⟨h4, h⟩ := and2 h
        obtain ⟨h5, h⟩ := and2 h
        obtain ⟨h6, h⟩ := and2 h
        obtain ⟨h7, h8⟩ := and2 h
        have e1 := of_decide_eq_true h1
        subst e1
        have bk := (blkOk_by h2).kind
        have hts : ∀ (s : Shared) (H : Hp) (C : Addr) (cl : List (Str × Addr)) (fp : List Addr), PTs (X.blk s H scope (compEnvC scope cl C X.env) fp) ifs (tDb c.no (evT (den T k) tt)) := by
          intro s H C cl fp
          cases ifs with
          | nil =>
            cases tt <;> first
              | (cases h7; done)
              | exact ⟨fun pins s σ H Q I q => by
                  obtain ⟨ρ, τ, h, rs, rh, o⟩ := q
                  simp only [evT] at o
                  exact pts_nil.run pins s σ H Q I (Out.ok o (Ext.refl _ _) rh)⟩
          | cons t ts =>
            cases ts with
            | nil => exact pts_one (sndT tt (g.blk bk s H C cl fp) h7)
            | cons t2 ts => cases h7
        refine PE.weak (pe_lc g.calm (by rw [g.hN]; exact g.nd) (sndI it g h6) (blkOk_by (by rw [g.hN, g.hs]; exact h2)) (fun s H C cl fp => show PG (X.blk s H scope (compEnvC scope cl C X.env) fp) tg (gOf X.K ig) from pg_ok ig (g.blk bk s H C cl fp) h3) hts (fun s H C cl fp => sndE elt (g.blk bk s H C cl fp) h8) (noSet_for h5)) fun σ H Q q => ?_
        obtain ⟨ρ, τ, h, rs, rh, o⟩ := q
        simp only [evE] at o
        have := lc_weak (X := X) (c := c) (ig := ig) (own := own) (mi := evI (den T k) it) (mt := evT (den T k) tt) (me := evE (den T k) elt) g.hK (fun i hi => of_decide_eq_true (List.all_eq_true.mp h4 i hi)) (σ := σ) (H := H) (Q := Q) ⟨ρ, τ, h, rs, rh, o⟩
        rw [g.hK] at this
        exact this
      · cases h
    · cases h
theorem sndB : ∀ (es : IA) {N : List Str} {so sc : Scope} {c : Ck} {X : Cx} {xs : List Expr} {kk : Bool} {pos : Pos}, Gd T cc k N so sc c X → chkB T cc N so sc es xs = true → PE X (.BoolOp (if kk then .And else .Or) xs pos) (tD c (evB (den T k) kk es))
  | .nil, N, so, sc, c, X, xs, kk, pos, g, h => by
    unfold chkB at h
    cases h
  | .star a r, N, so, sc, c, X, xs, kk, pos, g, h => by
    unfold chkB at h
    cases h
  | .cons a r, N, so, sc, c, X, xs, kk, pos, g, h => by
    unfold chkB at h
    cases xs with
    | nil => cases h
    | cons x xs =>
      obtain ⟨h1, h2⟩ := and2 h
      have hr : xs ≠ [] → r ≠ .nil → chkB T cc N so sc r xs = true := fun e1 e2 => by
        cases r with
        | nil => exact absurd rfl e2
        | cons b r => cases xs with
          | nil => exact absurd rfl e1
          | cons y ys => exact h2
        | star b r => cases xs with
          | nil => exact absurd rfl e1
          | cons y ys => exact h2
      have step : ∀ {y ys}, xs = y :: ys → r ≠ .nil → PE X (.BoolOp (if kk then .And else .Or) (x :: y :: ys) pos) (tD c fun τ h => (evE (den T k) a τ h).bind fun x h => match x with
          | .bl c => if c = kk then evB (den T k) kk r τ h else .ok (.bl c) h
          | _ => .bad) := fun {y ys} e1 e2 => by
        subst e1
        have ih := sndB r (kk := kk) (pos := pos) g (hr (by simp) e2)
        cases kk with
        | true =>
          refine PE.weak (pe_and (sndE a g h1) ih) fun σ H Q q => ?_
          obtain ⟨ρ, τ, h, rs, rh, o⟩ := q
          refine ⟨ρ, τ, h, rs, rh, (Out.bind o).imp fun d1 h1 ρ1 H1 e1 rh1 o1 v1 rd1 => ?_⟩
          split at o1
          · rename_i cb
            refine ⟨cb, rd1, ?_⟩
            cases cb with
            | true => rw [if_pos rfl] at o1 ⊢; exact ⟨ρ1, τ, h1, rs.mono e1, rh1, o1⟩
            | false =>
              rw [if_neg Bool.false_ne_true] at o1 ⊢
              exact Out.ok o1 (Ext.refl _ _) rh1 _ rfl
          · exact False.elim o1
        | false =>
          refine PE.weak (pe_or (sndE a g h1) ih) fun σ H Q q => ?_
          obtain ⟨ρ, τ, h, rs, rh, o⟩ := q
          refine ⟨ρ, τ, h, rs, rh, (Out.bind o).imp fun d1 h1 ρ1 H1 e1 rh1 o1 v1 rd1 => ?_⟩
          split at o1
          · rename_i cb
            refine ⟨cb, rd1, ?_⟩
            cases cb with
            | false => rw [if_pos rfl] at o1; rw [if_neg Bool.false_ne_true]; exact ⟨ρ1, τ, h1, rs.mono e1, rh1, o1⟩
            | true =>
              rw [if_neg (by decide)] at o1
              rw [if_pos rfl]
              exact Out.ok o1 (Ext.refl _ _) rh1 _ rfl
          · exact False.elim o1
      cases r with
      | nil =>
        cases xs with
        | nil =>
          refine PE.weak (pe_one (sndE a g h1)) fun σ H Q q => ?_
          obtain ⟨ρ, τ, h, rs, rh, o⟩ := q
          simp only [evB] at o
          exact ⟨ρ, τ, h, rs, rh, o⟩
        | cons y ys => cases h2
      | cons b r =>
        cases xs with
        | nil => cases h2
        | cons y ys =>
          refine PE.weak (step rfl (fun e => nomatch e)) fun σ H Q q => ?_
          obtain ⟨ρ, τ, h, rs, rh, o⟩ := q
          exact ⟨ρ, τ, h, rs, rh, o⟩
      | star b r =>
        cases xs with
        | nil => cases h2
        | cons y ys =>
          refine PE.weak (step rfl (fun e => nomatch e)) fun σ H Q q => ?_
          obtain ⟨ρ, τ, h, rs, rh, o⟩ := q
          exact ⟨ρ, τ, h, rs, rh, o⟩
theorem sndA : ∀ (es : IA) {N : List Str} {so sc : Scope} {c : Ck} {X : Cx} {xs : List Expr}, Gd T cc k N so sc c X → chkA T cc N so sc es xs = true → PA X xs (tDs c (evA (den T k) es))
  | .nil, N, so, sc, c, X, xs, g, h => by
    unfold chkA at h
    cases xs with
    | nil =>
      refine PA.weak pa_nil fun σ H Q q => ?_
      obtain ⟨ρ, τ, h, rs, rh, o⟩ := q
      simp only [evA] at o
      exact Out.ok o (Ext.refl _ _) rh [] rfl
    | cons x xs => cases h
  | .cons a r, N, so, sc, c, X, xs, g, h => by
    unfold chkA at h
    cases xs with
    | nil => cases h
    | cons x xs =>
      obtain ⟨h1, h⟩ := and2 h
      obtain ⟨h2, h3⟩ := and2 h
      refine PA.weak (pa_cons (sndE a g h2) (sndA r g h3) (star_cons h1)) fun σ H Q q => ?_
      obtain ⟨ρ, τ, h, rs, rh, o⟩ := q
      simp only [evA] at o
      refine ⟨ρ, τ, h, rs, rh, (Out.bind o).imp fun d1 h1 ρ1 H1 e1 rh1 o1 v1 rd1 => ?_⟩
      refine ⟨ρ1, τ, h1, rs.mono e1, rh1, (Out.bind o1).imp fun ds h2 ρ2 H2 e2 rh2 o2 vs rds => ?_⟩
      exact Out.ok o2 (Ext.refl _ _) rh2 _ ⟨_, _, rfl, rd1.mono e2, rds⟩
  | .star a r, N, so, sc, c, X, xs, g, h => by
    unfold chkA at h
    split at h
    · obtain ⟨h1, h2⟩ := and2 h
      refine PA.weak (StX.pa_star (sndE a g h1) (sndA r g h2) rfl) fun σ H Q q => ?_
      obtain ⟨ρ, τ, h, rs, rh, o⟩ := q
      simp only [evA] at o
      refine ⟨ρ, τ, h, rs, rh, (Out.bind o).imp fun d1 h1 ρ1 H1 e1 rh1 o1 v1 rd1 => ?_⟩
      split at o1
      · obtain ⟨p, xs, rfl, e2, r2⟩ := rd1
        refine ⟨p, xs, rfl, .inl (SqT.of e2), ρ1, τ, h1, rs.mono e1, rh1, (Out.bind o1).imp fun ds h2 ρ2 H2 e3 rh2 o2 vs rds => ?_⟩
        exact Out.ok o2 (Ext.refl _ _) rh2 _ ((r2.mono e3).app rds)
      · obtain ⟨p, rfl, e2⟩ := rd1
        split at o1
        · rename_i ys hy
          obtain ⟨xs, s1, s2⟩ := rh1.get hy e2
          refine ⟨p, xs, rfl, .inr (by rw [← g.hK]; exact s1), ρ1, τ, h1, rs.mono e1, rh1, (Out.bind o1).imp fun ds h2 ρ2 H2 e3 rh2 o2 vs rds => ?_⟩
          exact Out.ok o2 (Ext.refl _ _) rh2 _ ((s2.mono e3).app rds)
        · exact False.elim o1
      · exact False.elim o1
    · cases h
theorem sndK : ∀ (es : IA) {N : List Str} {so sc : Scope} {c : Ck} {X : Cx} {kws : List Keyword}, Gd T cc k N so sc c X → chkA T cc N so sc es (kwVals kws) = true → (kwVals kws).all noStar = true → PK X kws (tDs c (evA (den T k) es))
  | .nil, N, so, sc, c, X, kws, g, h, ns => by
    unfold chkA at h
    cases kws with
    | nil =>
      refine PK.weak pk_nil fun σ H Q q => ?_
      obtain ⟨ρ, τ, h, rs, rh, o⟩ := q
      simp only [evA] at o
      exact Out.ok o (Ext.refl _ _) rh [] rfl
    | cons x xs => cases h
  | .cons a r, N, so, sc, c, X, kws, g, h, ns => by
    unfold chkA at h
    cases kws with
    | nil => cases h
    | cons x xs =>
      obtain ⟨nm, x, kp⟩ := x
      obtain ⟨h1, h⟩ := and2 h
      obtain ⟨h2, h3⟩ := and2 h
      have ns' := (and2 ns).2
      refine PK.weak (pk_cons (sndE a g h2) (sndK r g h3 ns')) fun σ H Q q => ?_
      obtain ⟨ρ, τ, h, rs, rh, o⟩ := q
      simp only [evA] at o
      refine ⟨ρ, τ, h, rs, rh, (Out.bind o).imp fun d1 h1 ρ1 H1 e1 rh1 o1 v1 rd1 => ?_⟩
      refine ⟨ρ1, τ, h1, rs.mono e1, rh1, (Out.bind o1).imp fun ds h2 ρ2 H2 e2 rh2 o2 vs rds => ?_⟩
      exact Out.ok o2 (Ext.refl _ _) rh2 _ ⟨_, _, rfl, rd1.mono e2, rds⟩
  | .star a r, N, so, sc, c, X, kws, g, h, ns => by
    unfold chkA at h
    split at h
    · rename_i q
      rw [q] at ns
      cases (and2 ns).1
    · cases h
theorem sndO : ∀ (o : IO) {N : List Str} {so sc : Scope} {c : Ck} {X : Cx} {x : Option Expr}, Gd T cc k N so sc c X → chkO T cc N so sc o x = true → PO X x (tDo c (evO (den T k) o))
  | .no, N, so, sc, c, X, x, g, h => by
    unfold chkO at h
    cases x with
    | some x => cases h
    | none =>
      exact ⟨fun pins s σ H Q I q => po_none.run pins s σ H Q I (by
        obtain ⟨ρ, τ, h, rs, rh, o⟩ := q
        simp only [evO] at o
        exact Out.ok o (Ext.refl _ _) rh)⟩
  | .so e, N, so, sc, c, X, x, g, h => by
    unfold chkO at h
    cases x with
    | none => cases h
    | some x =>
      exact ⟨fun pins s σ H Q I q => (po_some (sndE e g h)).run pins s σ H Q I (by
        obtain ⟨ρ, τ, h, rs, rh, o⟩ := q
        simp only [evO] at o
        refine ⟨ρ, τ, h, rs, rh, (Out.bind o).imp fun d1 h1 ρ1 H1 e1 rh1 o1 v1 rd1 => ?_⟩
        split at o1
        · exact ⟨_, rd1, Out.ok o1 (Ext.refl _ _) rh1⟩
        · exact False.elim o1)⟩
theorem sndT : ∀ (t : IT) {N : List Str} {so sc : Scope} {c : Ck} {X : Cx} {e : Expr}, Gd T cc k N so sc c X → chkT T cc N so sc t e = true → PT X e (tDb c (evT (den T k) t))
  | .v a, N, so, sc, c, X, e, g, h => by
    unfold chkT at h
    obtain ⟨h1, h2⟩ := and2 h
    refine PT.weak (pt_truth (sndE a g h2) (plainT_ok h1)) fun σ H Q q => ?_
    obtain ⟨ρ, τ, h, rs, rh, o⟩ := q
    simp only [evT] at o
    refine ⟨ρ, τ, h, rs, rh, (Out.bind o).imp fun d1 h1 ρ1 H1 e1 rh1 o1 v1 rd1 => ?_⟩
    split at o1
    · rename_i b hb
      exact ⟨b, tru_okD (by rw [← g.hK]; exact rh1) rd1 hb, Out.ok o1 (Ext.refl _ _) rh1⟩
    · exact False.elim o1
  | .cm o a b, N, so, sc, c, X, e, g, h => by
    unfold chkT at h
    split at h
    · split at h
      · obtain ⟨h1, h2⟩ := and2 h
        obtain ⟨h2, h3⟩ := and2 h2
        obtain ⟨h3, h4⟩ := and2 h3
        have e1 := of_decide_eq_true h1
        subst e1
        refine PT.weak (pt_cmpR (op_cmpA g.units o) (sndE a g h3) (sndE b g h4) (noSet_mark h2)) fun σ H Q q => ?_
        obtain ⟨ρ, τ, h, rs, rh, o1⟩ := q
        simp only [evT] at o1
        refine ⟨ρ, τ, h, rs, rh, (Out.bind o1).imp fun d1 h1 ρ1 H1 e1 rh1 o1 v1 rd1 => ?_⟩
        refine ⟨ρ1, τ, h1, rs.mono e1, rh1, (Out.bind o1).imp fun d2 h2 ρ2 H2 e2 rh2 o2 v2 rd2 => ?_⟩
        split at o2
        · exact cmp_ok o (by rw [← g.hK]; exact rh2) (rd1.mono e2) rd2 (by assumption) ⟨_, rfl, Out.ok o2 (Ext.refl _ _) rh2⟩
        · exact False.elim o2
      · cases h
    · cases h
  | .cmN n a, N, so, sc, c, X, e, g, h => by
    unfold chkT at h
    split at h
    · split at h
      · obtain ⟨h1, h2⟩ := and2 h
        have e1 := of_decide_eq_true h1
        cases n with
        | false =>
          have e1 : _ = CmpOp.Is := e1
          subst e1
          refine PT.weak (pt_cmpR op_isN (sndE a g h2) pe_non (nomark _ (by decide) (by decide))) fun σ H Q q => ?_
          obtain ⟨ρ, τ, h, rs, rh, o⟩ := q
          simp only [evT] at o
          refine ⟨ρ, τ, h, rs, rh, (Out.bind o).imp fun d1 h1 ρ1 H1 e1 rh1 o1 v1 rd1 => ⟨rfl, _, rfl, ?_⟩⟩
          rw [← isN_rel rd1]
          cases d1 <;> exact Out.ok o1 (Ext.refl _ _) rh1
        | true =>
          have e1 : _ = CmpOp.IsNot := e1
          subst e1
          refine PT.weak (pt_cmpR op_notN (sndE a g h2) pe_non (nomark _ (by decide) (by decide))) fun σ H Q q => ?_
          obtain ⟨ρ, τ, h, rs, rh, o⟩ := q
          simp only [evT] at o
          refine ⟨ρ, τ, h, rs, rh, (Out.bind o).imp fun d1 h1 ρ1 H1 e1 rh1 o1 v1 rd1 => ⟨rfl, _, rfl, ?_⟩⟩
          rw [← isN_rel rd1]
          cases d1 <;> exact Out.ok o1 (Ext.refl _ _) rh1
      · cases h
    · cases h
  | .ch o o' a b d, N, so, sc, c, X, e, g, h => by
    unfold chkT at h
    split at h
    · split at h
      · obtain ⟨h1, h2⟩ := and2 h
        obtain ⟨h2, h3⟩ := and2 h2
        obtain ⟨h3, h4⟩ := and2 h3
        obtain ⟨h4, h5⟩ := and2 h4
        obtain ⟨h5, h6⟩ := and2 h5
        have e1 := of_decide_eq_true h1
        subst e1
        have e2 := of_decide_eq_true h2
        subst e2
        refine PT.weak (pt_chain (op_cmpA g.units o) (op_cmpA g.units o') (sndE a g h4) (sndE b g h5) (sndE d g h6) (noSet_mark h3)) fun σ H Q q => ?_
        obtain ⟨ρ, τ, h, rs, rh, q1⟩ := q
        simp only [evT] at q1
        refine ⟨ρ, τ, h, rs, rh, (Out.bind q1).imp fun d1 h1 ρ1 H1 e1 rh1 o1 v1 rd1 => ?_⟩
        refine ⟨ρ1, τ, h1, rs.mono e1, rh1, (Out.bind o1).imp fun d2 h2 ρ2 H2 e2 rh2 o2 v2 rd2 => ?_⟩
        have rhX : RelH X.K ρ2 h2 H2 := by rw [← g.hK]; exact rh2
        split at o2
        · rename_i hk
          refine cmp_ok o rhX (rd1.mono e2) rd2 hk ⟨true, rfl, ?_⟩
          rw [if_pos rfl]
          refine ⟨ρ2, τ, h2, (rs.mono e1).mono e2, rh2, (Out.bind o2).imp fun d3 h3 ρ3 H3 e3 rh3 o3 v3 rd3 => ?_⟩
          have rhX : RelH X.K ρ3 h3 H3 := by rw [← g.hK]; exact rh3
          split at o3
          · exact cmp_ok o' rhX (rd2.mono e3) rd3 (by assumption) ⟨_, rfl, Out.ok o3 (Ext.refl _ _) rh3⟩
          · exact False.elim o3
        · rename_i hk
          refine cmp_ok o rhX (rd1.mono e2) rd2 hk ⟨false, rfl, ?_⟩
          rw [if_neg Bool.false_ne_true]
          exact ⟨_, rfl, Out.ok o2 (Ext.refl _ _) rh2⟩
        · exact False.elim o2
      · cases h
    · cases h
  | .bo kk ts, N, so, sc, c, X, e, g, h => by
    unfold chkT at h
    split at h
    · obtain ⟨h1, h2⟩ := and2 h
      have e1 := of_decide_eq_true h1
      subst e1
      exact PT.weak (sndTs ts g h2).pt fun σ H Q q => by
        obtain ⟨ρ, τ, h, rs, rh, o⟩ := q
        simp only [evT] at o
        exact ⟨ρ, τ, h, rs, rh, o⟩
    · cases h
  | .nt t, N, so, sc, c, X, e, g, h => by
    unfold chkT at h
    split at h
    · obtain ⟨h1, h2⟩ := and2 h
      have e1 := of_decide_eq_true h1
      subst e1
      refine PT.weak (pt_not (sndT t g h2)) fun σ H Q q => ?_
      obtain ⟨ρ, τ, h, rs, rh, o⟩ := q
      simp only [evT] at o
      exact ⟨ρ, τ, h, rs, rh, (Out.bind o).imp fun d1 h1 ρ1 H1 e1 rh1 o1 => Out.ok o1 (Ext.refl _ _) rh1⟩
    · cases h
  | .yes, N, so, sc, c, X, e, g, h => by
    unfold chkT at h
    cases h
theorem sndTs : ∀ (ts : ITs) {N : List Str} {so sc : Scope} {c : Ck} {X : Cx} {xs : List Expr} {kk : Bool} {pos : Pos}, Gd T cc k N so sc c X → chkTs T cc N so sc ts xs = true → PW X (.BoolOp (if kk then .And else .Or) xs pos) (tDb c (evTs (den T k) kk ts))
  | .nil, N, so, sc, c, X, xs, kk, pos, g, h => by
    unfold chkTs at h
    cases h
  | .cons a r, N, so, sc, c, X, xs, kk, pos, g, h => by
    unfold chkTs at h
    cases xs with
    | nil => cases h
    | cons x xs =>
      obtain ⟨h1, h2⟩ := and2 h
      have pw {t t' : TT} {e : Expr} (p : PW X e t) (hh : ∀ σ H Q, t' σ H Q → t σ H Q) : PW X e t' := ⟨fun wh pins s σ H Q I q => p.run wh pins s σ H Q I (hh σ H Q q)⟩
      cases r with
      | nil =>
        cases xs with
        | nil =>
          cases kk with
          | true =>
            refine pw (pw_and1 (sndT a g h1)) fun σ H Q q => ?_
            obtain ⟨ρ, τ, h, rs, rh, o⟩ := q
            simp only [evTs] at o
            exact ⟨ρ, τ, h, rs, rh, o⟩
          | false =>
            refine pw (pw_or1 (sndT a g h1)) fun σ H Q q => ?_
            obtain ⟨ρ, τ, h, rs, rh, o⟩ := q
            simp only [evTs] at o
            exact ⟨ρ, τ, h, rs, rh, o⟩
        | cons y ys => cases h2
      | cons b r =>
        cases xs with
        | nil => cases h2
        | cons y ys =>
          have ih := sndTs (.cons b r) (kk := kk) (pos := pos) g h2
          cases kk with
          | true =>
            refine pw (pw_and (sndT a g h1) ih) fun σ H Q q => ?_
            obtain ⟨ρ, τ, h, rs, rh, o⟩ := q
            have o : Out c.K c.XI (c.E σ) ρ H ((evT (den T k) a τ h).bind fun cb h => if cb = true then evTs (den T k) true (.cons b r) τ h else .ok cb h) (fun b _ _ H' => Q b H') := o
            refine ⟨ρ, τ, h, rs, rh, (Out.bind o).imp fun cb h1 ρ1 H1 e1 rh1 o1 => ?_⟩
            cases cb with
            | true => rw [if_pos rfl] at o1 ⊢; exact ⟨ρ1, τ, h1, rs.mono e1, rh1, o1⟩
            | false =>
              rw [if_neg Bool.false_ne_true] at o1 ⊢
              exact Out.ok o1 (Ext.refl _ _) rh1
          | false =>
            refine pw (pw_or (sndT a g h1) ih) fun σ H Q q => ?_
            obtain ⟨ρ, τ, h, rs, rh, o⟩ := q
            have o : Out c.K c.XI (c.E σ) ρ H ((evT (den T k) a τ h).bind fun cb h => if cb = false then evTs (den T k) false (.cons b r) τ h else .ok cb h) (fun b _ _ H' => Q b H') := o
            refine ⟨ρ, τ, h, rs, rh, (Out.bind o).imp fun cb h1 ρ1 H1 e1 rh1 o1 => ?_⟩
            cases cb with
            | false => rw [if_pos rfl] at o1; rw [if_neg Bool.false_ne_true]; exact ⟨ρ1, τ, h1, rs.mono e1, rh1, o1⟩
            | true =>
              rw [if_neg (by decide)] at o1
              rw [if_pos rfl]
              exact Out.ok o1 (Ext.refl _ _) rh1
theorem sndI : ∀ (it : II) {N : List Str} {so sc : Scope} {c : Ck} {X : Cx} {tg e : Expr}, Gd T cc k N so sc c X → chkI T cc N so sc (isTup tg) it e = true → PI X tg e (tDi c (evI (den T k) it))
  | .seq a, N, so, sc, c, X, tg, e, g, h => by
    unfold chkI at h
    refine PI.weak (pi_seqG g.hK (sndE a g h)) fun σ H Q q => ?_
    obtain ⟨ρ, τ, h, rs, rh, o⟩ := q
    simp only [evI] at o
    exact ⟨ρ, τ, h, rs, rh, o⟩
  | .rng es, N, so, sc, c, X, tg, e, g, h => by
    unfold chkI at h
    split at h
    · rename_i y p xs kws pos
      obtain ⟨h0, h⟩ := and2 h
      obtain ⟨h1, h⟩ := and2 h
      obtain ⟨h2, h⟩ := and2 h
      obtain ⟨h3, h⟩ := and2 h
      obtain ⟨h4, h⟩ := and2 h
      obtain ⟨h5, h6⟩ := and2 h
      have e1 := of_decide_eq_true h1
      subst e1
      have hm := g.st.bl _ (of_decide_eq_true h2)
      cases kws with
      | cons kw kws => cases h0
      | nil =>
        match xs, h5, h4, h6 with
        | [a], _, h4, h6 =>
          have n1 := (and2 h4).1
          refine PI.weak (pi_range1 (g.gl h3) hm (sndA es g h6) (star_cons n1)) fun σ H Q q => ?_
          obtain ⟨ρ, τ, h, rs, rh, o⟩ := q
          simp only [evI] at o
          refine ⟨ρ, τ, h, rs, rh, ?_⟩
          have o' := Out.bind o
          cases q : evA (den T k) es τ h with
          | bad => rw [q] at o'; exact o'
          | ex cl as h1 => rw [q] at o'; exact o'
          | ok ds h1 =>
            rw [q] at o'
            intro ρ1 H1 e1 rh1 vs rd
            have o1 := o' ρ1 H1 e1 rh1
            have hl := evA_len es h6 h4 q
            match ds, hl, o1, rd with
            | [d], _, o1, rd =>
              obtain ⟨v, rfl, rv⟩ := one_rel rd
              cases d with
              | int j =>
                have ev : v = .int j := rv
                subst ev
                dsimp only at o1
                split at o1
                · rename_i hj
                  exact ⟨j, rfl, hj.1, hj.2, Out.ok o1 (Ext.refl _ _) rh1 _ it_rng⟩
                · exact False.elim o1
              | _ => exact False.elim o1
        | [a, b], _, h4, h6 =>
          have n1 := (and2 h4).1
          have n2 := (and2 (and2 h4).2).1
          refine PI.weak (pi_range2 (g.gl h3) hm (sndA es g h6) (by rw [star_cons n1, star_cons n2]; rfl) (star_cons n2)) fun σ H Q q => ?_
          obtain ⟨ρ, τ, h, rs, rh, o⟩ := q
          simp only [evI] at o
          refine ⟨ρ, τ, h, rs, rh, ?_⟩
          have o' := Out.bind o
          cases q : evA (den T k) es τ h with
          | bad => rw [q] at o'; exact o'
          | ex cl as h1 => rw [q] at o'; exact o'
          | ok ds h1 =>
            rw [q] at o'
            intro ρ1 H1 e1 rh1 vs rd
            have o1 := o' ρ1 H1 e1 rh1
            have hl := evA_len es h6 h4 q
            match ds, hl, o1, rd with
            | [d, d2], _, o1, rd =>
              obtain ⟨v, u, rfl, rv, ru⟩ := two_rel rd
              cases d with
              | int i =>
                cases d2 with
                | int j =>
                  have ev : v = .int i := rv
                  have eu : u = .int j := ru
                  subst ev eu
                  dsimp only at o1
                  split at o1
                  · rename_i hj
                    exact ⟨i, j, rfl, hj, Out.ok o1 (Ext.refl _ _) rh1 _ it_rng⟩
                  · exact False.elim o1
                | _ => exact False.elim o1
              | _ => exact False.elim o1
        | [], h5, _, _ => cases h5
        | _ :: _ :: _ :: _, h5, _, _ => simp at h5
    · cases h
  | .enm a, N, so, sc, c, X, tg, e, g, h => by
    unfold chkI at h
    split at h
    · split at h
      · rename_i y p xs kws pos xs' z
        obtain ⟨h0, h⟩ := and2 h
        obtain ⟨h1, h⟩ := and2 h
        obtain ⟨h2, h⟩ := and2 h
        obtain ⟨h3, h⟩ := and2 h
        obtain ⟨h4, h⟩ := and2 h
        obtain ⟨h5, h6⟩ := and2 h
        have e1 := of_decide_eq_true h1
        subst e1
        have hm := g.st.bl _ (of_decide_eq_true h2)
        cases kws with
        | cons kw kws => cases h0
        | nil =>
          cases tg with
          | Tuple elts kk tpos =>
            refine PI.weak (pi_enum (g.gl h3) hm (pa_cons (sndE a g h5) pa_nil (star_cons h4)) (star_cons h4)) fun σ H Q q => ?_
            obtain ⟨ρ, τ, h, rs, rh, o⟩ := q
            simp only [evI] at o
            refine ⟨ρ, τ, h, rs, rh, (Out.bind o).imp fun d1 h1 ρ1 H1 e1 rh1 o1 v1 rd1 => ?_⟩
            split at o1
            · obtain ⟨p, rfl, e2⟩ := rd1
              split at o1
              · rename_i ys hy
                obtain ⟨us, s1, s2⟩ := rh1.get hy e2
                exact ⟨p, us, rfl, by rw [← g.hK]; exact s1, Out.ok o1 (Ext.refl _ _) rh1 _ (by rw [g.hK]; exact it_enm e2)⟩
              · exact False.elim o1
            · exact False.elim o1
          | _ => cases h6
      · cases h
    · cases h
  | .zip a b, N, so, sc, c, X, tg, e, g, h => by
    unfold chkI at h
    split at h
    · split at h
      · rename_i y p xs kws pos xs' z w
        obtain ⟨h0, h⟩ := and2 h
        obtain ⟨h1, h⟩ := and2 h
        obtain ⟨h2, h⟩ := and2 h
        obtain ⟨h3, h⟩ := and2 h
        obtain ⟨h4, h⟩ := and2 h
        obtain ⟨h5, h⟩ := and2 h
        obtain ⟨h6, h⟩ := and2 h
        obtain ⟨h7, h8⟩ := and2 h
        have e1 := of_decide_eq_true h1
        subst e1
        have hm := g.st.bl _ (of_decide_eq_true h2)
        cases kws with
        | cons kw kws => cases h0
        | nil =>
          cases tg with
          | Tuple elts kk tpos =>
            refine PI.weak (pi_zip (g.gl h3) hm (pa_cons (sndE a g h6) (pa_cons (sndE b g h7) pa_nil (star_cons h5)) (star_cons h4)) (star_cons h4) (by rw [star_cons h5]; rfl)) fun σ H Q q => ?_
            obtain ⟨ρ, τ, h, rs, rh, o⟩ := q
            simp only [evI] at o
            refine ⟨ρ, τ, h, rs, rh, (Out.bind o).imp fun d1 h1 ρ1 H1 e1 rh1 o1 v1 rd1 => ?_⟩
            refine ⟨ρ1, τ, h1, rs.mono e1, rh1, (Out.bind o1).imp fun d2 h2 ρ2 H2 e2 rh2 o2 v2 rd2 => ?_⟩
            split at o2
            · obtain ⟨p, rfl, f1⟩ := rd1
              obtain ⟨p2, rfl, f2⟩ := rd2
              split at o2
              · rename_i xs ys hx hy
                have f1' := e2.at_ _ _ f1
                obtain ⟨us, s1, s2⟩ := rh2.get hx f1'
                obtain ⟨ws, t1, t2⟩ := rh2.get hy f2
                exact ⟨p, p2, us, ws, rfl, by rw [← g.hK]; exact s1, by rw [← g.hK]; exact t1, Out.ok o2 (Ext.refl _ _) rh2 _ (by rw [g.hK]; exact it_zip f1' f2)⟩
              · exact False.elim o2
            · exact False.elim o2
          | _ => cases h8
      · cases h
    · cases h
end
end
end G4

/-! G10: statements, functions, the law's end. -/
namespace G4
open PySem PySem.Spec PyProof.Rows L2

def isComp : Expr → Bool
  | .ListComp .. => true
  | .SetComp .. => true
  | .DictComp .. => true
  | _ => false
theorem swaps_no {v : Expr} {t : Option Expr} {l : Nat} {env : Env} (h : isComp v = false) : swapsWith v t l env = pure false := by
  cases v <;> first | rfl | cases h
def isLocNm (sc : Scope) : Expr → Bool
  | .Name x _ => isLocal sc x
  | _ => false
/-- a, b = x, y where no stores are exchanged -/
def swN (ts vs : List Expr) (sc : Scope) : Bool := !(ts.length == 2 || ts.length == 3) || (vs.all (foldedForSure 8) || !(ts.all (isLocNm sc)))
theorem filterMap_len {α β : Type} {f : α → Option β} : ∀ {l : List α}, (l.filterMap f).length ≤ l.length
  | [] => Nat.le_refl _
  | a :: l => by
    rw [List.filterMap_cons]
    have := filterMap_len (f := f) (l := l)
    split <;> simp <;> omega
theorem filterMap_all {α β : Type} {f : α → Option β} {p : α → Bool} (hf : ∀ a, (f a).isSome = true → p a = true) : ∀ {l : List α}, (l.filterMap f).length = l.length → l.all p = true
  | [], _ => rfl
  | a :: l, h => by
    rw [List.filterMap_cons] at h
    have hl := filterMap_len (f := f) (l := l)
    cases q : f a with
    | none =>
      rw [q] at h
      simp only [List.length_cons] at h
      omega
    | some b =>
      rw [q] at h
      simp only [List.length_cons] at h
      rw [List.all_cons, hf a (by rw [q]; rfl), filterMap_all hf (l := l) (by omega)]; rfl
theorem swN_ok {ts vs : List Expr} {sc : Scope} {env : Env} {k1 k2 : Nat} {p1 p2 : Pos} (hs : env.scope = sc) (h : swN ts vs sc = true) : swappedStores [.Tuple ts k1 p1] (.Tuple vs k2 p2) env = pure none := by
  unfold swappedStores
  dsimp only
  split
  · rfl
  · split
    · rfl
    · split
      · rfl
      · rename_i h1 h2 h3
        split
        · rfl
        · rename_i h4
          exfalso
          unfold swN at h
          rw [Bool.or_eq_true, Bool.or_eq_true] at h
          simp only [Bool.or_eq_true, not_or] at h1 h3
          rcases h with h | h | h
          · exact h1.1.1 h
          · exact h4 h
          · have hall : ts.all (isLocNm sc) = true := by
              have this := h3.1
              simp at this
              rw [List.all_eq_true]
              intro a ha
              have q := this a ha
              cases a with
              | Name x p =>
                simp only [isLocNm]
                unfold isLocal
                have kk : env.kindOf x = some .local := by
                  apply Classical.byContradiction
                  intro hk
                  apply q
                  simp [hk]
                have e : sc.names.lookup x = some .local := by rw [← hs]; exact kk
                rw [e]
              | _ => exact absurd rfl q
            rw [hall] at h
            cases h
/-- two names, stored from the right -/
def swS2 (ts vs : List Expr) (sc : Scope) : Bool := match ts, vs with
  | [.Name x px, .Name y py], [a, b] => isLocal sc x && (isLocal sc y && (!decide (x = y) && (decide (py.line = px.line) && (noStar a && (noStar b && (!([a, b].all (foldedForSure 8)) && !([a, b].all (constantsAlone 8))))))))
  | _, _ => false
def swS3 (ts vs : List Expr) (sc : Scope) : Bool := match ts, vs with
  | [.Name x px, .Name y py, .Name z pz], [a, b, c] => isLocal sc x && (isLocal sc y && (isLocal sc z && (!decide (x = y) && (!decide (x = z) && (!decide (y = z) && (decide (py.line = px.line) && (decide (pz.line = px.line) && (noStar a && (noStar b && (noStar c && (!([a, b, c].all (foldedForSure 8)) && !([a, b, c].all (constantsAlone 8)))))))))))))
  | _, _ => false
theorem isLocal_kind {sc : Scope} {env : Env} {x : Str} (hs : env.scope = sc) (h : isLocal sc x = true) : env.kindOf x = some .local := by
  show env.scope.names.lookup x = _
  rw [hs]; exact local_ok h
theorem block_fn {env : Env} (h : env.scope.kind = .function) : env.blockKind = .function := by
  unfold Env.blockKind
  rw [h]; rfl
theorem swS2_ok {x y : Str} {px py p1 p2 : Pos} {a b : Expr} {env : Env} {k1 k2 : Nat} (hk : env.scope.kind = .function) (hx : env.kindOf x = some .local) (hy : env.kindOf y = some .local) (hne : x ≠ y) (hl : py.line = px.line) (na : noStar a = true) (nb : noStar b = true)
    (hf : [a, b].all (foldedForSure 8) = false) (hc : [a, b].all (constantsAlone 8) = false) : swappedStores [.Tuple [.Name x px, .Name y py] k1 p1] (.Tuple [a, b] k2 p2) env = pure (some [x, y]) := by
  have hb := block_fn hk
  unfold swappedStores
  simp [hb, hx, hy, hne, hl, hf, hc, Expr.pos, List.eraseDups_cons, Ne.symm hne]
  intro h
  exfalso
  rcases h with h | h
  · cases a <;> first | (cases na; done) | (cases h; done)
  · cases b <;> first | (cases nb; done) | (cases h; done)
theorem swS3_ok {x y z : Str} {px py pz p1 p2 : Pos} {a b c : Expr} {env : Env} {k1 k2 : Nat} (hk : env.scope.kind = .function) (hx : env.kindOf x = some .local) (hy : env.kindOf y = some .local) (hz : env.kindOf z = some .local) (hne : x ≠ y) (hne2 : x ≠ z) (hne3 : y ≠ z) (hl : py.line = px.line) (hl2 : pz.line = px.line) (na : noStar a = true) (nb : noStar b = true) (nc : noStar c = true)
    (hf : [a, b, c].all (foldedForSure 8) = false) (hc : [a, b, c].all (constantsAlone 8) = false) : swappedStores [.Tuple [.Name x px, .Name y py, .Name z pz] k1 p1] (.Tuple [a, b, c] k2 p2) env = pure (some [x, y, z]) := by
  have hb := block_fn hk
  unfold swappedStores
  simp [hb, hx, hy, hz, hne, hne2, hne3, hl, hl2, hf, hc, Expr.pos, List.eraseDups_cons, Ne.symm hne, Ne.symm hne2, Ne.symm hne3]
  intro h
  exfalso
  rcases h with h | h | h
  · cases a <;> first | (cases na; done) | (cases h; done)
  · cases b <;> first | (cases nb; done) | (cases h; done)
  · cases c <;> first | (cases nc; done) | (cases h; done)
end G4

/-! G11: statements, functions, the law's end. -/
namespace G4
open PySem PySem.Spec PyProof.Rows L2

/-- name = [..] on one line: the new list's name is stored before the block's names go -/
def swLc (sc : Scope) (tg v : Expr) : Bool := match tg, v with
  | .Name y py, .ListComp _ _ scope lp => isLocal sc y && (py.line == lp.line && !(scope.names.any fun (n, k) => n == y && (k == .local || k == .cell)))
  | _, _ => false
def okAsg (sc : Scope) (tg v : Expr) : Bool := match isComp v with
  | true => (match tg, v with
    | .Name _ _, .ListComp _ _ _ _ => true
    | _, _ => false)
  | false => (match tg, v with
    | .Tuple ts _ _, .Tuple vs _ _ => swN ts vs sc || (swS2 ts vs sc || swS3 ts vs sc)
    | _, _ => true)
section
variable (T : Tab) (cc : Cc) (N : List Str) (sc : Scope)
mutual
def chkS : IS → Stmt → Bool
  | .asg g e, s => match s with
    | .Assign ts v _ => match ts with
      | [tg] => chkG N sc sc g tg && (chkE T cc N sc sc e v && okAsg sc tg v)
      | _ => false
    | _ => false
  | .par _ _, _ => false
  | .setl o i e, s => match s with
    | .Assign ts v _ => match ts with
      | [.Subscript a b _] => !isComp v && (noSlice b && (chkE T cc N sc sc o a && (chkE T cc N sc sc i b && chkE T cc N sc sc e v)))
      | _ => false
    | _ => false
  | .aug i o e, s => match s with
    | .AugAssign (.Name x _) op v _ => decide (N[i]? = some x) && (loc sc x && (decide (o.py = op) && chkE T cc N sc sc e v))
    | _ => false
  | .ex e, s => match s with
    | .Expr v _ => !isComp v && chkE T cc N sc sc e v
    | _ => false
  | .ret e, s => match s with
    | .Return (some v) _ => chkE T cc N sc sc e v
    | _ => false
  | .retn, s => match s with
    | .Return none _ => true
    | _ => false
  | .iff t a b, s => match s with
    | .If x y z _ => chkT T cc N sc sc t x && (chkSs a y && chkSs b z)
    | _ => false
  | .wh t b, s => match s with
    | .While x y z _ => z.isEmpty && (chkT T cc N sc sc t x && chkSs b y)
    | _ => false
  | .fr g it b, s => match s with
    | .For tg iter y z _ => z.isEmpty && (noSet iter && (chkG N sc sc g tg && (chkI T cc N sc sc (isTup tg) it iter && chkSs b y)))
    | _ => false
  | .br, s => match s with
    | .Break _ => true
    | _ => false
  | .ct, s => match s with
    | .Continue _ => true
    | _ => false
  | .ps, s => match s with
    | .Pass _ => true
    | _ => false
  | .nev, _ => true
def chkSs : ISs → List Stmt → Bool
  | .nil, ss => ss.isEmpty
  | .cons s r, ss => match ss with
    | x :: xs => chkS s x && chkSs r xs
    | [] => false
end
end
section
variable {T : Tab} {cc : Cc} {k : Nat} {N : List Str} {sc : Scope} {c : Ck} {X : Cx}
theorem asg_weak {ig : IG} {me : Sl → Hv → R D} (hK : c.K = X.K) {D : Ends} {σ : L2.St} {H : Hp} (q : tSs c (fun τ h => (me τ h).stm τ fun x h => match asG ig x τ with
    | some τ' => .nx τ' h
    | none => .bad) D σ H) : tAsg (tD c me) (gOf X.K ig) D σ H := by
  obtain ⟨ρ, τ, h, rs, rh, o⟩ := q
  refine ⟨ρ, τ, h, rs, rh, (OutS.stm o rs).imp fun d h1 ρ1 H1 e1 rh1 o1 v rd => ?_⟩
  cases qa : asG ig d τ with
  | none => rw [qa] at o1; exact False.elim o1
  | some τ' =>
    rw [qa] at o1
    refine gOf_ok ig rd qa (rs.mono e1) fun σ' rs' _ => ?_
    exact o1 ρ1 H1 σ' (Ext.refl _ _) rh1 rs'
theorem swp_one {g : IG} {tg v : Expr} {so : Scope} {env : Env} (h : chkG N so sc g tg = true) (ht : (isTup tg && isTup v) = false) : swappedStores [tg] v env = pure none := by
  cases tg <;> first
    | rfl
    | (cases v <;> first | rfl | (cases ht; done))
    | (cases g <;> cases h)
theorem assign_one {g : IG} {tg : Expr} {so : Scope} {env : Env} (h : chkG N so sc g tg = true) : (assignEach [tg] env).map (·.2) = [assign tg env] := by
  rw [assign_star h]; rfl
theorem swaps_lc {elt : Expr} {gs : List Comprehension} {scope : Scope} {lp py : Pos} {y : Str} {l : Nat} {env : Env} (hk : env.scope.kind = .function) (hs : env.scope = sc) : swapsWith (.ListComp elt gs scope lp) (some (.Name y py)) l env = pure (swLc sc (.Name y py) (.ListComp elt gs scope lp)) := by
  have hb := block_fn hk
  unfold swapsWith swLc isLocal
  dsimp only
  have e : env.kindOf y = sc.names.lookup y := by rw [← hs]; rfl
  rw [hb, e]
  cases sc.names.lookup y with
  | none => rfl
  | some kd =>
    cases kd <;> first
      | rfl
      | (simp [Expr.pos]; rfl)
      | simp [Expr.pos]
theorem nm_form {g : IG} {x : Str} {p : Pos} {so : Scope} (h : chkG N so sc g (.Name x p) = true) : ∃ i, g = .nm i ∧ N[i]? = some x := by
  cases g with
  | nm i => exact ⟨i, rfl, of_decide_eq_true (and2 h).1⟩
  | tp gs => cases h
theorem cons_form {gs : List IG} {e : Expr} {es : List Expr} {so : Scope} (h : chkGs N so sc gs (e :: es) = true) : ∃ g gs', gs = g :: gs' ∧ chkG N so sc g e = true ∧ chkGs N so sc gs' es = true := by
  cases gs with
  | nil => cases h
  | cons g gs => exact ⟨g, gs, rfl, (and2 h).1, (and2 h).2⟩
theorem nil_form {gs : List IG} {so : Scope} (h : chkGs N so sc gs [] = true) : gs = [] := by
  cases gs with
  | nil => rfl
  | cons g gs => cases h
theorem tgt_form {g : IG} {es : List Expr} {kk : Nat} {p : Pos} {so : Scope} (h : chkG N so sc g (.Tuple es kk p) = true) : ∃ gs, g = .tp gs ∧ chkGs N so sc gs es = true := by
  cases g with
  | nm i => cases h
  | tp gs => exact ⟨gs, rfl, h⟩
theorem two_names {g : IG} {x y : Str} {px py p : Pos} {kk : Nat} {so : Scope} (h : chkG N so sc g (.Tuple [.Name x px, .Name y py] kk p) = true) : ∃ i j, g = .tp [.nm i, .nm j] ∧ N[i]? = some x ∧ N[j]? = some y := by
  obtain ⟨gs, rfl, h⟩ := tgt_form h
  obtain ⟨g1, gs, rfl, h1, h⟩ := cons_form h
  obtain ⟨g2, gs, rfl, h2, h⟩ := cons_form h
  obtain rfl := nil_form h
  obtain ⟨i, rfl, hi⟩ := nm_form h1
  obtain ⟨j, rfl, hj⟩ := nm_form h2
  exact ⟨i, j, rfl, hi, hj⟩
theorem three_names {g : IG} {x y z : Str} {px py pz p : Pos} {kk : Nat} {so : Scope} (h : chkG N so sc g (.Tuple [.Name x px, .Name y py, .Name z pz] kk p) = true) : ∃ i j l, g = .tp [.nm i, .nm j, .nm l] ∧ N[i]? = some x ∧ N[j]? = some y ∧ N[l]? = some z := by
  obtain ⟨gs, rfl, h⟩ := tgt_form h
  obtain ⟨g1, gs, rfl, h1, h⟩ := cons_form h
  obtain ⟨g2, gs, rfl, h2, h⟩ := cons_form h
  obtain ⟨g3, gs, rfl, h3, h⟩ := cons_form h
  obtain rfl := nil_form h
  obtain ⟨i, rfl, hi⟩ := nm_form h1
  obtain ⟨j, rfl, hj⟩ := nm_form h2
  obtain ⟨l, rfl, hl⟩ := nm_form h3
  exact ⟨i, j, l, rfl, hi, hj, hl⟩
theorem stm_bind {α β : Type} (r : R α) (f : α → Hv → R β) (τ : Sl) (F : β → Hv → RS) : (r.bind f).stm τ F = r.stm τ fun a h => (f a h).stm τ F := by
  cases r <;> rfl
theorem tup_form {so : Scope} {e : IE} {vs : List Expr} {kk : Nat} {p : Pos} (h : chkE T cc N so sc e (.Tuple vs kk p) = true) : ∃ es, e = .tp es ∧ chkA T cc N so sc es vs = true := by
  cases e with
  | tp es => exact ⟨es, rfl, h⟩
  | sl a lo hi => cases h
  | _ => first | (cases h; done) | (unfold chkE at h; cases h)
theorem asg_ok (g : Gd T cc k N sc sc c X) {ig : IG} {e : IE} {tg v : Expr} {pos : Pos} (h1 : chkG N sc sc ig tg = true) (h2 : chkE T cc N sc sc e v = true) (h3 : okAsg sc tg v = true) : PS X (.Assign [tg] v pos) (tSs c (exS (den T k) (.asg ig e))) := by
  have hgk := pg_ok ig g h1
  have hek := sndE e g h2
  have hkd : X.env.scope.kind = .function := by rw [g.hs]; exact g.kd
  have fin : ∀ D σ H, tSs c (exS (den T k) (.asg ig e)) D σ H → tAsg (tD c (evE (den T k) e)) (gOf X.K ig) D σ H := fun D σ H q => by
    obtain ⟨ρ, τ, h, rs, rh, o⟩ := q
    simp only [exS] at o
    exact asg_weak g.hK ⟨ρ, τ, h, rs, rh, o⟩
  unfold okAsg at h3
  split at h3
  · split at h3
    · rename_i y py elt gens scope lp hc
      have sw := swaps_lc (l := pos.line) (elt := elt) (gs := gens) (scope := scope) (lp := lp) (py := py) (y := y) hkd g.hs
      cases hsw : swLc sc (.Name y py) (.ListComp elt gens scope lp) with
      | false =>
        rw [hsw] at sw
        exact PS.weak (ps_asg hek hgk sw rfl rfl) fin
      | true =>
        rw [hsw] at sw
        have hl : isLocal sc y = true := (and2 hsw).1
        have hyl : X.env.scope.names.lookup y = some .local := by rw [g.hs]; exact local_ok hl
        cases ig with
        | tp gs => cases h1
        | nm i =>
          have hi : N[i]? = some y := of_decide_eq_true (and2 h1).1
          cases e with
          | lc own g2 it t0 tt elt' =>
            have h := h2
            unfold chkE at h
            dsimp only at h
            split at h
            · rename_i tg iter ifs as
              obtain ⟨c1, h⟩ := and2 h
              obtain ⟨c2, h⟩ := and2 h
              obtain ⟨c3, h⟩ := and2 h
              obtain ⟨c4, h⟩ := and2 h
              obtain ⟨c5, h⟩ := and2 h
              obtain ⟨c6, h⟩ := and2 h
              obtain ⟨c7, c8⟩ := and2 h
              have e1 := of_decide_eq_true c1
              subst e1
              have bk := (blkOk_by c2).kind
              have hts : ∀ (s : Shared) (H : Hp) (C : Addr) (cl : List (Str × Addr)) (fp : List Addr), PTs (X.blk s H scope (compEnvC scope cl C X.env) fp) ifs (tDb c.no (evT (den T k) tt)) := by
                intro s H C cl fp
                cases ifs with
                | nil =>
                  cases tt <;> first
                    | (cases c7; done)
                    | exact ⟨fun pins s σ H Q I q => by
                        obtain ⟨ρ, τ, h, rs, rh, o⟩ := q
                        simp only [evT] at o
                        exact pts_nil.run pins s σ H Q I (Out.ok o (Ext.refl _ _) rh)⟩
                | cons t ts =>
                  cases ts with
                  | nil => exact pts_one (sndT tt (g.blk bk s H C cl fp) c7)
                  | cons t2 ts => cases c7
              refine PS.weak (ps_setLc g.calm (by rw [g.hN]; exact g.nd) (by rw [g.hN]; exact hi) hyl sw (sndI it g c6) (blkOk_by (by rw [g.hN, g.hs]; exact c2)) (fun s H C cl fp => show PG (X.blk s H scope (compEnvC scope cl C X.env) fp) tg (gOf X.K g2) from pg_ok g2 (g.blk bk s H C cl fp) c3) hts (fun s H C cl fp => sndE elt' (g.blk bk s H C cl fp) c8) (noSet_for c5)) fun D σ H q => ?_
              have w := fin D σ H q
              obtain ⟨ρ, τ, h, rs, rh, o⟩ := w
              simp only [evE] at o
              have := lc_weak (X := X) (c := c) (ig := g2) (own := own) (mi := evI (den T k) it) (mt := evT (den T k) tt) (me := evE (den T k) elt') g.hK (fun i hi => of_decide_eq_true (List.all_eq_true.mp c4 i hi)) (σ := σ) (H := H) ⟨ρ, τ, h, rs, rh, o⟩
              rw [g.hK] at this
              exact this
            · cases h
          | _ => first | (cases h2; done) | (unfold chkE at h2; cases h2)
    · cases h3
  · rename_i hc
    have sw : swapsWithSole [tg] v pos.line X.env = pure false := swaps_no hc
    split at h3
    · rename_i ts k1 p1 vs k2 p2
      rcases Bool.or_eq_true_iff.mp h3 with h4 | h4
      · exact PS.weak (ps_asg hek hgk sw (swN_ok g.hs h4) (assign_one h1)) fin
      · obtain ⟨es, rfl, h5⟩ := tup_form h2
        have hA := sndA es g h5
        rcases Bool.or_eq_true_iff.mp h4 with h6 | h6
        · unfold swS2 at h6
          split at h6
          · rename_i x px y py a b
            obtain ⟨q1, h6⟩ := and2 h6
            obtain ⟨q2, h6⟩ := and2 h6
            obtain ⟨q3, h6⟩ := and2 h6
            obtain ⟨q4, h6⟩ := and2 h6
            obtain ⟨q5, h6⟩ := and2 h6
            obtain ⟨q6, h6⟩ := and2 h6
            obtain ⟨q7, q8⟩ := and2 h6
            obtain ⟨i, j, rfl, hi, hj⟩ := two_names h1
            have hne : x ≠ y := by simpa using q3
            have hij : i ≠ j := fun z => hne (by subst z; rw [hi] at hj; exact Option.some.inj hj)
            refine PS.weak (ps_par g.calm (by rw [g.hN]; exact g.nd) (by rw [g.hN]; exact hi) (by rw [g.hN]; exact hj) hij (by rw [g.hs]; exact local_ok q1) (by rw [g.hs]; exact local_ok q2) hA
              (swS2_ok hkd (isLocal_kind g.hs q1) (isLocal_kind g.hs q2) hne (of_decide_eq_true q4) q5 q6 ((Bool.not_eq_true' _).mp q7) ((Bool.not_eq_true' _).mp q8)) sw) fun D σ H q => ?_
            obtain ⟨ρ, τ, h, rs, rh, o⟩ := q
            simp only [exS, evE] at o
            rw [stm_bind] at o
            refine ⟨ρ, τ, h, rs, rh, (OutS.stm o rs).imp fun ds h1 ρ1 H1 e1 rh1 o1 us rd => ?_⟩
            split at o1
            · cases qa : asG (.tp [.nm i, .nm j]) (.tup ds) τ with
              | none =>
                simp only [R.stm, qa] at o1
                exact False.elim o1
              | some τ' =>
                simp only [R.stm, qa] at o1
                match ds, qa, rd with
                | [], qa, _ => simp [asG, asGs] at qa
                | [_], qa, _ => simp [asG, asGs] at qa
                | _ :: _ :: _ :: _, qa, _ => simp [asG, asGs] at qa
                | [d1, d2], qa, rd =>
                  obtain ⟨v, w, rfl, r1, r2⟩ := two_rel rd
                  simp only [asG, asGs] at qa
                  cases qa
                  exact ⟨v, w, rfl, o1 ρ1 H1 _ (Ext.refl _ _) rh1 (((rs.mono e1).set r1).set r2)⟩
            · exact False.elim o1
          · cases h6
        · unfold swS3 at h6
          split at h6
          · rename_i x px y py z pz a b d
            obtain ⟨q1, h6⟩ := and2 h6
            obtain ⟨q2, h6⟩ := and2 h6
            obtain ⟨q3, h6⟩ := and2 h6
            obtain ⟨q4, h6⟩ := and2 h6
            obtain ⟨q5, h6⟩ := and2 h6
            obtain ⟨q6, h6⟩ := and2 h6
            obtain ⟨q7, h6⟩ := and2 h6
            obtain ⟨q8, h6⟩ := and2 h6
            obtain ⟨q9, h6⟩ := and2 h6
            obtain ⟨q10, h6⟩ := and2 h6
            obtain ⟨q11, h6⟩ := and2 h6
            obtain ⟨q12, q13⟩ := and2 h6
            obtain ⟨i, j, l, rfl, hi, hj, hl⟩ := three_names h1
            have hne : x ≠ y := by simpa using q4
            have hne2 : x ≠ z := by simpa using q5
            have hne3 : y ≠ z := by simpa using q6
            have hij : i ≠ j := fun w => hne (by subst w; rw [hi] at hj; exact Option.some.inj hj)
            have hil : i ≠ l := fun w => hne2 (by subst w; rw [hi] at hl; exact Option.some.inj hl)
            have hjl : j ≠ l := fun w => hne3 (by subst w; rw [hj] at hl; exact Option.some.inj hl)
            refine PS.weak (ps_par3 g.calm (by rw [g.hN]; exact g.nd) (by rw [g.hN]; exact hi) (by rw [g.hN]; exact hj) (by rw [g.hN]; exact hl) hij hil hjl (by rw [g.hs]; exact local_ok q1) (by rw [g.hs]; exact local_ok q2) (by rw [g.hs]; exact local_ok q3) hA
              (swS3_ok hkd (isLocal_kind g.hs q1) (isLocal_kind g.hs q2) (isLocal_kind g.hs q3) hne hne2 hne3 (of_decide_eq_true q7) (of_decide_eq_true q8) q9 q10 q11 ((Bool.not_eq_true' _).mp q12) ((Bool.not_eq_true' _).mp q13)) sw) fun D σ H q => ?_
            obtain ⟨ρ, τ, h, rs, rh, o⟩ := q
            simp only [exS, evE] at o
            rw [stm_bind] at o
            refine ⟨ρ, τ, h, rs, rh, (OutS.stm o rs).imp fun ds h1 ρ1 H1 e1 rh1 o1 us rd => ?_⟩
            split at o1
            · cases qa : asG (.tp [.nm i, .nm j, .nm l]) (.tup ds) τ with
              | none =>
                simp only [R.stm, qa] at o1
                exact False.elim o1
              | some τ' =>
                simp only [R.stm, qa] at o1
                match ds, qa, rd with
                | [], qa, _ => simp [asG, asGs] at qa
                | [_], qa, _ => simp [asG, asGs] at qa
                | [_, _], qa, _ => simp [asG, asGs] at qa
                | _ :: _ :: _ :: _ :: _, qa, _ => simp [asG, asGs] at qa
                | [d1, d2, d3], qa, rd =>
                  obtain ⟨u, us', rfl, r1, rd⟩ := rd
                  obtain ⟨v, w, rfl, r2, r3⟩ := two_rel rd
                  simp only [asG, asGs] at qa
                  cases qa
                  exact ⟨u, v, w, rfl, o1 ρ1 H1 _ (Ext.refl _ _) rh1 ((((rs.mono e1).set r1).set r2).set r3)⟩
            · exact False.elim o1
          · cases h6
    · rename_i hnt
      refine PS.weak (ps_asg hek hgk sw (swp_one h1 ?_) (assign_one h1)) fin
      cases tg <;> cases v <;> first | rfl | exact absurd rfl (hnt _ _ _ _ _ _ rfl)
end
end G4

/-! G12: blocks, functions, the law's end. -/
namespace G4
open PySem PySem.Spec PyProof.Rows L2

section
variable {T : Tab} {cc : Cc} {k : Nat} {N : List Str} {sc : Scope} {c : Ck} {X : Cx}
theorem noSlice_set {o i : Expr} {pos : Pos} {env : Env} (h : noSlice i = true) (v : Value) : assign (.Subscript o i pos) env v = (do
      let ov ← holding [v] (eval o env)
      let iv ← holding [v, ov] (eval i env)
      standAt pos
      holding [v, ov, iv] (setItem ov iv v)
      release [v, ov, iv] []) := by
  cases i <;> first | rfl | cases h
theorem swapsSole {t v : Expr} {l : Nat} {env : Env} (h : isComp v = false) : swapsWithSole [t] v l env = pure false := swaps_no (t := some t) (l := l) (env := env) h
mutual
theorem sndS : ∀ (is : IS) {st : Stmt}, Gd T cc k N sc sc c X → chkS T cc N sc is st = true → PS X st (tSs c (exS (den T k) is))
  | .asg ig e, st, g, h => by
    unfold chkS at h
    split at h
    · split at h
      · obtain ⟨h1, h⟩ := and2 h
        obtain ⟨h2, h3⟩ := and2 h
        exact asg_ok g h1 h2 h3
      · cases h
    · cases h
  | .par _ _, st, g, h => by
    unfold chkS at h
    cases h
  | .setl o i e, st, g, h => by
    unfold chkS at h
    split at h
    · split at h
      · rename_i v pos ts a b tp
        obtain ⟨h1, h⟩ := and2 h
        obtain ⟨h2, h⟩ := and2 h
        obtain ⟨h3, h⟩ := and2 h
        obtain ⟨h4, h5⟩ := and2 h
        have nc : isComp v = false := (Bool.not_eq_true' _).mp h1
        refine PS.weak (ps_asg (sndE e g h5) (pg_sub (sndE o g h3) (sndE i g h4) set_list (noSlice_set h2)) (swapsSole nc) rfl rfl) fun D σ H q => ?_
        obtain ⟨ρ, τ, h, rs, rh, o1⟩ := q
        simp only [exS] at o1
        refine ⟨ρ, τ, h, rs, rh, (OutS.stm o1 rs).imp fun d1 h1 ρ1 H1 e1 rh1 o1 v1 rd1 => ?_⟩
        refine ⟨ρ1, τ, h1, rs.mono e1, rh1, (OutS.stm o1 (rs.mono e1)).imp fun d2 h2 ρ2 H2 e2 rh2 o2 v2 rd2 => ?_⟩
        refine ⟨ρ2, τ, h2, (rs.mono e1).mono e2, rh2, (OutS.stm o2 ((rs.mono e1).mono e2)).imp fun d3 h3 ρ3 H3 e3 rh3 o3 v3 rd3 => ?_⟩
        split at o3
        · have r2 := rd2.mono e3
          obtain ⟨p, rfl, ep⟩ := r2
          have e3' : v3 = .int _ := rd3
          subst e3'
          split at o3
          · rename_i xs hx
            split at o3
            · rename_i j hj
              obtain ⟨us, u1, u2⟩ := rh3.lst hx ep
              refine ⟨p, us, _, j, rfl, rfl, u1, by rw [ixN_idx, ← u2.len]; exact hj, ?_⟩
              have exs : Ext ρ3 H3 ρ3 (upd H3 p (.lst (us.set j v1))) := ext_set u1
              exact o3 ρ3 _ σ exs (rh3.set hx ep (u2.set j ((rd1.mono e2).mono e3))) ((((rs.mono e1).mono e2).mono e3).mono exs)
            · exact False.elim o3
          · exact False.elim o3
        · exact False.elim o3
      · cases h
    · cases h
  | .aug i o e, st, g, h => by
    unfold chkS at h
    split at h
    · rename_i x xp op v pos
      obtain ⟨h1, h⟩ := and2 h
      obtain ⟨h2, h⟩ := and2 h
      obtain ⟨h3, h4⟩ := and2 h
      have e1 := of_decide_eq_true h3
      subst e1
      have hl : Loc sc x := loc_ok h2
      have hf : X.fn x = true ∨ X.env.scope.names.lookup x = some .local := by
        rcases hl with z | z
        · exact .inr (by rw [g.hs]; exact z)
        · exact .inl (g.fnl _ z)
      refine PS.weak (ps_aug (by rw [g.hN]; exact g.nd) (by rw [g.hN]; exact of_decide_eq_true h1) (by rw [g.hs]; exact hl) (sndE e g h4) (ip_all2 o) hf) fun D σ H q => ?_
      obtain ⟨ρ, τ, h, rs, rh, o1⟩ := q
      simp only [exS] at o1
      split at o1
      · rename_i d hd
        obtain ⟨w, w1, w2⟩ := rs.get hd
        refine ⟨w, w1, ρ, τ, h, rs, rh, (OutS.stm o1 rs).imp fun d1 h1 ρ1 H1 e1 rh1 o2 v1 rd1 => ?_⟩
        have o3 := OutS.stm o2 (rs.mono e1)
        have w3 := w2.mono e1
        rw [g.hK] at rh1
        refine ip_ok o (XI := c.XI) (E := c.E σ) rh1 w3 rd1 ?_
        rw [g.hK] at o3
        exact o3.imp fun z h2 ρ2 H2 e2 rh2 o4 vz rz => o4 ρ2 H2 _ (Ext.refl _ _) (by rw [g.hK]; exact rh2) (((rs.mono e1).mono e2).set rz)
      · exact False.elim o1
    · cases h
  | .ex e, st, g, h => by
    unfold chkS at h
    split at h
    · obtain ⟨h1, h2⟩ := and2 h
      refine PS.weak (ps_expr (sndE e g h2) (swaps_no ((Bool.not_eq_true' _).mp h1))) fun D σ H q => ?_
      obtain ⟨ρ, τ, h, rs, rh, o1⟩ := q
      simp only [exS] at o1
      exact ⟨ρ, τ, h, rs, rh, (OutS.stm o1 rs).imp fun d1 h1 ρ1 H1 e1 rh1 o2 v1 rd1 => o2 ρ1 H1 σ (Ext.refl _ _) rh1 (rs.mono e1)⟩
    · cases h
  | .ret e, st, g, h => by
    unfold chkS at h
    split at h
    · refine PS.weak (ps_ret (sndE e g h)) fun D σ H q => ?_
      obtain ⟨ρ, τ, h, rs, rh, o1⟩ := q
      simp only [exS] at o1
      exact ⟨ρ, τ, h, rs, rh, (OutS.stm o1 rs).imp fun d1 h1 ρ1 H1 e1 rh1 o2 v1 rd1 => o2 ρ1 H1 v1 (Ext.refl _ _) rh1 rd1⟩
    · cases h
  | .retn, st, g, h => by
    unfold chkS at h
    split at h
    · refine PS.weak ps_retN fun D σ H q => ?_
      obtain ⟨ρ, τ, h, rs, rh, o1⟩ := q
      simp only [exS] at o1
      exact o1 ρ H _ (Ext.refl _ _) rh rfl
    · cases h
  | .iff t a b, st, g, h => by
    unfold chkS at h
    split at h
    · obtain ⟨h1, h⟩ := and2 h
      obtain ⟨h2, h3⟩ := and2 h
      refine PS.weak (ps_if (sndT t g h1) (sndSs a g h2) (sndSs b g h3)) fun D σ H q => ?_
      obtain ⟨ρ, τ, h, rs, rh, o1⟩ := q
      simp only [exS] at o1
      refine ⟨ρ, τ, h, rs, rh, (OutS.stm o1 rs).imp fun kk h1 ρ1 H1 e1 rh1 o2 => ?_⟩
      cases kk with
      | true => rw [if_pos rfl]; exact ⟨ρ1, τ, h1, rs.mono e1, rh1, o2⟩
      | false => rw [if_neg Bool.false_ne_true]; exact ⟨ρ1, τ, h1, rs.mono e1, rh1, o2⟩
    · cases h
  | .wh t b, st, g, h => by
    unfold chkS at h
    split at h
    · rename_i x y z pos
      obtain ⟨h0, h⟩ := and2 h
      obtain ⟨h1, h2⟩ := and2 h
      cases z with
      | cons s r => cases h0
      | nil =>
        refine PS.weak (ps_whileG g.own (sndT t g h1) (sndSs b g h2)) fun D σ H q => ?_
        obtain ⟨ρ, τ, h, rs, rh, o1⟩ := q
        simp only [exS] at o1
        exact ⟨ρ, τ, h, rs, rh, o1⟩
    · cases h
  | .fr ig it b, st, g, h => by
    unfold chkS at h
    split at h
    · rename_i tg iter y z pos
      obtain ⟨h0, h⟩ := and2 h
      obtain ⟨h1, h⟩ := and2 h
      obtain ⟨h2, h⟩ := and2 h
      obtain ⟨h3, h4⟩ := and2 h
      cases z with
      | cons s r => cases h0
      | nil =>
        refine PS.weak (ps_forG g.own g.calm (sndI it g h3) (by rw [g.hK]; exact pg_ok ig g h2) (sndSs b g h4) (noSet_for h1)) fun D σ H q => ?_
        obtain ⟨ρ, τ, h, rs, rh, o1⟩ := q
        simp only [exS] at o1
        exact ⟨ρ, τ, h, rs, rh, o1⟩
    · cases h
  | .br, st, g, h => by
    unfold chkS at h
    split at h
    · refine PS.weak ps_break fun D σ H q => ?_
      obtain ⟨ρ, τ, h, rs, rh, o1⟩ := q
      simp only [exS] at o1
      exact o1 ρ H σ (Ext.refl _ _) rh rs
    · cases h
  | .ct, st, g, h => by
    unfold chkS at h
    split at h
    · refine PS.weak ps_continue fun D σ H q => ?_
      obtain ⟨ρ, τ, h, rs, rh, o1⟩ := q
      simp only [exS] at o1
      exact o1 ρ H σ (Ext.refl _ _) rh rs
    · cases h
  | .ps, st, g, h => by
    unfold chkS at h
    split at h
    · refine PS.weak ps_pass fun D σ H q => ?_
      obtain ⟨ρ, τ, h, rs, rh, o1⟩ := q
      simp only [exS] at o1
      exact o1 ρ H σ (Ext.refl _ _) rh rs
    · cases h
  | .nev, st, g, h => PS.weak ps_never fun D σ H q => by
      obtain ⟨ρ, τ, h, rs, rh, o1⟩ := q
      simp only [exS] at o1
      exact o1
theorem sndSs : ∀ (is : ISs) {ss : List Stmt}, Gd T cc k N sc sc c X → chkSs T cc N sc is ss = true → PSs X ss (tSs c (exSs (den T k) is))
  | .nil, ss, g, h => by
    unfold chkSs at h
    cases ss with
    | cons s r => cases h
    | nil =>
      refine PSs.weak pss_nil fun D σ H q => ?_
      obtain ⟨ρ, τ, h, rs, rh, o1⟩ := q
      simp only [exSs] at o1
      exact o1 ρ H σ (Ext.refl _ _) rh rs
  | .cons s r, ss, g, h => by
    unfold chkSs at h
    cases ss with
    | nil => cases h
    | cons x xs =>
      obtain ⟨h1, h2⟩ := and2 h
      refine PSs.weak (pss_cons (sndS s g h1) (sndSs r g h2)) fun D σ H q => ?_
      obtain ⟨ρ, τ, h, rs, rh, o1⟩ := q
      simp only [exSs] at o1
      refine ⟨ρ, τ, h, rs, rh, ?_⟩
      cases q : exS (den T k) s τ h with
      | nx τ' h' =>
        rw [q] at o1
        exact fun ρ' H' σ' e rh' rs' => ⟨ρ', τ', h', rs', rh', o1.later e⟩
      | rt d h' => rw [q] at o1; exact o1
      | bk τ' h' => rw [q] at o1; exact o1
      | ct τ' h' => rw [q] at o1; exact o1
      | ex cl as τ' h' => rw [q] at o1; exact o1
      | bad => rw [q] at o1; exact o1
end
end

/-! ### functions -/
def scB (N ps : List Str) (sc : Scope) : Bool := (match sc.kind with
  | .function => true
  | _ => false) && (!sc.isCoroutine && (!sc.isGenerator && (decide N.Nodup && (decide (N.take ps.length = ps) && ((ps.all fun x => isLocal sc x || isCell sc x) && sc.names.all fun y => !decide (y.2 = .free))))))
theorem scB_ok {N ps : List Str} {sc : Scope} (h : scB N ps sc = true) : FnScope N ps sc := by
  obtain ⟨h1, h⟩ := and2 h
  obtain ⟨h2, h⟩ := and2 h
  obtain ⟨h3, h⟩ := and2 h
  obtain ⟨h4, h⟩ := and2 h
  obtain ⟨h5, h⟩ := and2 h
  obtain ⟨h6, h7⟩ := and2 h
  refine ⟨?_, (Bool.not_eq_true' _).mp h2, (Bool.not_eq_true' _).mp h3, of_decide_eq_true h4, of_decide_eq_true h5, fun x hx => ?_, fun y hy => ?_⟩
  · split at h1
    · assumption
    · cases h1
  · rcases Bool.or_eq_true_iff.mp (List.all_eq_true.mp h6 x hx) with z | z
    · exact .inl (local_ok z)
    · exact .inr (cell_ok z)
  · have := List.all_eq_true.mp h7 y hy
    simpa using this
/-- a def of the text: its function object, its names, its form -/
structure DefAt (T : Tab) (cc : Cc) (K : PySem.W.Frag) (mg : Str → Option Value) (f : Nat) (fn : Fn) : Prop where
  ex : ∃ (a : Addr) (oc : Value) (od : Option Addr) (name qual : Str) (params : Arguments) (body : List Stmt) (scope : Scope) (dV kV doc pm : Value) (an : Option Addr) (cdv ct : Value) (osl : Array (Option Value)) (N ps : List Str),
    mg (cc.nm f) = some (.ref a) ∧ PySem.W.keepIn K (.ref a) = true ∧ K.lookup a = some ⟨oc, od, .func (PySem.W.fnOf name qual params body scope dV kV doc pm an cdv ct), osl⟩ ∧ PySem.W.codeIn K cdv qual = true ∧
    ps.length = fn.np ∧ N.length = fn.ns ∧ scB N ps scope = true ∧ chkSs T cc N scope fn.body body = true ∧
    (∀ us : List Value, us.length = ps.length → bindArgs (PySem.W.fnOf name qual params body scope dV kV doc pm an cdv ct) ⟨us, []⟩ = pure (ps.zip us)) ∧
    (∀ n ks pl, cc.kw f n ks = some pl → KwOk (PySem.W.fnOf name qual params body scope dV kV doc pm an cdv ct) ps n ks pl)
theorem fnG_at {T : Tab} {cc : Cc} {P : Program} {w : World} {K : PySem.W.Frag} {XI : XInfo} {mg : Str → Option Value} {base : Heap} {k f : Nat} {fn : Fn} {a : Addr} {oc : Value} {od : Option Addr} {name qual : Str} {params : Arguments} {body : List Stmt} {scope : Scope} {dV kV doc pm : Value} {an : Option Addr} {cdv ct : Value} {osl : Array (Option Value)} {N ps : List Str}
    (st : ∀ j, k = j + 1 → Stat T cc j P w K XI mg base) (hf : T f = some fn) (h3 : K.lookup a = some ⟨oc, od, .func (PySem.W.fnOf name qual params body scope dV kV doc pm an cdv ct), osl⟩) (h4 : PySem.W.codeIn K cdv qual = true)
    (h5 : ps.length = fn.np) (h6 : N.length = fn.ns) (h7 : scB N ps scope = true) (h8 : chkSs T cc N scope fn.body body = true) :
    FnG P w K XI mg base k a (PySem.W.fnOf name qual params body scope dV kV doc pm an cdv ct) ps (den T k f) := by
  cases k with
  | zero => exact ⟨fun A outer s H args us vs ds ρ h Q E hr hg e0 hbd hl r rd rh o => False.elim o⟩
  | succ k =>
    have S := scB_ok h7
    refine fnG_of (N := N) (b := exSs (den T k) fn.body) h3 h4 S (fun A outer s H E hr hgd => ?_) (fun ds h => ?_)
    · exact sndSs fn.body ⟨st k rfl, rfl, rfl, S.nd, rfl, S.kind, rfl, fun _ _ => rfl, hr, hgd, fun σ => passAt (takes_of rfl rfl rfl rfl) σ, passes_of rfl⟩ h8
    · simp only [den, hf]
      unfold runFn
      rw [h5, h6]
      all_goals rfl
theorem stat_all {T : Tab} {cc : Cc} {P : Program} {w : World} {K : PySem.W.Frag} {XI : XInfo} {mg : Str → Option Value} {base : Heap} (hd : ∀ f fn, T f = some fn → DefAt T cc K mg f fn) (hb : ∀ x ∈ cc.bl, mg x = none)
    (hg : ∀ x d, cc.gl x = some d → ∃ u v, mg x = some u ∧ RelV v u ∧ ∀ ρ H, RelD ρ H d v) : ∀ k, Stat T cc k P w K XI mg base
  | 0 => ⟨fun f fn hf => by
      obtain ⟨a, oc, od, name, qual, params, body, scope, dV, kV, doc, pm, an, cdv, ct, osl, N, ps, h1, h2, h3, h4, h5, h6, h7, h8, h9, h10⟩ := (hd f fn hf).ex
      exact ⟨a, _, ps, h1, h2, h5, h9, h10, fnG_at (fun j e => Nat.noConfusion e) hf h3 h4 h5 h6 h7 h8⟩, hb, hg⟩
  | k + 1 => ⟨fun f fn hf => by
      have st := stat_all (P := P) (w := w) (XI := XI) (base := base) hd hb hg k
      obtain ⟨a, oc, od, name, qual, params, body, scope, dV, kV, doc, pm, an, cdv, ct, osl, N, ps, h1, h2, h3, h4, h5, h6, h7, h8, h9, h10⟩ := (hd f fn hf).ex
      exact ⟨a, _, ps, h1, h2, h5, h9, h10, fnG_at (fun j e => by cases e; exact st) hf h3 h4 h5 h6 h7 h8⟩, hb, hg⟩

/-! ### the law's end -/
theorem law_G {P : Program} {w : World} {K : PySem.W.Frag} {XI : XInfo} {mg mb : Str → Option Value} {k : Nat} {fa a : Addr} {fd : FuncData} {x : Str} {m : List D → Hv → R D} {s₁ : Shared} {vs : List Value} {ns : List Int}
    (KX : K.In s₁.heap) (hns : s₁.heap.Ns mainGlobals mg) (hb : s₁.heap.Ns builtinsNs mb) (hbb : ∀ y : Str, y ≠ "__name__" → mb y = bootBuiltins y) (hlim : s₁.heap.NoLimit) (hg : s₁.gens = #[])
    (ha : s₁.heap.get? a = some { cls := .type "list", data := .seq vs.toArray }) (hi : IntsAre vs ns) (hl : ns.length ≤ sizeLine) (hr : Room k callerA)
    (F : ∀ base : Heap, FnG P w K XI mg base k fa fd [x] m) (hbind : ∀ u : Value, bindArgs fd ⟨[u], []⟩ = pure [(x, u)])
    (hm : ∃ h', m [.ref 0] [.scr (ns.map D.int)] = .ok (.bl true) h') :
    codeAny (model P w) callerA (.call (.ref fa) ⟨[.ref a], []⟩) (fun r s' => r = .ok (.ret (.bool true)) ∧ OldK s₁.heap s'.heap ∧ s'.os = s₁.os ∧ AllBare s'.gens) s₁ := by
  obtain ⟨hv, hm⟩ := hm
  have rv := vals_ints hi
  have lv : vs.length = ns.length := hi.length
  have relI : ∀ (ρ : List Addr) (H : Hp) (l : List Int), RelDs ρ H (l.map D.int) (l.map V.int) := fun ρ H l => by
    induction l with
    | nil => rfl
    | cons n l ih => exact ⟨_, _, rfl, rfl, ih⟩
  -- whatever stands for the script: an abstract heap that holds it alone, or nothing
  have run : ∀ H : Hp, (∀ b, H b = none ∨ ∃ o xs, H b = some (.frz o (.lst xs))) → SqR K H a (ns.map V.int) → HOk P w H s₁.heap → (∀ b, H b ≠ none → b = a) → (H a ≠ none → K.lookup a = none) →
      codeAny (model P w) callerA (.call (.ref fa) ⟨[.ref a], []⟩) (fun r s' => r = .ok (.ret (.bool true)) ∧ OldK s₁.heap s'.heap ∧ s'.os = s₁.os ∧ AllBare s'.gens) s₁ := by
    intro H hO hS hok hA hK
    have tr : ∀ {b : Addr} {u : HO}, H b = some u → b = a := fun {b u} q => hA b (by rw [q]; exact Option.some_ne_none u)
    have dictN : ∀ {b : Addr} {o : Obj} {es : Array DictEntry} {ep : Nat}, s₁.heap.get? b = some o → o.data = .dict es ep → H b = none := by
      intro b o es ep e d
      cases q : H b with
      | none => rfl
      | some u =>
        have eb := tr q
        rw [eb, ha] at e
        cases e
        exact Data.noConfusion d
    have hN : ∀ {b : Addr} {m : Str → Option Value}, s₁.heap.Ns b m → (hidT s₁.heap H).Ns b m := by
      intro b m hh
      obtain ⟨o, es, ep, e, d, r⟩ := hh
      exact ⟨o, es, ep, hidT_get e (dictN e d), d, r⟩
    have kIn : K.In (hidT s₁.heap H) := by
      intro b o e
      refine hidT_get (KX b o e) ?_
      cases q : H b with
      | none => rfl
      | some u =>
        have eb := tr q
        rw [eb] at q e
        rw [hK (by rw [q]; exact Option.some_ne_none u)] at e
        cases e
    have lim2 : (hidT s₁.heap H).NoLimit := by
      obtain ⟨mc, l1, l2⟩ := hlim
      exact ⟨mc, hN l1, l2⟩
    have env : Env0 P w K mg (hidT s₁.heap H) callerA [] s₁ H :=
      { frames := rfl, mod := ⟨kIn, hN hns, ⟨mb, hN hb, hbb⟩, lim2⟩, bs := fun b o e => of_hidT e, bsz := Nat.le_of_eq (hidT_size _ _), funs := trivial, frf := fun b z => (List.not_mem_nil z).elim, hok := hok, bare := .of_eq hg }
    have rh : RelH K [a] [.scr (ns.map D.int)] H := by
      refine ⟨rfl, fun i o p hi hp => ?_, fun i j p xs ys hi hj _ _ => ?_⟩
      · cases i with
        | zero =>
          cases hi
          cases hp
          exact ⟨_, hS, relI _ _ _⟩
        | succ i => simp at hi
      · cases i with
        | zero => cases hi
        | succ i => simp at hi
    refine codeAny_mono ((F _).run callerA [] s₁ H ⟨[.ref a], []⟩ [.ref a] [.ref a] [.ref 0] [a] [.scr (ns.map D.int)] (fun v _ => v = .bl true) (fun _ _ _ => False) hr rfl env (.of_eq (hbind _)) rfl (.cons rfl .nil) (RelDs.one ⟨a, rfl, rfl⟩) rh (by
      rw [hm]
      exact fun ρ' H' _ _ v rv => rv)) fun r s' h => ?_
    cases r with
    | error e =>
      obtain ⟨_, _, _, _, _, _, _, _, _, _, _, _, z⟩ := h
      exact z.elim
    | ok fl =>
      cases fl with
      | next => exact False.elim h
      | brk => exact False.elim h
      | cont => exact False.elim h
      | ret u =>
        obtain ⟨v, H', os, bare, un, hok', r', q⟩ := h
        have ev : v = .bl true := q
        rw [ev] at r'
        have eu : u = Value.bool true := r'
        refine ⟨by rw [eu], OldK.of_keep fun b o e => ?_, os, bare⟩
        rcases hO b with z | ⟨ob, xs, z⟩
        · exact un.keep b o e z List.not_mem_nil List.not_mem_nil
        · have z2 := un.frzs b ob _ z
          obtain ⟨e1, _⟩ := hok b _ z
          obtain ⟨e2, _⟩ := hok' b _ z2
          rw [e] at e1
          cases e1
          exact e2
  cases hk : K.lookup a with
  | some o =>
    have e := KX a o hk
    rw [ha] at e
    cases e
    refine run (fun _ => none) (fun _ => .inl rfl) (.inr ⟨_, vs.toArray, _, hk, rfl, rfl, rfl, by simpa [lv] using hl, by simpa using rv⟩) (fun b u z => ?_) (fun b z => (z rfl).elim) fun z => (z rfl).elim
    have z' : (none : Option HO) = some u := z
    cases z'
  | none =>
    refine run (fun b => if b = a then some (.frz { cls := .type "list", data := .seq vs.toArray } (.lst (ns.map V.int))) else none) (fun b => ?_) (.inl ⟨{ cls := .type "list", data := .seq vs.toArray }, if_pos rfl⟩) (fun b u z => ?_) (fun b z => ?_) fun _ => hk
    · by_cases hb : b = a
      · exact .inr ⟨_, _, if_pos hb⟩
      · exact .inl (if_neg hb)
    · by_cases hb : b = a
      · subst hb
        have z' := (if_pos rfl).symm.trans z
        cases z'
        exact ⟨ha, by simpa using hl, vs, _, rv, ha⟩
      · have z' := (if_neg hb).symm.trans z
        cases z'
    · by_cases hb : b = a
      · exact hb
      · exact (z (if_neg hb)).elim
/-- a law by its evaluator -/
theorem walk_G {l : PySem.W.OpenLaw} {n k lw : Nat} {q : Program} {loose : List Str} {XP : (Str → Option Value) → Heap → Prop} {YP : World → Heap → Prop} {d : DefRec} {T : Tab} {cc : Cc} {fn : Fn} {XI : World → XInfo}
    (hn : l.most = some n) (hn2 : n ≤ sizeLine) (hdf : d.params.defaults = []) (hr : Room k callerA) (hT : T lw = some fn) (h1 : fn.np = 1) (hnm : cc.nm lw = d.name)
    (F : ∀ (w : World) (mg : Str → Option Value) (h : Heap), YP w h → h.Ns mainGlobals mg →
      ∃ K : PySem.W.Frag, K.In h ∧ (∀ f fn, T f = some fn → DefAt T cc K mg f fn) ∧ (∀ x ∈ cc.bl, mg x = none) ∧ ∀ x d, cc.gl x = some d → ∃ u v, mg x = some u ∧ RelV v u ∧ ∀ ρ H, RelD ρ H d v)
    (hm : ∀ ns : List Int, ns.length ≤ n → ∃ h', den T k lw [.ref 0] [.scr (ns.map D.int)] = .ok (.bl true) h') :
    PySem.W.WalkO q loose XP YP l.row.toRowW d [] (fun f vs => PySem.call f vs) := by
  refine Att.attach_call hn hdf fun w s₀ s₁ mg mb fa o pm cd doc a vs ns G Y ho hd hcd hmg hobj hints hlen hg => ?_
  obtain ⟨K, KX, hD, hb, hgl⟩ := F w mg _ Y G.T.g
  have st : ∀ base, Stat T cc k l.prog w K (XI w) mg base := fun base => stat_all hD hb hgl k
  obtain ⟨a0, oc, od, name, qual, params, body, scope, dV, kV, doc', pm', an, cdv, ct, osl, N, ps, g1, g2, g3, g4, g5, g6, g7, g8, g9, g10⟩ := (hD lw fn hT).ex
  have ea : a0 = fa := by
    rw [hnm, hmg] at g1
    cases g1
    rfl
  subst ea
  have ep : ∃ x, ps = [x] := by
    rw [h1] at g5
    match ps, g5 with
    | [x], _ => exact ⟨x, rfl⟩
  obtain ⟨x, rfl⟩ := ep
  refine law_G (fd := PySem.W.fnOf name qual params body scope dV kV doc' pm' an cdv ct) (x := x) (m := den T k lw) (XI := XI w) (K := K) (ns := ns) KX G.T.g G.T.b G.T.builtins G.T.nolimit hg hobj hints (Nat.le_trans hlen hn2) hr (fun base => ?_) (fun u => g9 [u] rfl) (hm ns hlen)
  exact fnG_at (fun j _ => stat_all hD hb hgl j) hT g3 g4 g5 g6 g7 g8
end G4

/-! G13: a law's text packed. -/
namespace G4
open PySem PySem.Spec PyProof.Rows L2

def KwAll (fd : FuncData) (ps : List Str) : List (Nat × List Str × List Nat) → Prop
  | [] => True
  | e :: r => KwOk fd ps e.1 e.2.1 e.2.2 ∧ KwAll fd ps r
theorem KwAll.get {fd : FuncData} {ps : List Str} : ∀ {l : List (Nat × List Str × List Nat)}, KwAll fd ps l → ∀ e ∈ l, KwOk fd ps e.1 e.2.1 e.2.2
  | [], _, e, h => by cases h
  | a :: r, ⟨h1, h2⟩, e, h => by
    cases h with
    | head => exact h1
    | tail _ h => exact KwAll.get h2 e h
def kwF (l : Nat → List (Nat × List Str × List Nat)) (f n : Nat) (ks : List Str) : Option (List Nat) := ((l f).find? fun e => decide (e.1 = n) && decide (e.2.1 = ks)).map (·.2.2)
def glF (l : List (Str × D)) (x : Str) : Option D := l.lookup x
/-- one def of the row's top -/
theorem defAt_of {T : Tab} {cc : Cc} {K : PySem.W.Frag} {mg : Str → Option Value} {f : Nat} {fn : Fn} {kl : Nat → List (Nat × List Str × List Nat)} {x qual : Str} {params : Arguments} {body : List Stmt} {scope : Scope} {a : Addr} {fd : FuncData} (N ps : List Str)
    (F : FunD K x qual params body scope [] [] a fd) (gl : mg (cc.nm f) = some (.ref a)) (hc : cc.kw = kwF kl) (h5 : ps.length = fn.np) (h6 : N.length = fn.ns) (h7 : scB N ps scope = true) (h8 : chkSs T cc N scope fn.body body = true)
    (hb : ∀ (kV doc pm : Value) (an : Option Addr) (cdv ct : Value) (us : List Value), us.length = ps.length → bindArgs (PySem.W.fnOf x qual params body scope .none kV doc pm an cdv ct) ⟨us, []⟩ = pure (ps.zip us))
    (hk : ∀ (kV doc pm : Value) (an : Option Addr) (cdv ct : Value), KwAll (PySem.W.fnOf x qual params body scope .none kV doc pm an cdv ct) ps (kl f)) : DefAt T cc K mg f fn := by
  obtain ⟨oc, od, dV, kV, doc, pm, an, cdv, ct, osl, rfl, lk, hcd, hD, hK⟩ := F.ex
  rcases hD with ⟨_, rfl⟩ | ⟨e, _⟩
  · refine ⟨⟨a, oc, od, x, qual, params, body, scope, .none, kV, doc, pm, an, cdv, ct, osl, N, ps, gl, F.kp, lk, hcd, h5, h6, h7, h8, hb kV doc pm an cdv ct, fun n ks pl e => ?_⟩⟩
    rw [hc] at e
    unfold kwF at e
    cases q : (kl f).find? fun e => decide (e.1 = n) && decide (e.2.1 = ks) with
    | none => rw [q] at e; cases e
    | some z =>
      rw [q] at e
      cases e
      have m := List.mem_of_find?_eq_some q
      have t := List.find?_some q
      obtain ⟨t1, t2⟩ := and2 t
      have t3 := of_decide_eq_true t1
      have t4 := of_decide_eq_true t2
      subst t3
      subst t4
      exact KwAll.get (hk kV doc pm an cdv ct) z m
  · exact absurd rfl e
/-- constants -/
def faG : List (Str × D) → List He.Fa
  | [] => []
  | (x, .int i) :: r => .int x i :: faG r
  | (x, .str z) :: r => .str x z :: faG r
  | _ :: r => faG r
def okG : List (Str × D) → Bool
  | [] => true
  | (_, .int _) :: r => okG r
  | (_, .str _) :: r => okG r
  | _ :: _ => false
theorem gl_of {K : PySem.W.Frag} {h : Heap} {mg : Str → Option Value} (X : K.In h) (G : h.Ns mainGlobals mg) : ∀ {l : List (Str × D)}, okG l = true → (∀ f ∈ faG l, f.ok K = true) →
    ∀ x d, glF l x = some d → ∃ u v, mg x = some u ∧ RelV v u ∧ ∀ ρ H, RelD ρ H d v
  | [], _, _, x, d, e => by cases e
  | (y, .int i) :: r, h1, h2, x, d, e => by
    unfold glF at e
    rw [List.lookup_cons] at e
    split at e
    · rename_i q
      have := eq_of_beq q
      subst this
      cases e
      obtain ⟨t, e1⟩ := He.int_ok X G (h2 _ (List.mem_cons_self ..))
      exact ⟨_, .int i, e1, ⟨t, rfl⟩, fun ρ H => rfl⟩
    · exact gl_of X G (l := r) h1 (fun f hf => h2 f (List.mem_cons_of_mem _ hf)) x d e
  | (y, .str z) :: r, h1, h2, x, d, e => by
    unfold glF at e
    rw [List.lookup_cons] at e
    split at e
    · rename_i q
      have := eq_of_beq q
      subst this
      cases e
      obtain ⟨t, e1⟩ := He.str_ok X G (h2 _ (List.mem_cons_self ..))
      exact ⟨_, .str z, e1, ⟨t, rfl⟩, fun ρ H => rfl⟩
    · exact gl_of X G (l := r) h1 (fun f hf => h2 f (List.mem_cons_of_mem _ hf)) x d e
  | (y, .non) :: r, h1, _, _, _, _ => by cases h1
  | (y, .bl _) :: r, h1, _, _, _, _ => by cases h1
  | (y, .tup _) :: r, h1, _, _, _, _ => by cases h1
  | (y, .ref _) :: r, h1, _, _, _, _ => by cases h1
/-! ### tables -/
def tabF (l : List (Nat × Fn)) : Tab := fun f => l.lookup f
def nmF (l : List (Nat × Str)) (f : Nat) : Str := (l.lookup f).getD "?"
def kwL (l : List (Nat × List (Nat × List Str × List Nat))) (f : Nat) : List (Nat × List Str × List Nat) := (l.lookup f).getD []
def DefAll (T : Tab) (cc : Cc) (K : PySem.W.Frag) (mg : Str → Option Value) : List (Nat × Fn) → Prop
  | [] => True
  | e :: r => DefAt T cc K mg e.1 e.2 ∧ DefAll T cc K mg r
theorem DefAll.get {T : Tab} {cc : Cc} {K : PySem.W.Frag} {mg : Str → Option Value} : ∀ {l : List (Nat × Fn)}, DefAll T cc K mg l → ∀ f fn, tabF l f = some fn → DefAt T cc K mg f fn
  | [], _, f, fn, h => by cases h
  | (g, fg) :: r, ⟨h1, h2⟩, f, fn, h => by
    unfold tabF at h
    rw [List.lookup_cons] at h
    split at h
    · rename_i q
      have := eq_of_beq q
      subst this
      cases h
      exact h1
    · exact DefAll.get h2 f fn h
end G4

namespace G4
open PySem
def f_digits_value : Fn := ⟨1, 2, ((.cons (.iff (.bo false (.cons (.cm .eq (.var 0) (.con (.str ""))) (.cons (.cm .gt (.cb .len (.cons (.var 0) .nil)) (.glo "MOST_DIGITS" (.int 30))) (.cons (.nt (.v (.cb .all (.cons (.lc [("sign", 1)] (.nm 1) (.seq (.var 0)) .no .yes (.cm .inn (.var 1) (.con (.str "0123456789")))) .nil)))) .nil)))) ((.cons (.ret (.con .non)) 
    .nil)) .nil) 
  (.cons (.ret (.ie (.bo false (.cons (.cm .ne (.ix (.var 0) (.con (.int 0))) (.con (.str "0"))) (.cons (.cm .eq (.var 0) (.con (.str "0"))) .nil))) (.cb .int (.cons (.var 0) .nil)) (.con .non))) 
  .nil)))⟩
def f_signed_value : Fn := ⟨1, 2, ((.cons (.iff (.cm .ne (.sl (.var 0) .no (.so (.con (.int 1)))) (.con (.str "-"))) ((.cons (.ret (.cf 418 (.cons (.var 0) .nil))) 
    .nil)) .nil) 
  (.cons (.asg (.nm 1) (.cf 418 (.cons (.sl (.var 0) (.so (.con (.int 1))) .no) .nil))) 
  (.cons (.ret (.ie (.bo false (.cons (.cmN false (.var 1)) (.cons (.cm .eq (.var 1) (.con (.int 0))) .nil))) (.con .non) (.b2 .sub (.con (.int 0)) (.var 1)))) 
  .nil))))⟩
def f_band_value : Fn := ⟨1, 4, ((.cons (.asg (.nm 1) (.spl (.var 0) (.con (.str "..")))) 
  (.cons (.iff (.cm .ne (.cb .len (.cons (.var 1) .nil)) (.con (.int 2))) ((.cons (.ret (.con .non)) 
    .nil)) .nil) 
  (.cons (.asg (.tp [.nm 2, .nm 3]) (.tp (.cons (.cf 418 (.cons (.ix (.var 1) (.con (.int 0))) .nil)) (.cons (.cf 418 (.cons (.ix (.var 1) (.con (.int 1))) .nil)) .nil)))) 
  (.cons (.ret (.ie (.bo false (.cons (.cmN false (.var 2)) (.cons (.cmN false (.var 3)) (.cons (.cm .gt (.var 2) (.var 3)) .nil)))) (.con .non) (.tp (.cons (.var 2) (.cons (.var 3) .nil))))) 
  .nil)))))⟩
def f_stage_value : Fn := ⟨1, 6, ((.cons (.asg (.tp [.nm 1, .nm 2]) (.tp (.cons (.sl (.var 0) .no (.so (.con (.int 1)))) (.cons (.sl (.var 0) (.so (.con (.int 1))) .no) .nil)))) 
  (.cons (.iff (.cm .eq (.var 1) (.con (.str "m"))) ((.cons (.asg (.nm 3) (.cf 418 (.cons (.var 2) .nil))) 
    (.cons (.ret (.ie (.cmN false (.var 3)) (.con .non) (.tp (.cons (.con (.str "mix")) (.cons (.var 3) .nil))))) 
    .nil))) .nil) 
  (.cons (.iff (.cm .eq (.var 1) (.con (.str "d"))) ((.cons (.asg (.nm 4) (.cf 419 (.cons (.var 2) .nil))) 
    (.cons (.ret (.ie (.cmN false (.var 4)) (.con .non) (.tp (.cons (.con (.str "dial")) (.cons (.var 4) .nil))))) 
    .nil))) .nil) 
  (.cons (.asg (.nm 5) (.ie (.cm .eq (.var 1) (.con (.str "p"))) (.cf 420 (.cons (.var 2) .nil)) (.con .non))) 
  (.cons (.ret (.ie (.cmN false (.var 5)) (.con .non) (.tp (.cons (.con (.str "pass")) (.cons (.ix (.var 5) (.con (.int 0))) (.cons (.ix (.var 5) (.con (.int 1))) .nil)))))) 
  .nil))))))⟩
def f_look_value : Fn := ⟨1, 4, ((.cons (.asg (.nm 1) (.spl (.var 0) (.con (.str "=")))) 
  (.cons (.asg (.nm 2) (.cf 419 (.cons (.ix (.var 1) (.con (.int 0))) .nil))) 
  (.cons (.iff (.bo false (.cons (.cm .ne (.cb .len (.cons (.var 1) .nil)) (.con (.int 2))) (.cons (.cmN false (.var 2)) .nil))) ((.cons (.ret (.con .non)) 
    .nil)) .nil) 
  (.cons (.iff (.cm .eq (.ix (.var 1) (.con (.int 1))) (.con (.str "-"))) ((.cons (.ret (.tp (.cons (.var 2) (.cons (.con .non) (.cons (.con .non) .nil))))) 
    .nil)) .nil) 
  (.cons (.asg (.nm 3) (.cf 420 (.cons (.ix (.var 1) (.con (.int 1))) .nil))) 
  (.cons (.ret (.ie (.cmN false (.var 3)) (.con .non) (.tp (.cons (.var 2) (.cons (.ix (.var 3) (.con (.int 0))) (.cons (.ix (.var 3) (.con (.int 1))) .nil)))))) 
  .nil)))))))⟩
def f_stage_word : Fn := ⟨1, 1, ((.cons (.iff (.cm .eq (.ix (.var 0) (.con (.int 0))) (.con (.str "pass"))) ((.cons (.ret (.b2 .add (.b2 .add (.b2 .add (.con (.str "p")) (.cb .str (.cons (.ix (.var 0) (.con (.int 1))) .nil))) (.con (.str ".."))) (.cb .str (.cons (.ix (.var 0) (.con (.int 2))) .nil)))) 
    .nil)) .nil) 
  (.cons (.ret (.b2 .add (.ix (.ix (.var 0) (.con (.int 0))) (.con (.int 0))) (.cb .str (.cons (.ix (.var 0) (.con (.int 1))) .nil)))) 
  .nil)))⟩
def f_look_word : Fn := ⟨1, 4, ((.cons (.asg (.tp [.nm 1, .nm 2, .nm 3]) (.var 0)) 
  (.cons (.ret (.b2 .add (.b2 .add (.cb .str (.cons (.var 1) .nil)) (.con (.str "="))) (.ie (.cmN false (.var 2)) (.con (.str "-")) (.b2 .add (.b2 .add (.cb .str (.cons (.var 2) .nil)) (.con (.str ".."))) (.cb .str (.cons (.var 3) .nil)))))) 
  .nil)))⟩
def f_words_of : Fn := ⟨1, 1, ((.cons (.iff (.nt (.v (.isi (.var 0) .str))) ((.cons .nev 
    .nil)) .nil) 
  (.cons (.ret (.spl (.var 0) (.con (.str " ")))) 
  .nil)))⟩
def f_format_receiver : Fn := ⟨1, 3, ((.cons (.asg (.nm 1) (.lc [("stage", 2)] (.nm 2) (.seq (.ix (.var 0) (.con (.int 0)))) .no .yes (.cf 423 (.cons (.var 2) .nil)))) 
  (.cons (.iff (.cmN true (.ix (.var 0) (.con (.int 1)))) ((.cons (.ex (.mt .append (.var 1) (.cons (.b2 .add (.con (.str "/")) (.cb .str (.cons (.ix (.var 0) (.con (.int 1))) .nil))) .nil))) 
    .nil)) .nil) 
  (.cons (.ret (.joi (.con (.str " ")) (.var 1))) 
  .nil))))⟩
def f_format_looks : Fn := ⟨1, 2, ((.cons (.ret (.joi (.con (.str " ")) (.lc [("look", 1)] (.nm 1) (.seq (.var 0)) .no .yes (.cf 424 (.cons (.var 1) .nil))))) 
  .nil))⟩
def f_parse_receiver : Fn := ⟨1, 7, ((.cons (.asg (.tp [.nm 1, .nm 2]) (.tp (.cons (.ls .nil) (.cons (.con .non) .nil)))) 
  (.cons (.fr (.tp [.nm 3, .nm 4]) (.enm (.cf 425 (.cons (.var 0) .nil))) ((.cons (.iff (.cmN true (.var 2)) ((.cons .nev 
      .nil)) .nil) 
    (.cons (.iff (.bo true (.cons (.cm .eq (.sl (.var 4) .no (.so (.con (.int 1)))) (.con (.str "/"))) (.cons (.cm .ne (.var 1) (.ls .nil)) .nil))) ((.cons (.asg (.nm 2) (.cf 418 (.cons (.sl (.var 4) (.so (.con (.int 1))) .no) .nil))) 
      (.cons (.iff (.bo false (.cons (.cmN false (.var 2)) (.cons (.cm .lt (.var 2) (.con (.int 2))) .nil))) ((.cons .nev 
        .nil)) .nil) 
      (.cons .ct 
      .nil)))) .nil) 
    (.cons (.asg (.nm 5) (.cf 421 (.cons (.var 4) .nil))) 
    (.cons (.iff (.bo false (.cons (.cmN false (.var 5)) (.cons (.cm .eq (.cb .len (.cons (.var 1) .nil)) (.glo "MOST_STAGES" (.int 8))) .nil))) ((.cons .nev 
      .nil)) .nil) 
    (.cons (.iff (.bo true (.cons (.cm .eq (.ix (.var 5) (.con (.int 0))) (.con (.str "dial"))) (.cons (.cm .inn (.con (.str "dial")) (.lc [("other", 6)] (.nm 6) (.seq (.var 1)) .no .yes (.ix (.var 6) (.con (.int 0))))) .nil))) ((.cons .nev 
      .nil)) .nil) 
    (.cons (.ex (.mt .append (.var 1) (.cons (.var 5) .nil))) 
    .nil)))))))) 
  (.cons (.ret (.tp (.cons (.var 1) (.cons (.var 2) .nil)))) 
  .nil))))⟩
def f_parse_looks : Fn := ⟨1, 5, ((.cons (.asg (.nm 1) (.ls .nil)) 
  (.cons (.fr (.tp [.nm 2, .nm 3]) (.enm (.cf 425 (.cons (.var 0) .nil))) ((.cons (.asg (.nm 4) (.cf 422 (.cons (.var 3) .nil))) 
    (.cons (.iff (.bo false (.cons (.cmN false (.var 4)) (.cons (.cm .eq (.cb .len (.cons (.var 1) .nil)) (.glo "MOST_LOOKS" (.int 6))) .nil))) ((.cons .nev 
      .nil)) .nil) 
    (.cons (.ex (.mt .append (.var 1) (.cons (.var 4) .nil))) 
    .nil))))) 
  (.cons (.ret (.var 1)) 
  .nil))))⟩
def f_law_radios : Fn := ⟨0, 2, ((.cons (.asg (.nm 0) (.ls (.cons (.tp (.cons (.tp (.cons (.ls (.cons (.tp (.cons (.con (.str "mix")) (.cons (.con (.int 0)) .nil))) .nil)) (.cons (.con .non) .nil))) (.cons (.con (.str "m0")) .nil))) (.cons (.tp (.cons (.tp (.cons (.ls (.cons (.tp (.cons (.con (.str "dial")) (.cons (.con (.int 0)) .nil))) .nil)) (.cons (.con (.int 2)) .nil))) (.cons (.con (.str "d0 /2")) .nil))) (.cons (.tp (.cons (.tp (.cons (.ls (.cons (.tp (.cons (.con (.str "pass")) (.cons (.con (.int 0)) (.cons (.con (.int 0)) .nil)))) .nil)) (.cons (.con .non) .nil))) (.cons (.con (.str "p0..0")) .nil))) .nil))))) 
  (.cons (.ex (.mt .append (.var 0) (.cons (.tp (.cons (.tp (.cons (.ls (.cons (.tp (.cons (.con (.str "mix")) (.cons (.con (.int 5)) .nil))) (.cons (.tp (.cons (.con (.str "dial")) (.cons (.neg (.con (.int 3))) .nil))) (.cons (.tp (.cons (.con (.str "pass")) (.cons (.con (.int 2)) (.cons (.con (.int 9)) .nil)))) .nil)))) (.cons (.con (.int 4)) .nil))) (.cons (.con (.str "m5 d-3 p2..9 /4")) .nil))) .nil))) 
  (.cons (.asg (.nm 1) (.ls (.cons (.tp (.cons (.con (.str "dial")) (.cons (.neg (.con (.int 1))) .nil))) (.cons (.tp (.cons (.con (.str "mix")) (.cons (.b2 .pow (.con (.int 10)) (.con (.int 29))) .nil))) (.cons (.tp (.cons (.con (.str "mix")) (.cons (.con (.int 7)) .nil))) (.cons (.tp (.cons (.con (.str "mix")) (.cons (.con (.int 7)) .nil))) .nil)))))) 
  (.cons (.ex (.mt .append (.var 0) (.cons (.tp (.cons (.tp (.cons (.var 1) (.cons (.con (.int 10)) .nil))) (.cons (.b2 .add (.b2 .add (.con (.str "d-1 m1")) (.b2 .mul (.con (.str "0")) (.con (.int 29)))) (.con (.str " m7 m7 /10"))) .nil))) .nil))) 
  (.cons (.ex (.mt .append (.var 0) (.cons (.tp (.cons (.tp (.cons (.ls (.cons (.tp (.cons (.con (.str "pass")) (.cons (.con (.int 10)) (.cons (.con (.int 200)) .nil)))) (.cons (.tp (.cons (.con (.str "pass")) (.cons (.con (.int 9)) (.cons (.con (.int 9)) .nil)))) .nil))) (.cons (.con (.int 999)) .nil))) (.cons (.con (.str "p10..200 p9..9 /999")) .nil))) .nil))) 
  (.cons (.ex (.mt .append (.var 0) (.cons (.tp (.cons (.tp (.cons (.b2 .add (.b2 .mul (.ls (.cons (.tp (.cons (.con (.str "mix")) (.cons (.con (.int 1)) .nil))) .nil)) (.con (.int 7))) (.ls (.cons (.tp (.cons (.con (.str "dial")) (.cons (.con (.int 12)) .nil))) .nil))) (.cons (.con .non) .nil))) (.cons (.con (.str "m1 m1 m1 m1 m1 m1 m1 d12")) .nil))) .nil))) 
  (.cons (.ex (.mt .append (.var 0) (.cons (.tp (.cons (.tp (.cons (.b2 .mul (.ls (.cons (.tp (.cons (.con (.str "mix")) (.cons (.con (.int 1)) .nil))) .nil)) (.con (.int 8))) (.cons (.con (.int 4)) .nil))) (.cons (.con (.str "m1 m1 m1 m1 m1 m1 m1 m1 /4")) .nil))) .nil))) 
  (.cons (.ret (.var 0)) 
  .nil)))))))))⟩
def f_law_all_looks : Fn := ⟨0, 1, ((.cons (.asg (.nm 0) (.ls (.cons (.tp (.cons (.ls (.cons (.tp (.cons (.con (.int 10)) (.cons (.con (.int 3)) (.cons (.con (.int 6)) .nil)))) (.cons (.tp (.cons (.neg (.con (.int 4))) (.cons (.con .non) (.cons (.con .non) .nil)))) .nil))) (.cons (.con (.str "10=3..6 -4=-")) .nil))) (.cons (.tp (.cons (.ls (.cons (.tp (.cons (.con (.int 0)) (.cons (.con (.int 0)) (.cons (.con (.int 0)) .nil)))) .nil)) (.cons (.con (.str "0=0..0")) .nil))) (.cons (.tp (.cons (.ls (.cons (.tp (.cons (.con (.int 0)) (.cons (.con .non) (.cons (.con .non) .nil)))) .nil)) (.cons (.con (.str "0=-")) .nil))) .nil))))) 
  (.cons (.ex (.mt .append (.var 0) (.cons (.tp (.cons (.ls (.cons (.tp (.cons (.neg (.con (.int 1))) (.cons (.con (.int 1)) (.cons (.b2 .pow (.con (.int 10)) (.con (.int 29))) .nil)))) .nil)) (.cons (.b2 .add (.con (.str "-1=1..1")) (.b2 .mul (.con (.str "0")) (.con (.int 29)))) .nil))) .nil))) 
  (.cons (.ex (.mt .append (.var 0) (.cons (.tp (.cons (.b2 .mul (.ls (.cons (.tp (.cons (.con (.int 5)) (.cons (.con .non) (.cons (.con .non) .nil)))) .nil)) (.con (.int 6))) (.cons (.con (.str "5=- 5=- 5=- 5=- 5=- 5=-")) .nil))) .nil))) 
  (.cons (.ret (.var 0)) 
  .nil)))))⟩
def f_law_50 : Fn := ⟨1, 4, ((.cons (.fr (.tp [.nm 1, .nm 2]) (.seq (.cf 445 .nil)) ((.cons (.iff (.bo false (.cons (.cm .ne (.cb .repr (.cons (.cf 426 (.cons (.var 1) .nil)) .nil)) (.cb .repr (.cons (.var 2) .nil))) (.cons (.cm .ne (.cb .repr (.cons (.cf 428 (.cons (.var 2) .nil)) .nil)) (.cb .repr (.cons (.var 1) .nil))) .nil))) ((.cons (.ret (.con (.bl false))) 
      .nil)) .nil) 
    (.cons (.iff (.bo false (.cons (.cm .ne (.ck 426 .nil (.cons (.var 1) .nil) [0]) (.var 2)) (.cons (.cm .ne (.ck 428 .nil (.cons (.var 2) .nil) [0]) (.var 1)) .nil))) ((.cons (.ret (.con (.bl false))) 
      .nil)) .nil) 
    .nil)))) 
  (.cons (.fr (.tp [.nm 3, .nm 2]) (.seq (.cf 446 .nil)) ((.cons (.iff (.bo false (.cons (.cm .ne (.cb .repr (.cons (.cf 427 (.cons (.var 3) .nil)) .nil)) (.cb .repr (.cons (.var 2) .nil))) (.cons (.cm .ne (.cb .repr (.cons (.cf 429 (.cons (.var 2) .nil)) .nil)) (.cb .repr (.cons (.var 3) .nil))) .nil))) ((.cons (.ret (.con (.bl false))) 
      .nil)) .nil) 
    (.cons (.iff (.bo false (.cons (.cm .ne (.ck 427 .nil (.cons (.var 3) .nil) [0]) (.var 2)) (.cons (.cm .ne (.ck 429 .nil (.cons (.var 2) .nil) [0]) (.var 3)) .nil))) ((.cons (.ret (.con (.bl false))) 
      .nil)) .nil) 
    .nil)))) 
  (.cons (.ret (.con (.bl true))) 
  .nil))))⟩
end G4
namespace Tx
open PySem PySem.Spec PyProof.Rows L2 G4
def tab : List (Nat × Fn) := [(418, f_digits_value), (419, f_signed_value), (420, f_band_value), (421, f_stage_value), (422, f_look_value), (423, f_stage_word), (424, f_look_word), (425, f_words_of), (426, f_format_receiver), (427, f_format_looks), (428, f_parse_receiver), (429, f_parse_looks), (445, f_law_radios), (446, f_law_all_looks), (447, f_law_50)]
def T : Tab := tabF tab
def nml : List (Nat × Str) := [(418, "digits_value"), (419, "signed_value"), (420, "band_value"), (421, "stage_value"), (422, "look_value"), (423, "stage_word"), (424, "look_word"), (425, "words_of"), (426, "format_receiver"), (427, "format_looks"), (428, "parse_receiver"), (429, "parse_looks"), (445, "_law_radios"), (446, "_law_all_looks"), (447, "law")]
def bll : List Str := ["len", "isinstance", "int", "enumerate", "repr", "all", "str"]
def gll : List (Str × D) := [("MOST_STAGES", .int 8), ("MOST_LOOKS", .int 6), ("MOST_DIGITS", .int 30)]
def kwl : List (Nat × List (Nat × List Str × List Nat)) := [(428, [(0, ["text"], [0])]), (426, [(0, ["receiver"], [0])]), (429, [(0, ["text"], [0])]), (427, [(0, ["looks"], [0])])]
def cc : Cc := ⟨nmF nml, bll, glF gll, kwF (kwL kwl)⟩
def top (i : Nat) : Stmt := PySem.Challenge.pw_imagetones_k49_written_texts.main.body.getD i (.Pass ⟨0, 0, 0, 0⟩)
abbrev dd (x : Str) (i : Nat) : He.DefD := ⟨(x, none), x, x, defArgs (top i), defBody (top i), defScope (top i), [], []⟩
def dl : List He.DefD := [dd "digits_value" 7, dd "signed_value" 8, dd "band_value" 9, dd "stage_value" 10, dd "look_value" 11, dd "stage_word" 12, dd "look_word" 13, dd "words_of" 14, dd "format_receiver" 15, dd "format_looks" 16, dd "parse_receiver" 17, dd "parse_looks" 18, dd "_law_radios" 20, dd "_law_all_looks" 21, dd "law" 22]
def fa : List He.Fa := [.glo "digits_value", .glo "signed_value", .glo "band_value", .glo "stage_value", .glo "look_value", .glo "stage_word", .glo "look_word", .glo "words_of", .glo "format_receiver", .glo "format_looks", .glo "parse_receiver", .glo "parse_looks", .glo "_law_radios", .glo "_law_all_looks", .glo "law"] ++ (bll.map He.Fa.free ++ faG gll)
def loose0 : List Str := [("digits_value" : Str), ("signed_value" : Str), ("band_value" : Str), ("stage_value" : Str), ("look_value" : Str), ("stage_word" : Str), ("look_word" : Str), ("words_of" : Str), ("format_receiver" : Str), ("format_looks" : Str), ("parse_receiver" : Str), ("parse_looks" : Str), ("_law_radios" : Str), ("_law_all_looks" : Str), ("ToneError" : Str), ("InvalidSyntax" : Str), ("MOST_STAGES" : Str), ("MOST_LOOKS" : Str), ("MOST_DIGITS" : Str)]
abbrev loose : List Str := loose0
abbrev R : PySem.W.OpenRow := PySem.W.OpenLaw.row PySem.Challenge.rw_imagetones_k49_written_texts
abbrev hk : PySem.W.Hook := He.hookD 5 fa dl
def ob (s : PySem.W.SharedT) : He.AlD := He.obsDG 5 fa dl (HandSHeadRun.getT s)
theorem ob_eq (s : PySem.W.SharedT) : ob s = hk.obs s.abs := He.obsDG_eq (HandSHeadRun.getT_eq s)
theorem run (w : World) : HandSHeadRun.RunEq R (PySem.W.view R.prog [22]) hk ob 5000 loose w := by
  intro os
  kernel_rfl
def N_digits_value : List Str := ["word", "sign"]
def P_digits_value : List Str := ["word"]
theorem sc_digits_value : scB N_digits_value P_digits_value (defScope (top 7)) = true := by decide +kernel
theorem ck_digits_value : chkSs T cc N_digits_value (defScope (top 7)) f_digits_value.body (defBody (top 7)) = true := by decide +kernel
theorem da_digits_value {K : PySem.W.Frag} {h : Heap} {mg : Str → Option Value} (X : K.In h) (G : h.Ns mainGlobals mg) (c : He.SaysD fa dl K) : DefAt T cc K mg 418 f_digits_value := by
  obtain ⟨fd, F⟩ := c.def_ 0 (d := dd "digits_value" 7) rfl
  exact defAt_of (kl := kwL kwl) N_digits_value P_digits_value F (He.glo_ok X G (c.fact 0 (f := .glo "digits_value") rfl)) rfl rfl rfl sc_digits_value ck_digits_value (fun _ _ _ _ _ _ us hl => match us, hl with | [_], _ => rfl) (fun _ _ _ _ _ _ => trivial)
def N_signed_value : List Str := ["word", "found"]
def P_signed_value : List Str := ["word"]
theorem sc_signed_value : scB N_signed_value P_signed_value (defScope (top 8)) = true := by decide +kernel
theorem ck_signed_value : chkSs T cc N_signed_value (defScope (top 8)) f_signed_value.body (defBody (top 8)) = true := by decide +kernel
theorem da_signed_value {K : PySem.W.Frag} {h : Heap} {mg : Str → Option Value} (X : K.In h) (G : h.Ns mainGlobals mg) (c : He.SaysD fa dl K) : DefAt T cc K mg 419 f_signed_value := by
  obtain ⟨fd, F⟩ := c.def_ 1 (d := dd "signed_value" 8) rfl
  exact defAt_of (kl := kwL kwl) N_signed_value P_signed_value F (He.glo_ok X G (c.fact 1 (f := .glo "signed_value") rfl)) rfl rfl rfl sc_signed_value ck_signed_value (fun _ _ _ _ _ _ us hl => match us, hl with | [_], _ => rfl) (fun _ _ _ _ _ _ => trivial)
def N_band_value : List Str := ["word", "parts", "least", "greatest"]
def P_band_value : List Str := ["word"]
theorem sc_band_value : scB N_band_value P_band_value (defScope (top 9)) = true := by decide +kernel
theorem ck_band_value : chkSs T cc N_band_value (defScope (top 9)) f_band_value.body (defBody (top 9)) = true := by decide +kernel
theorem da_band_value {K : PySem.W.Frag} {h : Heap} {mg : Str → Option Value} (X : K.In h) (G : h.Ns mainGlobals mg) (c : He.SaysD fa dl K) : DefAt T cc K mg 420 f_band_value := by
  obtain ⟨fd, F⟩ := c.def_ 2 (d := dd "band_value" 9) rfl
  exact defAt_of (kl := kwL kwl) N_band_value P_band_value F (He.glo_ok X G (c.fact 2 (f := .glo "band_value") rfl)) rfl rfl rfl sc_band_value ck_band_value (fun _ _ _ _ _ _ us hl => match us, hl with | [_], _ => rfl) (fun _ _ _ _ _ _ => trivial)
def N_stage_value : List Str := ["word", "sign", "rest", "low", "add", "band"]
def P_stage_value : List Str := ["word"]
theorem sc_stage_value : scB N_stage_value P_stage_value (defScope (top 10)) = true := by decide +kernel
theorem ck_stage_value : chkSs T cc N_stage_value (defScope (top 10)) f_stage_value.body (defBody (top 10)) = true := by decide +kernel
theorem da_stage_value {K : PySem.W.Frag} {h : Heap} {mg : Str → Option Value} (X : K.In h) (G : h.Ns mainGlobals mg) (c : He.SaysD fa dl K) : DefAt T cc K mg 421 f_stage_value := by
  obtain ⟨fd, F⟩ := c.def_ 3 (d := dd "stage_value" 10) rfl
  exact defAt_of (kl := kwL kwl) N_stage_value P_stage_value F (He.glo_ok X G (c.fact 3 (f := .glo "stage_value") rfl)) rfl rfl rfl sc_stage_value ck_stage_value (fun _ _ _ _ _ _ us hl => match us, hl with | [_], _ => rfl) (fun _ _ _ _ _ _ => trivial)
def N_look_value : List Str := ["word", "parts", "dial", "band"]
def P_look_value : List Str := ["word"]
theorem sc_look_value : scB N_look_value P_look_value (defScope (top 11)) = true := by decide +kernel
theorem ck_look_value : chkSs T cc N_look_value (defScope (top 11)) f_look_value.body (defBody (top 11)) = true := by decide +kernel
theorem da_look_value {K : PySem.W.Frag} {h : Heap} {mg : Str → Option Value} (X : K.In h) (G : h.Ns mainGlobals mg) (c : He.SaysD fa dl K) : DefAt T cc K mg 422 f_look_value := by
  obtain ⟨fd, F⟩ := c.def_ 4 (d := dd "look_value" 11) rfl
  exact defAt_of (kl := kwL kwl) N_look_value P_look_value F (He.glo_ok X G (c.fact 4 (f := .glo "look_value") rfl)) rfl rfl rfl sc_look_value ck_look_value (fun _ _ _ _ _ _ us hl => match us, hl with | [_], _ => rfl) (fun _ _ _ _ _ _ => trivial)
def N_stage_word : List Str := ["stage"]
def P_stage_word : List Str := ["stage"]
theorem sc_stage_word : scB N_stage_word P_stage_word (defScope (top 12)) = true := by decide +kernel
theorem ck_stage_word : chkSs T cc N_stage_word (defScope (top 12)) f_stage_word.body (defBody (top 12)) = true := by decide +kernel
theorem da_stage_word {K : PySem.W.Frag} {h : Heap} {mg : Str → Option Value} (X : K.In h) (G : h.Ns mainGlobals mg) (c : He.SaysD fa dl K) : DefAt T cc K mg 423 f_stage_word := by
  obtain ⟨fd, F⟩ := c.def_ 5 (d := dd "stage_word" 12) rfl
  exact defAt_of (kl := kwL kwl) N_stage_word P_stage_word F (He.glo_ok X G (c.fact 5 (f := .glo "stage_word") rfl)) rfl rfl rfl sc_stage_word ck_stage_word (fun _ _ _ _ _ _ us hl => match us, hl with | [_], _ => rfl) (fun _ _ _ _ _ _ => trivial)
def N_look_word : List Str := ["look", "dial", "least", "greatest"]
def P_look_word : List Str := ["look"]
theorem sc_look_word : scB N_look_word P_look_word (defScope (top 13)) = true := by decide +kernel
theorem ck_look_word : chkSs T cc N_look_word (defScope (top 13)) f_look_word.body (defBody (top 13)) = true := by decide +kernel
theorem da_look_word {K : PySem.W.Frag} {h : Heap} {mg : Str → Option Value} (X : K.In h) (G : h.Ns mainGlobals mg) (c : He.SaysD fa dl K) : DefAt T cc K mg 424 f_look_word := by
  obtain ⟨fd, F⟩ := c.def_ 6 (d := dd "look_word" 13) rfl
  exact defAt_of (kl := kwL kwl) N_look_word P_look_word F (He.glo_ok X G (c.fact 6 (f := .glo "look_word") rfl)) rfl rfl rfl sc_look_word ck_look_word (fun _ _ _ _ _ _ us hl => match us, hl with | [_], _ => rfl) (fun _ _ _ _ _ _ => trivial)
def N_words_of : List Str := ["text"]
def P_words_of : List Str := ["text"]
theorem sc_words_of : scB N_words_of P_words_of (defScope (top 14)) = true := by decide +kernel
theorem ck_words_of : chkSs T cc N_words_of (defScope (top 14)) f_words_of.body (defBody (top 14)) = true := by decide +kernel
theorem da_words_of {K : PySem.W.Frag} {h : Heap} {mg : Str → Option Value} (X : K.In h) (G : h.Ns mainGlobals mg) (c : He.SaysD fa dl K) : DefAt T cc K mg 425 f_words_of := by
  obtain ⟨fd, F⟩ := c.def_ 7 (d := dd "words_of" 14) rfl
  exact defAt_of (kl := kwL kwl) N_words_of P_words_of F (He.glo_ok X G (c.fact 7 (f := .glo "words_of") rfl)) rfl rfl rfl sc_words_of ck_words_of (fun _ _ _ _ _ _ us hl => match us, hl with | [_], _ => rfl) (fun _ _ _ _ _ _ => trivial)
def N_format_receiver : List Str := ["receiver", "words", "stage"]
def P_format_receiver : List Str := ["receiver"]
theorem sc_format_receiver : scB N_format_receiver P_format_receiver (defScope (top 15)) = true := by decide +kernel
theorem ck_format_receiver : chkSs T cc N_format_receiver (defScope (top 15)) f_format_receiver.body (defBody (top 15)) = true := by decide +kernel
theorem da_format_receiver {K : PySem.W.Frag} {h : Heap} {mg : Str → Option Value} (X : K.In h) (G : h.Ns mainGlobals mg) (c : He.SaysD fa dl K) : DefAt T cc K mg 426 f_format_receiver := by
  obtain ⟨fd, F⟩ := c.def_ 8 (d := dd "format_receiver" 15) rfl
  exact defAt_of (kl := kwL kwl) N_format_receiver P_format_receiver F (He.glo_ok X G (c.fact 8 (f := .glo "format_receiver") rfl)) rfl rfl rfl sc_format_receiver ck_format_receiver (fun _ _ _ _ _ _ us hl => match us, hl with | [_], _ => rfl) (fun _ _ _ _ _ _ => ⟨⟨rfl, by decide, fun us ws h1 h2 => match us, ws, h1, h2 with | [], [_], _, _ => rfl⟩, trivial⟩)
def N_format_looks : List Str := ["looks", "look"]
def P_format_looks : List Str := ["looks"]
theorem sc_format_looks : scB N_format_looks P_format_looks (defScope (top 16)) = true := by decide +kernel
theorem ck_format_looks : chkSs T cc N_format_looks (defScope (top 16)) f_format_looks.body (defBody (top 16)) = true := by decide +kernel
theorem da_format_looks {K : PySem.W.Frag} {h : Heap} {mg : Str → Option Value} (X : K.In h) (G : h.Ns mainGlobals mg) (c : He.SaysD fa dl K) : DefAt T cc K mg 427 f_format_looks := by
  obtain ⟨fd, F⟩ := c.def_ 9 (d := dd "format_looks" 16) rfl
  exact defAt_of (kl := kwL kwl) N_format_looks P_format_looks F (He.glo_ok X G (c.fact 9 (f := .glo "format_looks") rfl)) rfl rfl rfl sc_format_looks ck_format_looks (fun _ _ _ _ _ _ us hl => match us, hl with | [_], _ => rfl) (fun _ _ _ _ _ _ => ⟨⟨rfl, by decide, fun us ws h1 h2 => match us, ws, h1, h2 with | [], [_], _, _ => rfl⟩, trivial⟩)
def N_parse_receiver : List Str := ["text", "stages", "rate", "index", "word", "stage", "other"]
def P_parse_receiver : List Str := ["text"]
theorem sc_parse_receiver : scB N_parse_receiver P_parse_receiver (defScope (top 17)) = true := by decide +kernel
theorem ck_parse_receiver : chkSs T cc N_parse_receiver (defScope (top 17)) f_parse_receiver.body (defBody (top 17)) = true := by decide +kernel
theorem da_parse_receiver {K : PySem.W.Frag} {h : Heap} {mg : Str → Option Value} (X : K.In h) (G : h.Ns mainGlobals mg) (c : He.SaysD fa dl K) : DefAt T cc K mg 428 f_parse_receiver := by
  obtain ⟨fd, F⟩ := c.def_ 10 (d := dd "parse_receiver" 17) rfl
  exact defAt_of (kl := kwL kwl) N_parse_receiver P_parse_receiver F (He.glo_ok X G (c.fact 10 (f := .glo "parse_receiver") rfl)) rfl rfl rfl sc_parse_receiver ck_parse_receiver (fun _ _ _ _ _ _ us hl => match us, hl with | [_], _ => rfl) (fun _ _ _ _ _ _ => ⟨⟨rfl, by decide, fun us ws h1 h2 => match us, ws, h1, h2 with | [], [_], _, _ => rfl⟩, trivial⟩)
def N_parse_looks : List Str := ["text", "looks", "index", "word", "look"]
def P_parse_looks : List Str := ["text"]
theorem sc_parse_looks : scB N_parse_looks P_parse_looks (defScope (top 18)) = true := by decide +kernel
theorem ck_parse_looks : chkSs T cc N_parse_looks (defScope (top 18)) f_parse_looks.body (defBody (top 18)) = true := by decide +kernel
theorem da_parse_looks {K : PySem.W.Frag} {h : Heap} {mg : Str → Option Value} (X : K.In h) (G : h.Ns mainGlobals mg) (c : He.SaysD fa dl K) : DefAt T cc K mg 429 f_parse_looks := by
  obtain ⟨fd, F⟩ := c.def_ 11 (d := dd "parse_looks" 18) rfl
  exact defAt_of (kl := kwL kwl) N_parse_looks P_parse_looks F (He.glo_ok X G (c.fact 11 (f := .glo "parse_looks") rfl)) rfl rfl rfl sc_parse_looks ck_parse_looks (fun _ _ _ _ _ _ us hl => match us, hl with | [_], _ => rfl) (fun _ _ _ _ _ _ => ⟨⟨rfl, by decide, fun us ws h1 h2 => match us, ws, h1, h2 with | [], [_], _, _ => rfl⟩, trivial⟩)
def N_law_radios : List Str := ["found", "parts"]
def P_law_radios : List Str := []
theorem sc_law_radios : scB N_law_radios P_law_radios (defScope (top 20)) = true := by decide +kernel
theorem ck_law_radios : chkSs T cc N_law_radios (defScope (top 20)) f_law_radios.body (defBody (top 20)) = true := by decide +kernel
theorem da_law_radios {K : PySem.W.Frag} {h : Heap} {mg : Str → Option Value} (X : K.In h) (G : h.Ns mainGlobals mg) (c : He.SaysD fa dl K) : DefAt T cc K mg 445 f_law_radios := by
  obtain ⟨fd, F⟩ := c.def_ 12 (d := dd "_law_radios" 20) rfl
  exact defAt_of (kl := kwL kwl) N_law_radios P_law_radios F (He.glo_ok X G (c.fact 12 (f := .glo "_law_radios") rfl)) rfl rfl rfl sc_law_radios ck_law_radios (fun _ _ _ _ _ _ us hl => match us, hl with | [], _ => rfl) (fun _ _ _ _ _ _ => trivial)
def N_law_all_looks : List Str := ["found"]
def P_law_all_looks : List Str := []
theorem sc_law_all_looks : scB N_law_all_looks P_law_all_looks (defScope (top 21)) = true := by decide +kernel
theorem ck_law_all_looks : chkSs T cc N_law_all_looks (defScope (top 21)) f_law_all_looks.body (defBody (top 21)) = true := by decide +kernel
theorem da_law_all_looks {K : PySem.W.Frag} {h : Heap} {mg : Str → Option Value} (X : K.In h) (G : h.Ns mainGlobals mg) (c : He.SaysD fa dl K) : DefAt T cc K mg 446 f_law_all_looks := by
  obtain ⟨fd, F⟩ := c.def_ 13 (d := dd "_law_all_looks" 21) rfl
  exact defAt_of (kl := kwL kwl) N_law_all_looks P_law_all_looks F (He.glo_ok X G (c.fact 13 (f := .glo "_law_all_looks") rfl)) rfl rfl rfl sc_law_all_looks ck_law_all_looks (fun _ _ _ _ _ _ us hl => match us, hl with | [], _ => rfl) (fun _ _ _ _ _ _ => trivial)
def N_law_50 : List Str := ["script", "radio", "written", "looks_here"]
def P_law_50 : List Str := ["script"]
theorem sc_law_50 : scB N_law_50 P_law_50 (defScope (top 22)) = true := by decide +kernel
theorem ck_law_50 : chkSs T cc N_law_50 (defScope (top 22)) f_law_50.body (defBody (top 22)) = true := by decide +kernel
theorem da_law_50 {K : PySem.W.Frag} {h : Heap} {mg : Str → Option Value} (X : K.In h) (G : h.Ns mainGlobals mg) (c : He.SaysD fa dl K) : DefAt T cc K mg 447 f_law_50 := by
  obtain ⟨fd, F⟩ := c.def_ 14 (d := dd "law" 22) rfl
  exact defAt_of (kl := kwL kwl) N_law_50 P_law_50 F (He.glo_ok X G (c.fact 14 (f := .glo "law") rfl)) rfl rfl rfl sc_law_50 ck_law_50 (fun _ _ _ _ _ _ us hl => match us, hl with | [_], _ => rfl) (fun _ _ _ _ _ _ => trivial)
theorem facts {K : PySem.W.Frag} {h : Heap} {mg : Str → Option Value} (X : K.In h) (G : h.Ns mainGlobals mg) (c : He.SaysD fa dl K) :
    (∀ f fn, T f = some fn → DefAt T cc K mg f fn) ∧ (∀ x ∈ cc.bl, mg x = none) ∧ ∀ x d, cc.gl x = some d → ∃ u v, mg x = some u ∧ RelV v u ∧ ∀ ρ H, RelD ρ H d v :=
  ⟨DefAll.get (l := tab) ⟨da_digits_value X G c, da_signed_value X G c, da_band_value X G c, da_stage_value X G c, da_look_value X G c, da_stage_word X G c, da_look_word X G c, da_words_of X G c, da_format_receiver X G c, da_format_looks X G c, da_parse_receiver X G c, da_parse_looks X G c, da_law_radios X G c, da_law_all_looks X G c, da_law_50 X G c, trivial⟩,
    fun x hx => He.free_ok X G (c.facts (List.mem_append_right _ (List.mem_append_left _ (List.mem_map_of_mem hx)))),
    gl_of X G (by decide) fun f hf => c.facts (List.mem_append_right _ (List.mem_append_right _ hf))⟩
def Fx (x : Ob) : Bool := match den T 5 447 [.ref 0] [x] with
  | .ok (.bl true) _ => true
  | _ => false
theorem fx (x : Ob) : Fx x = true := by kernel_rfl
theorem hm : ∀ ns : List Int, ns.length ≤ 63 → ∃ h', den T 5 447 [.ref 0] [.scr (ns.map D.int)] = .ok (.bl true) h' := by
  intro ns _
  have h := fx (.scr (ns.map D.int))
  unfold Fx at h
  split at h
  · rename_i h' e
    exact ⟨h', e⟩
  · cases h
end Tx
open PySem PySem.W PySem.Calls PyProof.Rows
theorem PySem.Challenge.cw_imagetones_k49_written_texts_holds : PySem.Challenge.rw_imagetones_k49_written_texts.Holds := by
  w_on; o_law
  refine HandSHeadRun.head_any (r := OpenLaw.row PySem.Challenge.rw_imagetones_k49_written_texts) (q := view (OpenLaw.row PySem.Challenge.rw_imagetones_k49_written_texts).prog [22]) (H := Tx.hk) (ob := Tx.ob) (M := 5000) (loose := Tx.loose) (d := HandSHeadRun.topDef (OpenLaw.row PySem.Challenge.rw_imagetones_k49_written_texts).prog 22) (kwd := []) Tx.ob_eq
    (by kernel_rfl) (fun s => by kernel_rfl) Tx.run (by kernel_rfl) (by kernel_rfl) (by kernel_rfl) (by rfl) (by first | assumption | decide +kernel) (by decide +kernel) ⟨rfl, rfl, rfl, rfl, rfl, by decide +kernel⟩ ?hw ?hc
  case hw => w_witness2
  case hc =>
    refine G4.walk_G (l := PySem.Challenge.rw_imagetones_k49_written_texts) (n := 63) (k := 5) (lw := 447) (T := Tx.T) (cc := Tx.cc) (fn := G4.f_law_50) (XI := fun _ => ⟨fun _ => 0, fun _ => none⟩) rfl (by decide) (by kernel_rfl) ⟨rfl, by decide, by decide⟩ rfl rfl (by kernel_rfl) ?F Tx.hm
    intro w mg h Y G
    obtain ⟨K, KX, c⟩ := Y
    exact ⟨K, KX, Tx.facts KX G c⟩
