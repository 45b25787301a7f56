import PyProof.Rows.All
import Wide.All
import OpenK.AllK
import Wide.FinOn
import HandS.ForExc
import HandS.Comp
import HandS.Iter
import HandS.Text
import HandS.RaiseMore
import HandS.Wide
import HandS.Star
import HandS.Style
import HandS.IsInst
import HandS.Defaults
import HandS.CallSlots
import HandS.Deep
import HandS.Walk
import HandS.HeadEnd
import HandS.HeadHook1
import HandS.HeadHook2
import HandS.HeadHook4
import KE.KStateDown
import HandS.Base
import HandS.Call
import HandS.Ends
import HandS.More
import HandS.Words
import HandS.WordsExc
import HandS.Head0
import HandS.Head1
import HandS.Head2
import PySem.Challenge.RW_imagetones_k02_tones_by_hand
set_option Elab.async false
set_option linter.all false
set_option maxRecDepth 100000
set_option maxHeartbeats 8000000
/-! G1: values, the virtual heap, the intermediate form, its evaluator. -/
namespace G4
open PySem

/-- a value: tuples are values, lists stand in the virtual heap -/
inductive D where
  | non | bl (b : Bool) | int (i : Int) | str (x : Str) | tup (xs : List D) | ref (a : Nat)
  deriving Inhabited

/-- an object of the virtual heap: a list, a list that is read alone -/
inductive Ob where
  | lst (xs : List D) | scr (xs : List D)
  deriving Inhabited
abbrev Hv := List Ob
abbrev Sl := List (Option D)

/-- what comes out: a value, an own exception (its class, its fields), or no word -/
inductive R (α : Type) where
  | ok (a : α) (h : Hv)
  | ex (c : Nat) (as : List D) (h : Hv)
  | bad
def R.bind {α β : Type} (r : R α) (f : α → Hv → R β) : R β := match r with
  | .ok a h => f a h
  | .ex c as h => .ex c as h
  | .bad => .bad
/-- a statement's end -/
inductive RS where
  | nx (τ : Sl) (h : Hv)
  | rt (d : D) (h : Hv)
  | bk (τ : Sl) (h : Hv)
  | ct (τ : Sl) (h : Hv)
  | ex (c : Nat) (as : List D) (τ : Sl) (h : Hv)
  | bad
def R.stm {α : Type} (r : R α) (τ : Sl) (f : α → Hv → RS) : RS := match r with
  | .ok a h => f a h
  | .ex c as h => .ex c as τ h
  | .bad => .bad

def lim : Nat := 16777216
def Hv.get (h : Hv) (a : Nat) : Option (List D) := match h[a]? with
  | some (.lst xs) => some xs
  | some (.scr xs) => some xs
  | none => none
def Hv.lst (h : Hv) (a : Nat) : Option (List D) := match h[a]? with
  | some (.lst xs) => some xs
  | _ => none
def getS (τ : Sl) (i : Nat) : Option D := match τ[i]? with
  | some (some d) => some d
  | _ => none
/-- a new list -/
def mk (xs : List D) (h : Hv) : R D := if xs.length ≤ lim then .ok (.ref h.length) (h ++ [.lst xs]) else .bad
def sm (i : Int) : Bool := decide (i.natAbs.log2 < 5000)

/-! ### data as a whole -/
def optAll {α β : Type} (f : α → Option β) : List α → Option (List β)
  | [] => some []
  | x :: xs => match f x with
    | some y => match optAll f xs with
      | some ys => some (y :: ys)
      | none => none
    | none => none
def dat : Nat → Hv → D → Option PyData
  | 0, _, _ => none
  | n + 1, h, d => match d with
    | .non => some .none
    | .bl b => some (.bool b)
    | .int i => some (.int i)
    | .str x => some (.str x)
    | .tup xs => match optAll (dat n h) xs with
      | some ds => some (.tuple ds)
      | none => none
    | .ref a => match h.get a with
      | some xs => match optAll (dat n h) xs with
        | some ds => some (.list ds)
        | none => none
      | none => none
/-- how deep data may lie -/
def dp : Nat := 12
def eqD (h : Hv) (x y : D) : Option Bool := match x, y with
  | .int i, .int j => some (decide (i = j))
  | .str i, .str j => some (decide (i = j))
  | .bl i, .bl j => some (decide (i = j))
  | .int _, .str _ => some false
  | .str _, .int _ => some false
  | .non, .non => some true
  | .non, .int _ => some false
  | .int _, .non => some false
  | .non, .str _ => some false
  | .str _, .non => some false
  | x, y => match dat dp h x, dat dp h y with
    | some d, some e => if SeqAt.shaped d = true ∧ SeqAt.shaped e = true then some (PyData.eqv d e) else none
    | _, _ => none
def ofD (P : D → Option α) : List D → Option (List α) := optAll P
def dInt : D → Option Int
  | .int i => some i
  | _ => none
def dBl : D → Option Bool
  | .bl b => some b
  | _ => none
def dStr : D → Option Str
  | .str x => some x
  | _ => none
def flatD : D → Bool
  | .tup _ => false
  | .ref _ => false
  | _ => true
def eqF : D → D → Bool
  | .non, .non => true
  | .bl a, .bl b => a == b
  | .int a, .int b => decide (a = b)
  | .str a, .str b => decide (a = b)
  | .bl a, .int j => decide ((if a then (1 : Int) else 0) = j)
  | .int i, .bl b => decide (i = (if b then (1 : Int) else 0))
  | _, _ => false

/-! ### operators -/
inductive O2 where
  | add | sub | mul | fdiv | mod | pow
def O2.ev (o : O2) (x y : D) (h : Hv) : R D := match o, x, y with
  | .add, .int i, .int j => .ok (.int (i + j)) h
  | .add, .str a, .str b => if a.length + b.length ≤ lim then .ok (.str (a ++ b)) h else .bad
  | .add, .ref a, .ref b => match h.lst a, h.lst b with
    | some xs, some ys => mk (xs ++ ys) h
    | _, _ => .bad
  | .sub, .int i, .int j => .ok (.int (i - j)) h
  | .mul, .int i, .int j => if sm i = true ∧ sm j = true then .ok (.int (i * j)) h else .bad
  | .mul, .ref a, .int k => match h.lst a with
    | some xs => if -(2 ^ 63) ≤ k ∧ k < 2 ^ 63 then mk (List.replicate k.toNat xs).flatten h else .bad
    | none => .bad
  | .mul, .str a, .int k => if 0 ≤ k ∧ k ≤ 1000 ∧ a.length ≤ 1000 then .ok (.str (Txt.mul a k)) h else .bad
  | .fdiv, .int i, .int j => if 0 < j ∧ sm j = true then .ok (.int (i / j)) h else .bad
  | .mod, .int i, .int j => if 0 < j then .ok (.int (i % j)) h else .bad
  | .pow, .int i, .int j => if 0 ≤ j ∧ j ≤ 100 ∧ sm i = true then .ok (.int (i ^ j.toNat)) h else .bad
  | _, _, _ => .bad
/-- in place -/
def O2.ip (o : O2) (x y : D) (h : Hv) : R D := match o, x, y with
  | .add, .int i, .int j => .ok (.int (i + j)) h
  | .sub, .int i, .int j => .ok (.int (i - j)) h
  | .add, .str a, .str b => if a.length + b.length ≤ lim then .ok (.str (a ++ b)) h else .bad
  | .add, .ref a, .ref b => match h.lst a, h.lst b with
    | some xs, some ys => if xs.length + ys.length ≤ lim ∧ a ≠ b then .ok (.ref a) (h.set a (.lst (xs ++ ys))) else .bad
    | _, _ => .bad
  | _, _, _ => .bad
inductive Oc where
  | eq | ne | lt | le | gt | ge | inn | nin
def hasD (h : Hv) (x y : D) : Option Bool := match y with
  | .tup ys => if flatD x = true ∧ ys.all flatD = true then some (ys.any fun z => eqF z x) else none
  | .ref a => match h.get a with
    | some ys => if flatD x = true ∧ ys.all flatD = true then some (ys.any fun z => eqF z x) else match dat dp h x, dat dp h y with
      | some d, some (.list ds) => if SeqAt.shaped d = true ∧ SeqAt.shaped (.list ds) = true then some (ds.any fun z => PyData.eqv z d) else none
      | _, _ => none
    | none => none
  | .str z => match x with
    | .str a => match a.cps.toList with
      | [c] => some (decide (c ∈ z.cps.toList))
      | _ => none
    | _ => none
  | _ => none
def Oc.ev (o : Oc) (x y : D) (h : Hv) : Option Bool := match o with
  | .eq => eqD h x y
  | .ne => (eqD h x y).map (!·)
  | .lt => match x, y with
    | .int i, .int j => some (decide (i < j))
    | _, _ => none
  | .le => match x, y with
    | .int i, .int j => some (decide (i ≤ j))
    | _, _ => none
  | .gt => match x, y with
    | .int i, .int j => some (decide (j < i))
    | _, _ => none
  | .ge => match x, y with
    | .int i, .int j => some (decide (j ≤ i))
    | _, _ => none
  | .inn => hasD h x y
  | .nin => (hasD h x y).map (!·)
def tru (d : D) (h : Hv) : Option Bool := match d with
  | .bl b => some b
  | .int i => some (decide (i ≠ 0))
  | .non => some false
  | .tup xs => some (!xs.isEmpty)
  | .ref a => (h.get a).map fun xs => !xs.isEmpty
  | .str _ => none

/-! ### items, slices -/
def idx (n : Nat) (i : Int) : Option Nat := if 0 ≤ i then (if i < n then some i.toNat else none) else if -(n : Int) ≤ i then some (i + n).toNat else none
def cut (xs : List D) (lo hi : Option Int) : List D := (xs.drop (HT.sIx xs.length 0 lo)).take (HT.sIx xs.length xs.length hi - HT.sIx xs.length 0 lo)
def itemD (x y : D) (h : Hv) : R D := match y with
  | .int i => match x with
    | .tup xs => match (idx xs.length i).bind fun j => xs[j]? with
      | some d => .ok d h
      | none => .bad
    | .ref a => match h.get a with
      | some xs => match (idx xs.length i).bind fun j => xs[j]? with
        | some d => .ok d h
        | none => .bad
      | none => .bad
    | .str z => if z.length ≤ lim then match (idx z.cps.toList.length i).bind fun j => z.cps.toList[j]? with
        | some c => .ok (.str ⟨#[c]⟩) h
        | none => .bad
      else .bad
    | _ => .bad
  | _ => .bad
def sliceD (x : D) (lo hi : Option Int) (h : Hv) : R D := match x with
  | .ref a => match h.get a with
    | some xs => .ok (.ref h.length) (h ++ [.lst (cut xs lo hi)])
    | none => .bad
  | .str z => if z.length ≤ lim then .ok (.str (L2.cutS z lo hi)) h else .bad
  | _ => .bad

/-! ### built-in functions, methods -/
inductive Bu where
  | abs | max | min | len | int | sum | any | all | list | tuple | repr | divmod | str
def maxI : List Int → Int
  | [] => 0
  | [x] => x
  | x :: y :: r => let m := maxI (y :: r); if m > x then m else x
def minI : List Int → Int
  | [] => 0
  | [x] => x
  | x :: y :: r => let m := minI (y :: r); if m < x then m else x
def Bu.ev (b : Bu) (as : List D) (h : Hv) : R D := match b, as with
  | .abs, [.int i] => .ok (.int (if i < 0 then -i else i)) h
  | .max, [.int i, .int j] => .ok (.int (if j > i then j else i)) h
  | .min, [.int i, .int j] => .ok (.int (if j < i then j else i)) h
  | .max, [.ref a] => match h.get a with
    | some xs => match optAll dInt xs with
      | some (n :: ns) => .ok (.int (maxI (n :: ns))) h
      | _ => .bad
    | none => .bad
  | .min, [.ref a] => match h.get a with
    | some xs => match optAll dInt xs with
      | some (n :: ns) => .ok (.int (minI (n :: ns))) h
      | _ => .bad
    | none => .bad
  | .len, [.ref a] => match h.get a with
    | some xs => .ok (.int xs.length) h
    | none => .bad
  | .len, [.tup xs] => .ok (.int xs.length) h
  | .len, [.str x] => if x.length ≤ lim then .ok (.int x.length) h else .bad
  | .int, [.int i] => .ok (.int i) h
  | .int, [.bl k] => .ok (.int (if k then 1 else 0)) h
  | .sum, [.ref a] => match h.get a with
    | some xs => match optAll dInt xs with
      | some ns => .ok (.int ns.sum) h
      | none => .bad
    | none => .bad
  | .any, [.ref a] => match h.get a with
    | some xs => match optAll dBl xs with
      | some bs => .ok (.bl (bs.any id)) h
      | none => .bad
    | none => .bad
  | .all, [.ref a] => match h.get a with
    | some xs => match optAll dBl xs with
      | some bs => .ok (.bl (bs.all id)) h
      | none => .bad
    | none => .bad
  | .list, [.ref a] => match h.get a with
    | some xs => .ok (.ref h.length) (h ++ [.lst xs])
    | none => .bad
  | .list, [.tup xs] => .ok (.ref h.length) (h ++ [.lst xs])
  | .tuple, [.ref a] => match h.get a with
    | some xs => .ok (.tup xs) h
    | none => .bad
  | .tuple, [.tup xs] => .ok (.tup xs) h
  | .repr, [d] => match dat dp h d with
    | some p => if p.showable = true ∧ p.hasDict = false ∧ p.depth ≤ 12 ∧ p.shown.length ≤ lim then .ok (.str p.shown) h else .bad
    | none => .bad
  | .divmod, [.int i, .int j] => if 0 < j ∧ j < 1073741824 then .ok (.tup [.int (i / j), .int (i % j)]) h else .bad
  | .int, [.str x] => match intText? x with
    | some n => if x.length ≤ 640 then .ok (.int n) h else .bad
    | none => .bad
  | .str, [.int i] => if i.natAbs.log2 < 1920 then .ok (.str (toString i)) h else .bad
  | .str, [.str x] => .ok (.str x) h
  | _, _ => .bad
/-- texts cut, texts joined -/
def splD (a : Str) (y : D) (h : Hv) : R D := match y with
  | .str b => if (b.length == 0) = false ∧ a.length + 2 ≤ lim then .ok (.ref h.length) (h ++ [.lst ((Txt.split a b).map D.str)]) else .bad
  | _ => .bad
def joiD (a : Str) (y : D) (h : Hv) : R D := match y with
  | .ref p => match h.get p with
    | some xs => match optAll dStr xs with
      | some ys => if (ys.map (·.length)).sum + ys.length * a.length ≤ 16777216 then .ok (.str (Txt.join a ys)) h else .bad
      | none => .bad
    | none => .bad
  | _ => .bad
inductive Me where
  | append | extend
def Me.ev (m : Me) (o : D) (as : List D) (h : Hv) : R D := match m, o, as with
  | .append, .ref a, [y] => match h.lst a with
    | some xs => if xs.length < lim then .ok .non (h.set a (.lst (xs ++ [y]))) else .bad
    | none => .bad
  | .extend, .ref a, [.ref b] => match h.lst a, h.lst b with
    | some xs, some ys => if xs.length + ys.length ≤ lim then .ok .non (h.set a (.lst (xs ++ ys))) else .bad
    | _, _ => .bad
  | _, _, _ => .bad
inductive Ty where
  | int | bool | str | list | tuple | dict
  deriving DecidableEq
def Ty.has (t : Ty) : D → Bool
  | .non => false
  | .bl _ => match t with
    | .int => true
    | .bool => true
    | _ => false
  | .int _ => match t with
    | .int => true
    | _ => false
  | .str _ => match t with
    | .str => true
    | _ => false
  | .tup _ => match t with
    | .tuple => true
    | _ => false
  | .ref _ => match t with
    | .list => true
    | _ => false

/-! ### the form -/
inductive IG where
  | nm (i : Nat) | tp (gs : List IG)
mutual
inductive IE where
  | var (i : Nat) | con (d : D) | glo (x : Str) (d : D)
  | b2 (o : O2) (a b : IE) | neg (a : IE)
  | cm (o : Oc) (a b : IE) | cmN (n : Bool) (a : IE) | ch (o o' : Oc) (a b c : IE)
  | bo (k : Bool) (es : IA) | nt (a : IE) | ie (t : IT) (a b : IE)
  | tp (es : IA) | ls (es : IA) | ix (a b : IE) | sl (a : IE) (lo hi : IO)
  | cf (f : Nat) (es : IA) | ck (f : Nat) (es ks : IA) (pm : List Nat)
  | cb (b : Bu) (es : IA) | mt (m : Me) (o : IE) (es : IA)
  | isi (a : IE) (t : Ty) | isiT (a : IE) (ts : List Ty)
  | spl (o e : IE) | joi (o e : IE)
  | lc (own : List (Str × Nat)) (g : IG) (it : II) (t : IO) (tt : IT) (e : IE)
inductive IA where
  | nil | cons (e : IE) (r : IA) | star (e : IE) (r : IA)
inductive IO where
  | no | so (e : IE)
inductive IT where
  | v (e : IE) | cm (o : Oc) (a b : IE) | cmN (n : Bool) (a : IE) | ch (o o' : Oc) (a b c : IE)
  | bo (k : Bool) (ts : ITs) | nt (t : IT) | yes
inductive ITs where
  | nil | cons (t : IT) (r : ITs)
inductive II where
  | seq (e : IE) | rng (es : IA) | enm (e : IE) | zip (a b : IE)
end
mutual
inductive IS where
  | asg (g : IG) (e : IE) | par (ix : List Nat) (es : IA) | setl (o i e : IE) | aug (i : Nat) (o : O2) (e : IE)
  | ex (e : IE) | ret (e : IE) | retn | iff (t : IT) (a b : ISs) | wh (t : IT) (b : ISs) | fr (g : IG) (it : II) (b : ISs)
  | br | ct | ps | nev
inductive ISs where
  | nil | cons (s : IS) (r : ISs)
end

/-! ### what is walked -/
inductive It where
  | fix (xs : List D) | lst (a : Nat) | enm (a : Nat) | zip (a b : Nat) | rng (lo : Int) (n : Nat) | rngc (lo c : Int) (n : Nat)
/-- the i-th: no word, the end, an item -/
def It.nxt (J : It) (i : Nat) (h : Hv) : Option (Option D) := match J with
  | .fix xs => some xs[i]?
  | .lst a => match h.get a with
    | some xs => some xs[i]?
    | none => none
  | .enm a => match h.get a with
    | some xs => match xs[i]? with
      | some d => some (some (.tup [.int i, d]))
      | none => some none
    | none => none
  | .zip a b => match h.get a, h.get b with
    | some xs, some ys => match xs[i]?, ys[i]? with
      | some d, some e => some (some (.tup [d, e]))
      | _, _ => some none
    | _, _ => none
  | .rng lo n => if i < n then some (some (.int (lo + i))) else some none
  | .rngc lo c n => if i < n then some (some (.int (lo + i * c))) else some none
def forL (nxt : Nat → Hv → Option (Option D)) (bod : D → Sl → Hv → RS) : Nat → Nat → Sl → Hv → RS
  | 0, _, _, _ => .bad
  | n + 1, i, τ, h => match nxt i h with
    | none => .bad
    | some none => .nx τ h
    | some (some d) => match bod d τ h with
      | .nx τ' h' => forL nxt bod n (i + 1) τ' h'
      | .ct τ' h' => forL nxt bod n (i + 1) τ' h'
      | .bk τ' h' => .nx τ' h'
      | .rt d h' => .rt d h'
      | .ex c as τ' h' => .ex c as τ' h'
      | .bad => .bad
def whL (tst : Sl → Hv → R Bool) (bod : Sl → Hv → RS) : Nat → Sl → Hv → RS
  | 0, _, _ => .bad
  | n + 1, τ, h => (tst τ h).stm τ fun b h => match b with
    | false => .nx τ h
    | true => match bod τ h with
      | .nx τ' h' => whL tst bod n τ' h'
      | .ct τ' h' => whL tst bod n τ' h'
      | .bk τ' h' => .nx τ' h'
      | .rt d h' => .rt d h'
      | .ex c as τ' h' => .ex c as τ' h'
      | .bad => .bad
def lcL (nxt : Nat → Hv → Option (Option D)) (bod : D → Hv → R (Option D)) (l : Nat) : Nat → Nat → Hv → R D
  | 0, _, _ => .bad
  | n + 1, i, h => match nxt i h with
    | none => .bad
    | some none => .ok (.ref l) h
    | some (some d) => match bod d h with
      | .ok o h' => match o with
        | none => lcL nxt bod l n (i + 1) h'
        | some y => match h'.lst l with
          | some acc => if acc.length < lim then lcL nxt bod l n (i + 1) (h'.set l (.lst (acc ++ [y]))) else .bad
          | none => .bad
      | _ => .bad
/-- more turns than any list has items -/
def turns : Nat := 16777300

mutual
def asG : IG → D → Sl → Option Sl
  | .nm i, d, τ => some (τ.set i (some d))
  | .tp gs, d, τ => match d with
    | .tup ds => asGs gs ds τ
    | _ => none
def asGs : List IG → List D → Sl → Option Sl
  | [], ds, τ => match ds with
    | [] => some τ
    | _ => none
  | g :: gs, ds, τ => match ds with
    | d :: ds => match asG g d τ with
      | some τ' => asGs gs ds τ'
      | none => none
    | [] => none
end
def wipeS (τ : Sl) : List Nat → Sl
  | [] => τ
  | v :: vs => (wipeS τ vs).set v none
def permV (ds : List D) (pm : List Nat) : List D := pm.map fun i => ds.getD i .non

/-! ### the evaluator: Φ is what the calls give -/
abbrev Den := Nat → List D → Hv → R D
section
variable (Φ : Den)
mutual
def evE : IE → Sl → Hv → R D
  | .var i, τ, h => match getS τ i with
    | some d => .ok d h
    | none => .bad
  | .con d, _, h => .ok d h
  | .glo _ d, _, h => .ok d h
  | .b2 o a b, τ, h => (evE a τ h).bind fun x h => (evE b τ h).bind fun y h => o.ev x y h
  | .neg a, τ, h => (evE a τ h).bind fun x h => match x with
    | .int i => .ok (.int (-i)) h
    | _ => .bad
  | .cm o a b, τ, h => (evE a τ h).bind fun x h => (evE b τ h).bind fun y h => match o.ev x y h with
    | some k => .ok (.bl k) h
    | none => .bad
  | .cmN n a, τ, h => (evE a τ h).bind fun x h => match x with
    | .non => .ok (.bl (!n)) h
    | _ => .ok (.bl n) h
  | .ch o o' a b c, τ, h => (evE a τ h).bind fun x h => (evE b τ h).bind fun y h => match o.ev x y h with
    | some true => (evE c τ h).bind fun z h => match o'.ev y z h with
      | some k => .ok (.bl k) h
      | none => .bad
    | some false => .ok (.bl false) h
    | none => .bad
  | .bo k es, τ, h => evB k es τ h
  | .nt a, τ, h => (evE a τ h).bind fun x h => match x with
    | .bl k => .ok (.bl (!k)) h
    | _ => .bad
  | .ie t a b, τ, h => (evT t τ h).bind fun k h => match k with
    | true => evE a τ h
    | false => evE b τ h
  | .tp es, τ, h => (evA es τ h).bind fun ds h => if ds.length ≤ lim then .ok (.tup ds) h else .bad
  | .ls es, τ, h => (evA es τ h).bind fun ds h => mk ds h
  | .ix a b, τ, h => (evE a τ h).bind fun x h => (evE b τ h).bind fun y h => itemD x y h
  | .sl a lo hi, τ, h => (evE a τ h).bind fun x h => (evO lo τ h).bind fun l h => (evO hi τ h).bind fun u h => sliceD x l u h
  | .cf f es, τ, h => (evA es τ h).bind fun ds h => Φ f ds h
  | .ck f es ks pm, τ, h => (evA es τ h).bind fun ds h => (evA ks τ h).bind fun zs h => Φ f (permV (ds ++ zs) pm) h
  | .cb b es, τ, h => (evA es τ h).bind fun ds h => b.ev ds h
  | .mt m o es, τ, h => (evE o τ h).bind fun x h => match x with
    | .ref a => (evA es τ h).bind fun ds h => m.ev (.ref a) ds h
    | _ => .bad
  | .spl o e, τ, h => (evE o τ h).bind fun x h => match x with
    | .str a => (evE e τ h).bind fun y h => splD a y h
    | _ => .bad
  | .joi o e, τ, h => (evE o τ h).bind fun x h => match x with
    | .str a => (evE e τ h).bind fun y h => joiD a y h
    | _ => .bad
  | .isi a t, τ, h => (evE a τ h).bind fun x h => .ok (.bl (t.has x)) h
  | .isiT a ts, τ, h => (evE a τ h).bind fun x h => .ok (.bl (ts.any fun t => t.has x)) h
  | .lc own g it _ tt e, τ, h => (evI it τ h).bind fun J h =>
      lcL J.nxt (fun d h => match asG g d (wipeS τ (own.map (·.2))) with
        | some τ2 => (evT tt τ2 h).bind fun k h => match k with
          | true => (evE e τ2 h).bind fun y h => .ok (some y) h
          | false => .ok none h
        | none => .bad) h.length turns 0 (h ++ [.lst []])
def evB (k : Bool) : IA → Sl → Hv → R D
  | .nil, _, _ => .bad
  | .cons e .nil, τ, h => evE e τ h
  | .cons e r, τ, h => (evE e τ h).bind fun x h => match x with
    | .bl c => if c = k then evB k r τ h else .ok (.bl c) h
    | _ => .bad
  | .star _ _, _, _ => .bad
def evA : IA → Sl → Hv → R (List D)
  | .nil, _, h => .ok [] h
  | .cons e r, τ, h => (evE e τ h).bind fun x h => (evA r τ h).bind fun xs h => .ok (x :: xs) h
  | .star e r, τ, h => (evE e τ h).bind fun x h => match x with
    | .tup ys => (evA r τ h).bind fun xs h => .ok (ys ++ xs) h
    | .ref a => match h.get a with
      | some ys => (evA r τ h).bind fun xs h => .ok (ys ++ xs) h
      | none => .bad
    | _ => .bad
def evO : IO → Sl → Hv → R (Option Int)
  | .no, _, h => .ok none h
  | .so e, τ, h => (evE e τ h).bind fun x h => match x with
    | .int i => .ok (some i) h
    | _ => .bad
def evT : IT → Sl → Hv → R Bool
  | .v e, τ, h => (evE e τ h).bind fun x h => match tru x h with
    | some k => .ok k h
    | none => .bad
  | .cm o a b, τ, h => (evE a τ h).bind fun x h => (evE b τ h).bind fun y h => match o.ev x y h with
    | some k => .ok k h
    | none => .bad
  | .cmN n a, τ, h => (evE a τ h).bind fun x h => match x with
    | .non => .ok (!n) h
    | _ => .ok n h
  | .ch o o' a b c, τ, h => (evE a τ h).bind fun x h => (evE b τ h).bind fun y h => match o.ev x y h with
    | some true => (evE c τ h).bind fun z h => match o'.ev y z h with
      | some k => .ok k h
      | none => .bad
    | some false => .ok false h
    | none => .bad
  | .bo k ts, τ, h => evTs k ts τ h
  | .nt t, τ, h => (evT t τ h).bind fun k h => .ok (!k) h
  | .yes, _, h => .ok true h
def evTs (k : Bool) : ITs → Sl → Hv → R Bool
  | .nil, _, _ => .bad
  | .cons t .nil, τ, h => evT t τ h
  | .cons t r, τ, h => (evT t τ h).bind fun c h => if c = k then evTs k r τ h else .ok c h
def evI : II → Sl → Hv → R It
  | .seq e, τ, h => (evE e τ h).bind fun x h => match x with
    | .tup xs => .ok (.fix xs) h
    | .ref a => match h.get a with
      | some _ => .ok (.lst a) h
      | none => .bad
    | .str z => .ok (.fix (z.cps.toList.map fun c => D.str ⟨#[c]⟩)) h
    | _ => .bad
  | .rng es, τ, h => (evA es τ h).bind fun ds h => match ds with
    | [.int j] => if -(2 ^ 62) ≤ j ∧ j < 2 ^ 62 then .ok (.rng 0 j.toNat) h else .bad
    | [.int i, .int j] => if -(2 ^ 62) ≤ i ∧ i < 2 ^ 62 ∧ -(2 ^ 62) ≤ j ∧ j < 2 ^ 62 then .ok (.rng i (j - i).toNat) h else .bad
    | _ => .bad
  | .enm e, τ, h => (evE e τ h).bind fun x h => match x with
    | .ref a => match h.get a with
      | some _ => .ok (.enm a) h
      | none => .bad
    | _ => .bad
  | .zip a b, τ, h => (evE a τ h).bind fun x h => (evE b τ h).bind fun y h => match x, y with
    | .ref a, .ref b => match h.get a, h.get b with
      | some _, some _ => .ok (.zip a b) h
      | _, _ => .bad
    | _, _ => .bad
end
def parS (τ : Sl) : List Nat → List D → Option Sl
  | [], [] => some τ
  | i :: is, d :: ds => parS (τ.set i (some d)) is ds
  | _, _ => none
mutual
def exS : IS → Sl → Hv → RS
  | .asg g e, τ, h => (evE Φ e τ h).stm τ fun x h => match asG g x τ with
    | some τ' => .nx τ' h
    | none => .bad
  | .par ix es, τ, h => (evA Φ es τ h).stm τ fun ds h => match parS τ ix ds with
    | some τ' => .nx τ' h
    | none => .bad
  | .setl o i e, τ, h => (evE Φ e τ h).stm τ fun v h => (evE Φ o τ h).stm τ fun x h => (evE Φ i τ h).stm τ fun y h => match x, y with
    | .ref a, .int k => match h.lst a with
      | some xs => match idx xs.length k with
        | some j => .nx τ (h.set a (.lst (xs.set j v)))
        | none => .bad
      | none => .bad
    | _, _ => .bad
  | .aug i o e, τ, h => match getS τ i with
    | some x => (evE Φ e τ h).stm τ fun y h => (o.ip x y h).stm τ fun z h => .nx (τ.set i (some z)) h
    | none => .bad
  | .ex e, τ, h => (evE Φ e τ h).stm τ fun _ h => .nx τ h
  | .ret e, τ, h => (evE Φ e τ h).stm τ fun x h => .rt x h
  | .retn, _, h => .rt .non h
  | .iff t a b, τ, h => (evT Φ t τ h).stm τ fun k h => match k with
    | true => exSs a τ h
    | false => exSs b τ h
  | .wh t b, τ, h => whL (evT Φ t) (exSs b) turns τ h
  | .fr g it b, τ, h => (evI Φ it τ h).stm τ fun J h => forL J.nxt (fun d τ h => match asG g d τ with
    | some τ' => exSs b τ' h
    | none => .bad) turns 0 τ h
  | .br, τ, h => .bk τ h
  | .ct, τ, h => .ct τ h
  | .ps, τ, h => .nx τ h
  | .nev, _, _ => .bad
def exSs : ISs → Sl → Hv → RS
  | .nil, τ, h => .nx τ h
  | .cons s r, τ, h => match exS s τ h with
    | .nx τ' h' => exSs r τ' h'
    | x => x
end
end

/-! ### functions -/
structure Fn where
  np : Nat
  ns : Nat
  body : ISs
def runFn (Φ : Den) (f : Fn) (as : List D) (h : Hv) : R D := if as.length = f.np then
    match exSs Φ f.body (as.map some ++ List.replicate (f.ns - f.np) none) h with
    | .nx _ h' => .ok .non h'
    | .rt d h' => .ok d h'
    | .ex c as _ h' => .ex c as h'
    | _ => .bad
  else .bad
abbrev Tab := Nat → Option Fn
def den (T : Tab) : Nat → Den
  | 0 => fun _ _ _ => .bad
  | k + 1 => fun f as h => match T f with
    | some fn => runFn (den T k) fn as h
    | none => .bad
end G4

/-! G2: how the virtual heap stands for the layer's heap; what a def that is evaluated keeps. -/
namespace G4
open PySem PySem.Spec PyProof.Rows L2

theorem lim_eq : lim = sizeLine := by rw [sizeLine_eq]; rfl

/-! ### values -/
mutual
def RelD (ρ : List Addr) (H : Hp) : D → V → Prop
  | .non, v => v = .non
  | .bl b, v => v = .bl b
  | .int i, v => v = .int i
  | .str x, v => v = .str x
  | .tup ds, v => ∃ p xs, v = .ref p ∧ H p = some (.tup xs) ∧ RelDs ρ H ds xs
  | .ref a, v => ∃ p, v = .ref p ∧ ρ[a]? = some p
def RelDs (ρ : List Addr) (H : Hp) : List D → List V → Prop
  | [], vs => vs = []
  | d :: ds, vs => ∃ w ws, vs = w :: ws ∧ RelD ρ H d w ∧ RelDs ρ H ds ws
end
/-- later: more addresses, all tuples as they were -/
structure Ext (ρ : List Addr) (H : Hp) (ρ' : List Addr) (H' : Hp) : Prop where
  at_ : ∀ (i : Nat) (p : Addr), ρ[i]? = some p → ρ'[i]? = some p
  tup : ∀ p xs, H p = some (.tup xs) → H' p = some (.tup xs)
theorem Ext.refl (ρ : List Addr) (H : Hp) : Ext ρ H ρ H := ⟨fun _ _ h => h, fun _ _ h => h⟩
theorem Ext.trans {ρ ρ1 ρ2 : List Addr} {H H1 H2 : Hp} (a : Ext ρ H ρ1 H1) (b : Ext ρ1 H1 ρ2 H2) : Ext ρ H ρ2 H2 :=
  ⟨fun i p h => b.at_ i p (a.at_ i p h), fun p xs h => b.tup p xs (a.tup p xs h)⟩
section
variable {ρ ρ' : List Addr} {H H' : Hp}
mutual
theorem RelD.mono (e : Ext ρ H ρ' H') : ∀ (d : D) (v : V), RelD ρ H d v → RelD ρ' H' d v
  | .non, _, h => h
  | .bl _, _, h => h
  | .int _, _, h => h
  | .str _, _, h => h
  | .tup ds, _, h => by
    obtain ⟨p, xs, e1, e2, r⟩ := h
    exact ⟨p, xs, e1, e.tup p xs e2, RelDs.mono e ds xs r⟩
  | .ref a, _, h => by
    obtain ⟨p, e1, e2⟩ := h
    exact ⟨p, e1, e.at_ a p e2⟩
theorem RelDs.mono (e : Ext ρ H ρ' H') : ∀ (ds : List D) (vs : List V), RelDs ρ H ds vs → RelDs ρ' H' ds vs
  | [], _, h => h
  | d :: ds, _, h => by
    obtain ⟨w, ws, e1, r, rs⟩ := h
    exact ⟨w, ws, e1, RelD.mono e d w r, RelDs.mono e ds ws rs⟩
end
theorem RelDs.len : ∀ {ds : List D} {vs : List V}, RelDs ρ H ds vs → ds.length = vs.length
  | [], _, h => by cases h; rfl
  | d :: ds, _, h => by
    obtain ⟨w, ws, rfl, r, rs⟩ := h
    simp [RelDs.len rs]
theorem RelDs.get : ∀ {ds : List D} {vs : List V} {i : Nat} {d : D}, RelDs ρ H ds vs → ds[i]? = some d → ∃ v, vs[i]? = some v ∧ RelD ρ H d v
  | [], _, _, _, _, e => by simp at e
  | d :: ds, _, 0, _, h, e => by
    obtain ⟨w, ws, rfl, r, rs⟩ := h
    simp at e; subst e
    exact ⟨w, rfl, r⟩
  | d :: ds, _, i + 1, x, h, e => by
    obtain ⟨w, ws, rfl, r, rs⟩ := h
    obtain ⟨v, e1, r1⟩ := RelDs.get (i := i) rs (by simpa using e)
    exact ⟨v, by simpa using e1, r1⟩
theorem RelDs.geto {ds : List D} {vs : List V} (h : RelDs ρ H ds vs) {i : Nat} {v : V} (e : vs[i]? = some v) : ∃ d, ds[i]? = some d ∧ RelD ρ H d v := by
  have hi : i < ds.length := by
    rw [h.len]
    exact (List.getElem?_eq_some_iff.mp e).1
  obtain ⟨v', e1, r⟩ := h.get (List.getElem?_eq_getElem hi)
  rw [e] at e1; cases e1
  exact ⟨_, List.getElem?_eq_getElem hi, r⟩
theorem RelDs.app : ∀ {ds es : List D} {vs ws : List V}, RelDs ρ H ds vs → RelDs ρ H es ws → RelDs ρ H (ds ++ es) (vs ++ ws)
  | [], _, _, _, h, k => by cases h; exact k
  | d :: ds, _, _, _, h, k => by
    obtain ⟨w, ws, rfl, r, rs⟩ := h
    exact ⟨w, _, rfl, r, RelDs.app rs k⟩
theorem RelDs.take : ∀ {ds : List D} {vs : List V} (n : Nat), RelDs ρ H ds vs → RelDs ρ H (ds.take n) (vs.take n)
  | _, _, 0, _ => by simp [RelDs]
  | [], _, n + 1, h => by cases h; simp [RelDs]
  | d :: ds, _, n + 1, h => by
    obtain ⟨w, ws, rfl, r, rs⟩ := h
    exact ⟨w, _, rfl, r, RelDs.take n rs⟩
theorem RelDs.drop : ∀ {ds : List D} {vs : List V} (n : Nat), RelDs ρ H ds vs → RelDs ρ H (ds.drop n) (vs.drop n)
  | _, _, 0, h => h
  | [], _, n + 1, h => by cases h; simp [RelDs]
  | d :: ds, _, n + 1, h => by
    obtain ⟨w, ws, rfl, r, rs⟩ := h
    exact RelDs.drop n rs
theorem RelDs.set : ∀ {ds : List D} {vs : List V} (i : Nat) {d : D} {v : V}, RelDs ρ H ds vs → RelD ρ H d v → RelDs ρ H (ds.set i d) (vs.set i v)
  | [], _, i, _, _, h, _ => by cases h; simp [RelDs]
  | d :: ds, _, 0, _, _, h, k => by
    obtain ⟨w, ws, rfl, r, rs⟩ := h
    exact ⟨_, _, rfl, k, rs⟩
  | d :: ds, _, i + 1, _, _, h, k => by
    obtain ⟨w, ws, rfl, r, rs⟩ := h
    exact ⟨w, _, rfl, r, RelDs.set i rs k⟩
theorem RelDs.rep {ds : List D} {vs : List V} (h : RelDs ρ H ds vs) : ∀ k : Nat, RelDs ρ H (List.replicate k ds).flatten (List.replicate k vs).flatten
  | 0 => by simp [RelDs]
  | k + 1 => by
    rw [List.replicate_succ, List.replicate_succ, List.flatten_cons, List.flatten_cons]
    exact h.app (RelDs.rep h k)
theorem RelDs.one {d : D} {v : V} (h : RelD ρ H d v) : RelDs ρ H [d] [v] := ⟨v, [], rfl, h, rfl⟩
theorem RelDs.nil_iff {ds : List D} {vs : List V} (h : RelDs ρ H ds vs) : vs.isEmpty = ds.isEmpty := by
  cases ds with
  | nil => cases h; rfl
  | cons d ds => obtain ⟨w, ws, rfl, _⟩ := h; rfl
theorem RelDs.ints : ∀ {ds : List D} {vs : List V} {ns : List Int}, RelDs ρ H ds vs → optAll dInt ds = some ns → vs = ns.map V.int
  | [], _, ns, h, e => by
    cases h
    simp [optAll] at e; subst e; rfl
  | d :: ds, _, ns, h, e => by
    obtain ⟨w, ws, rfl, r, rs⟩ := h
    cases d with
    | int i =>
      have hw : w = .int i := r
      subst hw
      simp only [optAll, dInt] at e
      cases q : optAll dInt ds with
      | none => rw [q] at e; cases e
      | some ms =>
        rw [q] at e
        cases e
        rw [RelDs.ints rs q]; rfl
    | _ => simp [optAll, dInt] at e
theorem RelDs.bls : ∀ {ds : List D} {vs : List V} {ns : List Bool}, RelDs ρ H ds vs → optAll dBl ds = some ns → vs = ns.map V.bl
  | [], _, ns, h, e => by
    cases h
    simp [optAll] at e; subst e; rfl
  | d :: ds, _, ns, h, e => by
    obtain ⟨w, ws, rfl, r, rs⟩ := h
    cases d with
    | bl i =>
      have hw : w = .bl i := r
      subst hw
      simp only [optAll, dBl] at e
      cases q : optAll dBl ds with
      | none => rw [q] at e; cases e
      | some ms =>
        rw [q] at e
        cases e
        rw [RelDs.bls rs q]; rfl
    | _ => simp [optAll, dBl] at e
end

/-! ### the heap -/
/-- read, never written -/
def SqR (K : PySem.W.Frag) (H : Hp) (p : Addr) (xs : List V) : Prop :=
  (∃ o, H p = some (.frz o (.lst xs))) ∨ ∃ (o : Obj) (its : Array Value) (n : Nat), K.lookup p = some o ∧ o.cls = .type "list" ∧ o.dict = none ∧ o.data = .seq its n ∧ its.size ≤ sizeLine ∧ Vals xs its.toList
def RelOb (K : PySem.W.Frag) (ρ : List Addr) (H : Hp) : Ob → Addr → Prop
  | .lst ds, p => ∃ xs, H p = some (.lst xs) ∧ RelDs ρ H ds xs
  | .scr ds, p => ∃ xs, SqR K H p xs ∧ RelDs ρ H ds xs
structure RelH (K : PySem.W.Frag) (ρ : List Addr) (h : Hv) (H : Hp) : Prop where
  len : ρ.length = h.length
  ob : ∀ (i : Nat) (o : Ob) (p : Addr), h[i]? = some o → ρ[i]? = some p → RelOb K ρ H o p
  inj : ∀ (i j : Nat) (p : Addr) (xs ys : List D), h[i]? = some (.lst xs) → h[j]? = some (.lst ys) → ρ[i]? = some p → ρ[j]? = some p → i = j
def RelS (ρ : List Addr) (H : Hp) (τ : Sl) (σ : L2.St) : Prop := τ.length = σ.length ∧ ∀ (i : Nat) (d : D), τ[i]? = some (some d) → ∃ v, σ[i]? = some (some v) ∧ RelD ρ H d v
section
variable {K : PySem.W.Frag} {ρ ρ' : List Addr} {h : Hv} {H H' : Hp} {τ : Sl} {σ : L2.St}
theorem RelS.mono (e : Ext ρ H ρ' H') (r : RelS ρ H τ σ) : RelS ρ' H' τ σ := ⟨r.1, fun i d q => by
  obtain ⟨v, e1, r1⟩ := r.2 i d q
  exact ⟨v, e1, r1.mono e⟩⟩
theorem RelS.get {i : Nat} {d : D} (r : RelS ρ H τ σ) (q : getS τ i = some d) : ∃ v, σ[i]? = some (some v) ∧ RelD ρ H d v := by
  refine r.2 i d ?_
  unfold getS at q
  split at q
  · cases q; assumption
  · cases q
theorem RelS.set {i : Nat} {d : D} {v : V} (r : RelS ρ H τ σ) (q : RelD ρ H d v) : RelS ρ H (τ.set i (some d)) (σ.set i (some v)) := by
  refine ⟨by simpa using r.1, fun j e hj => ?_⟩
  by_cases hji : i = j
  · subst hji
    by_cases hl : i < τ.length
    · rw [List.getElem?_set_self hl] at hj
      cases hj
      exact ⟨v, by rw [List.getElem?_set_self (by rw [← r.1]; exact hl)], q⟩
    · rw [List.getElem?_eq_none (by simpa using hl)] at hj; cases hj
  · rw [List.getElem?_set_ne hji] at hj
    obtain ⟨v', e1, r1⟩ := r.2 j e hj
    exact ⟨v', by rw [List.getElem?_set_ne hji]; exact e1, r1⟩
theorem RelS.wipe (r : RelS ρ H τ σ) : ∀ vs : List Nat, RelS ρ H (wipeS τ vs) (L2.wipe σ vs)
  | [] => r
  | v :: vs => by
    have q := RelS.wipe r vs
    refine ⟨by simpa [wipeS, L2.wipe] using q.1, fun j e hj => ?_⟩
    unfold wipeS at hj
    by_cases hji : v = j
    · subst hji
      by_cases hl : v < (wipeS τ vs).length
      · rw [List.getElem?_set_self hl] at hj; cases hj
      · rw [List.getElem?_eq_none (by simpa using hl)] at hj; cases hj
    · rw [List.getElem?_set_ne hji] at hj
      obtain ⟨v', e1, r1⟩ := q.2 j e hj
      unfold L2.wipe
      exact ⟨v', by rw [List.getElem?_set_ne hji]; exact e1, r1⟩
theorem RelH.get {a : Nat} {p : Addr} {ds : List D} (r : RelH K ρ h H) (q : h.get a = some ds) (e : ρ[a]? = some p) : ∃ xs, SqL K H p xs ∧ RelDs ρ H ds xs := by
  unfold Hv.get at q
  split at q
  · cases q
    obtain ⟨xs, e1, r1⟩ := r.ob a _ p (by assumption) e
    exact ⟨xs, SqL.of e1, r1⟩
  · cases q
    obtain ⟨xs, e1, r1⟩ := r.ob a _ p (by assumption) e
    rcases e1 with ⟨o, e1⟩ | e1
    · exact ⟨xs, .inl (.inr ⟨o, e1⟩), r1⟩
    · exact ⟨xs, .inr e1, r1⟩
  · cases q
theorem Hv.lst_iff {a : Nat} {ds : List D} : h.lst a = some ds ↔ h[a]? = some (.lst ds) := by
  unfold Hv.lst
  constructor
  · intro q
    split at q
    · cases q; assumption
    · cases q
  · intro q
    rw [q]
theorem RelH.lst {a : Nat} {p : Addr} {ds : List D} (r : RelH K ρ h H) (q : h.lst a = some ds) (e : ρ[a]? = some p) : ∃ xs, H p = some (.lst xs) ∧ RelDs ρ H ds xs :=
  r.ob a _ p (Hv.lst_iff.mp q) e
theorem SqR.keep {p : Addr} {xs : List V} (r : SqR K H p xs) (k : ∀ o, H p = some (.frz o (.lst xs)) → H' p = some (.frz o (.lst xs))) : SqR K H' p xs := by
  rcases r with ⟨o, e⟩ | e
  · exact .inl ⟨o, k o e⟩
  · exact .inr e
theorem RelOb.keep {o : Ob} {p : Addr} (e : Ext ρ H ρ' H') (r : RelOb K ρ H o p) (k : ∀ u, H p = some u → ((∃ ds, o = .lst ds) ∧ ∃ xs, u = .lst xs) ∨ (∃ ob xs, u = .frz ob (.lst xs)) → H' p = some u) : RelOb K ρ' H' o p := by
  cases o with
  | lst ds =>
    obtain ⟨xs, e1, r1⟩ := r
    exact ⟨xs, k _ e1 (.inl ⟨⟨ds, rfl⟩, xs, rfl⟩), r1.mono e⟩
  | scr ds =>
    obtain ⟨xs, e1, r1⟩ := r
    exact ⟨xs, e1.keep fun o q => k _ q (.inr ⟨o, xs, rfl⟩), r1.mono e⟩
theorem rho_lt {i : Nat} {p : Addr} (e : ρ[i]? = some p) : i < ρ.length := (List.getElem?_eq_some_iff.mp e).1
theorem ext_alloc {p : Addr} {o : HO} (n : H p = none) : Ext ρ H (ρ ++ [p]) (upd H p o) := ⟨fun i q e => by
  rw [List.getElem?_append_left (rho_lt e)]; exact e, fun q xs e => by rw [upd_ne (ne_of_none e n)]; exact e⟩
theorem ext_tup {p : Addr} {o : HO} (n : H p = none) : Ext ρ H ρ (upd H p o) := ⟨fun i q e => e, fun q xs e => by rw [upd_ne (ne_of_none e n)]; exact e⟩
/-- a new list -/
theorem RelH.alloc {p : Addr} {ds : List D} {xs : List V} (r : RelH K ρ h H) (n : H p = none) (q : RelDs ρ H ds xs) : RelH K (ρ ++ [p]) (h ++ [.lst ds]) (upd H p (.lst xs)) := by
  have e : Ext ρ H (ρ ++ [p]) (upd H p (.lst xs)) := ext_alloc n
  have last : ∀ {i : Nat} {o : Ob}, (h ++ [Ob.lst ds])[i]? = some o → (h[i]? = some o ∧ i < h.length) ∨ (i = h.length ∧ o = .lst ds) := fun {i o} hi => by
    by_cases hl : i < h.length
    · rw [List.getElem?_append_left hl] at hi; exact .inl ⟨hi, hl⟩
    · rw [List.getElem?_append_right (by omega)] at hi
      have : i - h.length = 0 := by
        by_cases z : i - h.length = 0
        · exact z
        · rw [List.getElem?_eq_none (by simp; omega)] at hi; cases hi
      rw [this] at hi
      cases hi
      exact .inr ⟨by omega, rfl⟩
  have rl : ∀ {i : Nat} {a : Addr}, i < h.length → (ρ ++ [p])[i]? = some a → ρ[i]? = some a := fun {i a} hl hi => by
    rw [List.getElem?_append_left (by rw [r.len]; exact hl)] at hi; exact hi
  have rn : ∀ {a : Addr}, (ρ ++ [p])[h.length]? = some a → a = p := fun {a} hi => by
    rw [List.getElem?_append_right (by rw [r.len]; exact Nat.le_refl _), r.len, Nat.sub_self] at hi
    cases hi; rfl
  refine ⟨by simp [r.len], fun i o a hi ha => ?_, fun i j a us ws hi hj ha hb => ?_⟩
  · rcases last hi with ⟨h1, h2⟩ | ⟨rfl, rfl⟩
    · have hr := r.ob i o a h1 (rl h2 ha)
      refine hr.keep e fun u hu _ => ?_
      rw [upd_ne (ne_of_none hu n)]; exact hu
    · rw [rn ha]
      exact ⟨xs, upd_same, q.mono e⟩
  · rcases last hi with ⟨h1, h2⟩ | ⟨rfl, _⟩
    · rcases last hj with ⟨h3, h4⟩ | ⟨rfl, _⟩
      · exact r.inj i j a us ws h1 h3 (rl h2 ha) (rl h4 hb)
      · obtain ⟨zs, z1, _⟩ := r.ob i _ a h1 (rl h2 ha)
        rw [rn hb, n] at z1; cases z1
    · rcases last hj with ⟨h3, h4⟩ | ⟨rfl, _⟩
      · obtain ⟨zs, z1, _⟩ := r.ob j _ a h3 (rl h4 hb)
        rw [rn ha, n] at z1; cases z1
      · rfl
/-- a new tuple -/
theorem RelH.tup {p : Addr} {xs : List V} (r : RelH K ρ h H) (n : H p = none) : RelH K ρ h (upd H p (.tup xs)) :=
  ⟨r.len, fun i o a hi ha => (r.ob i o a hi ha).keep (ext_tup n) fun u hu _ => by rw [upd_ne (ne_of_none hu n)]; exact hu, r.inj⟩
theorem ext_set {p : Addr} {xs ys : List V} (e : H p = some (.lst xs)) : Ext ρ H ρ (upd H p (.lst ys)) := ⟨fun _ _ q => q, fun q zs z => by
  rw [upd_ne (fun w => by subst w; rw [e] at z; cases z)]; exact z⟩
/-- a list is written -/
theorem RelH.set {a : Nat} {p : Addr} {ds es : List D} {ys : List V} (r : RelH K ρ h H) (q : h.lst a = some ds) (e : ρ[a]? = some p) (k : RelDs ρ H es ys) : RelH K ρ (h.set a (.lst es)) (upd H p (.lst ys)) := by
  obtain ⟨xs, e1, r1⟩ := r.lst q e
  have q' := Hv.lst_iff.mp q
  have ex : Ext ρ H ρ (upd H p (.lst ys)) := ext_set e1
  have back : ∀ {i : Nat} {o : Ob}, (h.set a (Ob.lst es))[i]? = some o → (i = a ∧ o = .lst es) ∨ (i ≠ a ∧ h[i]? = some o) := fun {i o} hi => by
    by_cases z : i = a
    · subst z
      rw [List.getElem?_set_self (List.getElem?_eq_some_iff.mp q').1] at hi
      cases hi; exact .inl ⟨rfl, rfl⟩
    · rw [List.getElem?_set_ne (Ne.symm z)] at hi; exact .inr ⟨z, hi⟩
  refine ⟨by simp [r.len], fun i o b hi hb => ?_, fun i j b us ws hi hj hb hc => ?_⟩
  · rcases back hi with ⟨rfl, rfl⟩ | ⟨z, hi⟩
    · rw [e] at hb; cases hb
      exact ⟨ys, upd_same, k.mono ex⟩
    · refine (r.ob i o b hi hb).keep ex fun u hu hk => ?_
      by_cases w : b = p
      · subst w
        rw [e1] at hu; cases hu
        rcases hk with ⟨⟨us, rfl⟩, _⟩ | ⟨ob, zs, hz⟩
        · exact absurd (r.inj i a b us ds hi q' hb e) z
        · cases hz
      · rw [upd_ne w]; exact hu
  · rcases back hi with ⟨rfl, h1⟩ | ⟨z, hi2⟩
    · rcases back hj with ⟨rfl, _⟩ | ⟨z2, hj⟩
      · rfl
      · exact r.inj i j b ds ws q' hj hb hc
    · rcases back hj with ⟨rfl, h2⟩ | ⟨z2, hj2⟩
      · exact r.inj _ _ b us ds hi2 q' hb hc
      · exact r.inj _ _ b us ws hi2 hj2 hb hc
end

/-! ### what comes out -/
/-- an own exception as the evaluator tells it: its class's address by the number, its fields by name -/
structure XInfo where
  ad : Nat → Addr
  fld : Nat → Option Str
def RelX (XI : XInfo) (ρ : List Addr) (H : Hp) (c : Nat) (as : List D) (cls : Value) (d : Option Addr) : Prop :=
  cls = .ref (XI.ad c) ∧ match XI.fld c, as with
    | none, _ => d = none
    | some f, [a] => ∃ (x : Addr) (v : V), d = some x ∧ H x = some (.xd [(f, v)]) ∧ RelD ρ H a v
    | some _, _ => False
def Out {α : Type} (K : PySem.W.Frag) (XI : XInfo) (E : XK) (ρ : List Addr) (H : Hp) (r : R α) (P : α → Hv → List Addr → Hp → Prop) : Prop := match r with
  | .ok a h' => ∀ ρ' H', Ext ρ H ρ' H' → RelH K ρ' h' H' → P a h' ρ' H'
  | .ex c as h' => ∀ ρ' H' cls d, Ext ρ H ρ' H' → RelH K ρ' h' H' → RelX XI ρ' H' c as cls d → E cls d H'
  | .bad => False
section
variable {α β : Type} {K : PySem.W.Frag} {XI : XInfo} {E E' : XK} {ρ ρ1 : List Addr} {H H1 : Hp} {r : R α}
theorem Out.imp {P P' : α → Hv → List Addr → Hp → Prop} (o : Out K XI E ρ H r P) (k : ∀ a h' ρ' H', Ext ρ H ρ' H' → RelH K ρ' h' H' → P a h' ρ' H' → P' a h' ρ' H') : Out K XI E ρ H r P' := by
  cases r with
  | ok a h => exact fun ρ' H' e rh => k a h ρ' H' e rh (o ρ' H' e rh)
  | ex c as h => exact o
  | bad => exact o
theorem Out.later {P : α → Hv → List Addr → Hp → Prop} (o : Out K XI E ρ H r P) (e : Ext ρ H ρ1 H1) : Out K XI E ρ1 H1 r P := by
  cases r with
  | ok a h => exact fun ρ' H' e' rh => o ρ' H' (e.trans e') rh
  | ex c as h => exact fun ρ' H' cls d e' rh rx => o ρ' H' cls d (e.trans e') rh rx
  | bad => exact o
theorem Out.bind {f : α → Hv → R β} {P : β → Hv → List Addr → Hp → Prop} (o : Out K XI E ρ H (r.bind f) P) :
    Out K XI E ρ H r fun a h' ρ' H' => Out K XI E ρ' H' (f a h') P := by
  cases r with
  | ok a h =>
    have o' : Out K XI E ρ H (f a h) P := o
    exact fun ρ' H' e _ => o'.later e
  | ex c as h => exact o
  | bad => exact o
theorem Out.ok {a : α} {h' : Hv} {P : α → Hv → List Addr → Hp → Prop} (o : Out K XI E ρ H (.ok a h') P) (e : Ext ρ H ρ1 H1) (rh : RelH K ρ1 h' H1) : P a h' ρ1 H1 := o ρ1 H1 e rh
end

/-! ### readings by the evaluator -/
/-- the letters that do not change within a def -/
structure Ck where
  K : PySem.W.Frag
  XI : XInfo
  W : WX
abbrev Ck.E (c : Ck) (σ : L2.St) : XK := fun cl d H' => c.W cl d σ H'
def tD (c : Ck) (m : Sl → Hv → R D) : TE := fun σ H Q => ∃ ρ τ h, RelS ρ H τ σ ∧ RelH c.K ρ h H ∧ Out c.K c.XI (c.E σ) ρ H (m τ h) fun d _ ρ' H' => ∀ v, RelD ρ' H' d v → Q v H'
def tDs (c : Ck) (m : Sl → Hv → R (List D)) : TA := fun σ H Q => ∃ ρ τ h, RelS ρ H τ σ ∧ RelH c.K ρ h H ∧ Out c.K c.XI (c.E σ) ρ H (m τ h) fun ds _ ρ' H' => ∀ vs, RelDs ρ' H' ds vs → Q vs H'
def tDb (c : Ck) (m : Sl → Hv → R Bool) : TT := fun σ H Q => ∃ ρ τ h, RelS ρ H τ σ ∧ RelH c.K ρ h H ∧ Out c.K c.XI (c.E σ) ρ H (m τ h) fun b _ _ H' => Q b H'
def tDo (c : Ck) (m : Sl → Hv → R (Option Int)) : TO := fun σ H Q => ∃ ρ τ h, RelS ρ H τ σ ∧ RelH c.K ρ h H ∧ Out c.K c.XI (c.E σ) ρ H (m τ h) fun b _ _ H' => Q b H'
def OutS (c : Ck) (D : Ends) (σ : L2.St) (ρ : List Addr) (H : Hp) (r : RS) : Prop := match r with
  | .nx τ h => ∀ ρ' H' σ', Ext ρ H ρ' H' → RelH c.K ρ' h H' → RelS ρ' H' τ σ' → D.nx σ' H'
  | .bk τ h => ∀ ρ' H' σ', Ext ρ H ρ' H' → RelH c.K ρ' h H' → RelS ρ' H' τ σ' → D.bk σ' H'
  | .ct τ h => ∀ ρ' H' σ', Ext ρ H ρ' H' → RelH c.K ρ' h H' → RelS ρ' H' τ σ' → D.ct σ' H'
  | .rt d h => ∀ ρ' H' v, Ext ρ H ρ' H' → RelH c.K ρ' h H' → RelD ρ' H' d v → D.rt v H'
  | .ex k as τ h => ∀ ρ' H' σ' cls d, Ext ρ H ρ' H' → RelH c.K ρ' h H' → RelS ρ' H' τ σ' → RelX c.XI ρ' H' k as cls d → c.W cls d σ' H'
  | .bad => False
def tSs (c : Ck) (m : Sl → Hv → RS) : TS := fun D σ H => ∃ ρ τ h, RelS ρ H τ σ ∧ RelH c.K ρ h H ∧ OutS c D σ ρ H (m τ h)
theorem OutS.later {c : Ck} {D : Ends} {σ σ1 : L2.St} {ρ ρ1 : List Addr} {H H1 : Hp} {r : RS} (o : OutS c D σ ρ H r) (e : Ext ρ H ρ1 H1) : OutS c D σ1 ρ1 H1 r := by
  cases r with
  | nx τ h => exact fun ρ' H' σ' e' => o ρ' H' σ' (e.trans e')
  | bk τ h => exact fun ρ' H' σ' e' => o ρ' H' σ' (e.trans e')
  | ct τ h => exact fun ρ' H' σ' e' => o ρ' H' σ' (e.trans e')
  | rt τ h => exact fun ρ' H' σ' e' => o ρ' H' σ' (e.trans e')
  | ex k as τ h => exact fun ρ' H' σ' cls d e' => o ρ' H' σ' cls d (e.trans e')
  | bad => exact o
/-- an expression within a statement -/
theorem OutS.stm {α : Type} {c : Ck} {D : Ends} {σ : L2.St} {ρ : List Addr} {H : Hp} {r : R α} {τ : Sl} {f : α → Hv → RS} (o : OutS c D σ ρ H (r.stm τ f)) (rs : RelS ρ H τ σ) :
    Out c.K c.XI (c.E σ) ρ H r fun a h' ρ' H' => OutS c D σ ρ' H' (f a h') := by
  cases r with
  | ok a h =>
    have o' : OutS c D σ ρ H (f a h) := o
    exact fun ρ' H' e _ => o'.later e
  | ex k as h => exact fun ρ' H' cls d e rh rx => o ρ' H' σ cls d e rh (rs.mono e) rx
  | bad => exact o
theorem PE.weak {X : Cx} {e : Expr} {t t' : TE} (p : PE X e t) (h : ∀ σ H Q, t' σ H Q → t σ H Q) : PE X e t' := ⟨fun pins s σ H Q I q => p.run pins s σ H Q I (h σ H Q q)⟩
theorem PT.weak {X : Cx} {e : Expr} {t t' : TT} (p : PT X e t) (h : ∀ σ H Q, t' σ H Q → t σ H Q) : PT X e t' := ⟨fun pins s σ H Q I q => p.run pins s σ H Q I (h σ H Q q)⟩
theorem PA.weak {X : Cx} {e : List Expr} {t t' : TA} (p : PA X e t) (h : ∀ σ H Q, t' σ H Q → t σ H Q) : PA X e t' := ⟨fun ps pins s σ H Q I q => p.run ps pins s σ H Q I (h σ H Q q)⟩
theorem PS.weak {X : Cx} {e : Stmt} {t t' : TS} (p : PS X e t) (h : ∀ D σ H, t' D σ H → t D σ H) : PS X e t' := ⟨fun pins s σ H D I q => p.run pins s σ H D I (h D σ H q)⟩
theorem PSs.weak {X : Cx} {e : List Stmt} {t t' : TS} (p : PSs X e t) (h : ∀ D σ H, t' D σ H → t D σ H) : PSs X e t' := ⟨fun pins s σ H D I q => p.run pins s σ H D I (h D σ H q)⟩

/-! ### a def that is evaluated -/
/-- called with such arguments, the def at f gives what m gives; nothing is being shown as a text around it -/
structure FnG (P : Program) (w : World) (K : PySem.W.Frag) (XI : XInfo) (mg : Str → Option Value) (base : Heap) (k : Nat) (f : Addr) (fd : FuncData) (ps : List Str) (m : List D → Hv → R D) : Prop where
  run : ∀ (A : Around) (outer : List Env) (s : Shared) (H : Hp) (args : Args) (us : List Value) (vs : List V) (ds : List D) (ρ : List Addr) (h : Hv) (Q : VK) (E : XK), Room k A → A.guards = some [] → Env0 P w K mg base A outer s H →
    BindsTo s fd args (ps.zip us) → vs.length = ps.length → Vals vs us → RelDs ρ H ds vs → RelH K ρ h H → Out K XI E ρ H (m ds h) (fun d _ ρ' H' => ∀ v, RelD ρ' H' d v → Q v H') →
    codeAny (model P w) A (.call (.ref f) args) (CR (L2.CX P w) outer P w H s Q E) s
/-- THE RULE: by the body -/
theorem fnG_of {P : Program} {w : World} {K : PySem.W.Frag} {XI : XInfo} {mg : Str → Option Value} {base : Heap} {k : Nat} {f : Addr} {name qual : Str} {params : Arguments} {body : List Stmt} {scope : Scope} {dV kV doc pm cdv ct oc : Value} {an od : Option Addr}
    {osl : Array (Option Value)} {N ps : List Str} {m : List D → Hv → R D} {b : Sl → Hv → RS} (lk : K.lookup f = some ⟨oc, od, .func (PySem.W.fnOf name qual params body scope dV kV doc pm an cdv ct), osl⟩) (hcd : PySem.W.codeIn K cdv qual = true) (S : FnScope N ps scope)
    (hb : ∀ (A : Around) (outer : List Env) (s : Shared) (H : Hp) (E : XK), Room k (A.deeper (envOfC qual scope s.heap.objs.size f cdv)) → A.guards = some [] →
      PSs (cxOf (L2.CX P w) P w K mg base N qual scope f cdv A outer s H E) body (tSs ⟨K, XI, fun cl d _ H' => E cl d H'⟩ b))
    (hm : ∀ ds h, m ds h = if ds.length = ps.length then match b (ds.map some ++ List.replicate (N.length - ps.length) none) h with
      | .nx _ h' => .ok .non h'
      | .rt d h' => .ok d h'
      | .ex c as _ h' => .ex c as h'
      | _ => .bad else .bad) :
    FnG P w K XI mg base (k + 1) f (PySem.W.fnOf name qual params body scope dV kV doc pm an cdv ct) ps m := by
  refine ⟨fun A outer s H args us vs ds ρ h Q E hr hg e0 hbd hl r rd rh o => ?_⟩
  have KX : K.In s.heap := e0.mod.kin.keeps fun b o e => (e0.bs b o e).1
  have nl : s.heap.NoLimit := e0.mod.nolimit.keeps fun b o e => (e0.bs b o e).1
  have kinds : ∀ y ∈ ps.zip us, scope.names.lookup y.1 = some .local ∨ (scope.names.lookup y.1 = some .cell ∧ ((cellsFrom (s.heap.objs.size + 1) scope.names []).lookup y.1).isSome = true) := by
    intro y hy
    rcases S.par y.1 (List.of_mem_zip hy).1 with z | z
    · exact Or.inl z
    · exact Or.inr ⟨z, PySem.W.cellsFrom_some _ _ _ (Or.inl z)⟩
  refine codeAny_call_function hr.depth (KX _ _ lk) rfl S.co S.gen rfl (PySem.W.codeRec_of KX hcd) (hbd _ _ _ _ ?_)
  refine wpAny_newFunctionEnv_cells S.kind kinds fun env he s1 x => ?_
  subst he
  refine ⟨nl.keeps x.toInCall.keep, codeAny_func ?_⟩
  have I : Inv (cxOf (L2.CX P w) P w K mg base N qual scope f cdv A outer s H E) [] (L2.start N vs) H s1 := inv_start S hr.hd e0 hl r x
  have dl : ds.length = ps.length := by rw [rd.len, hl]
  have rs : RelS ρ H (ds.map some ++ List.replicate (N.length - ps.length) none) (L2.start N vs) := by
    unfold L2.start
    refine ⟨by simp [dl, hl], fun i d e => ?_⟩
    by_cases hi : i < ds.length
    · rw [List.getElem?_append_left (by simpa using hi), List.getElem?_map] at e
      cases q : ds[i]? with
      | none => rw [q] at e; cases e
      | some d' =>
        rw [q] at e
        cases e
        obtain ⟨v, e1, r1⟩ := rd.get q
        exact ⟨v, by rw [List.getElem?_append_left (by rw [List.length_map, ← rd.len]; exact hi), List.getElem?_map, e1]; rfl, r1⟩
    · rw [List.getElem?_append_right (by simpa using hi), List.getElem?_replicate] at e
      split at e <;> cases e
  rw [hm, if_pos dl] at o
  have goal : tSs ⟨K, XI, fun cl d _ H' => E cl d H'⟩ b { nx := fun _ H' => Q .non H', rt := Q } (L2.start N vs) H := by
    refine ⟨ρ, _, h, rs, rh, ?_⟩
    cases q : b (ds.map some ++ List.replicate (N.length - ps.length) none) h with
    | nx τ h' =>
      rw [q] at o
      exact fun ρ' H' σ' e rh' _ => o ρ' H' e rh' V.non rfl
    | rt d h' =>
      rw [q] at o
      exact fun ρ' H' v e rh' rv => o ρ' H' e rh' v rv
    | ex c as τ h' =>
      rw [q] at o
      exact fun ρ' H' σ' cls d e rh' _ rx => o ρ' H' cls d e rh' rx
    | bk τ h' => rw [q] at o; exact False.elim o
    | ct τ h' => rw [q] at o; exact False.elim o
    | bad => rw [q] at o; exact o
  refine wpAny_mono ((hb A outer s H E (hr.deeper _) hg).run [] s1 (L2.start N vs) H _ I goal) (fun fl s' hs => ?_) fun e s' hs => hs
  cases fl with
  | ret u =>
    obtain ⟨v, σ', H', J, rv, q⟩ := hs
    exact ⟨v, H', J.os, J.bare, J.base, J.hok, rv, q⟩
  | next =>
    obtain ⟨σ', H', J, q⟩ := hs
    exact ⟨V.non, H', J.os, J.bare, J.base, J.hok, rfl, q⟩
  | brk =>
    obtain ⟨_, _, _, q⟩ := hs
    exact False.elim q
  | cont =>
    obtain ⟨_, _, _, q⟩ := hs
    exact False.elim q
end G4

/-! G3: operators and built-in functions, by values. -/
namespace G4
open PySem PySem.Spec PyProof.Rows L2

def PostD (K : PySem.W.Frag) (XI : XInfo) (E : XK) (ρ : List Addr) (H : Hp) (r : R D) (Q : VK) : Prop := Out K XI E ρ H r fun d _ ρ' H' => ∀ v, RelD ρ' H' d v → Q v H'
section
variable {K : PySem.W.Frag} {XI : XInfo} {E : XK} {ρ : List Addr} {h : Hv} {H : Hp} {Q : VK}
theorem PostD.here {d : D} {v : V} (o : PostD K XI E ρ H (.ok d h) Q) (rh : RelH K ρ h H) (r : RelD ρ H d v) : Q v H := o ρ H (Ext.refl _ _) rh v r
/-- a new list -/
theorem PostD.newl {ds : List D} {xs : List V} (o : PostD K XI E ρ H (.ok (.ref h.length) (h ++ [.lst ds])) Q) (rh : RelH K ρ h H) (r : RelDs ρ H ds xs) : ∀ p, H p = none → Q (.ref p) (upd H p (.lst xs)) := fun p n => by
  refine o (ρ ++ [p]) _ (ext_alloc n) (rh.alloc n r) _ ⟨p, rfl, ?_⟩
  rw [List.getElem?_append_right (by rw [rh.len]; exact Nat.le_refl _), rh.len, Nat.sub_self]
  rfl
theorem PostD.mk {ds : List D} {xs : List V} (o : PostD K XI E ρ H (mk ds h) Q) (rh : RelH K ρ h H) (r : RelDs ρ H ds xs) : xs.length ≤ sizeLine ∧ ∀ p, H p = none → Q (.ref p) (upd H p (.lst xs)) := by
  unfold G4.mk at o
  split at o
  · rename_i hl
    exact ⟨by rw [← r.len, ← lim_eq]; exact hl, o.newl rh r⟩
  · exact False.elim o
/-- a new tuple -/
theorem PostD.newt {ds : List D} {xs : List V} (o : PostD K XI E ρ H (.ok (.tup ds) h) Q) (rh : RelH K ρ h H) (r : RelDs ρ H ds xs) : ∀ p, H p = none → Q (.ref p) (upd H p (.tup xs)) := fun p n =>
  o ρ _ (ext_tup n) (rh.tup n) _ ⟨p, xs, rfl, upd_same, r.mono (ext_tup n)⟩
/-- a list is written -/
theorem PostD.set {d : D} {v : V} {a : Nat} {p : Addr} {ds es : List D} {ys : List V} (o : PostD K XI E ρ H (.ok d (h.set a (.lst es))) Q) (rh : RelH K ρ h H) (q : h.lst a = some ds) (e : ρ[a]? = some p) (k : RelDs ρ H es ys)
    (r : RelD ρ H d v) : Q v (upd H p (.lst ys)) := by
  obtain ⟨xs, e1, _⟩ := rh.lst q e
  exact o ρ _ (ext_set e1) (rh.set q e k) v (r.mono (ext_set e1))
end

theorem sm_log {i : Int} (h : sm i = true) : i.natAbs.log2 < 5000 := of_decide_eq_true h
theorem small_pow {i : Int} {j : Int} (hi : sm i = true) (h0 : 0 ≤ j) (h1 : j ≤ 100) : (Builtin.Int.intBits i : Int) * j ≤ 2 ^ 27 := by
  have h := sm_log hi
  have hb : Builtin.Int.intBits i ≤ 5000 := by
    unfold Builtin.Int.intBits
    split <;> omega
  have h2 : (Builtin.Int.intBits i : Int) * j ≤ 5000 * j := Int.mul_le_mul_of_nonneg_right (by omega) h0
  omega
section
variable {X : Cx}
theorem op_powW : OpR X (binaryOp .Pow) (rI (fun i j => 0 ≤ j ∧ j ≤ 100 ∧ sm i = true) fun i j => .int (i ^ j.toNat)) :=
  opI fun _ _ _ _ _ _ _ hc q => pow_int hc.1 (small_pow hc.2.2 hc.1 hc.2.1) q
theorem ixN_idx (n : Nat) (i : Int) : ixN n i = idx n i := rfl

/-! ### binary operators -/
def rMulS : R2 := fun x y H Q => ∃ a k, x = .str a ∧ y = .int k ∧ 0 ≤ k ∧ k ≤ 1000 ∧ a.length ≤ 1000 ∧ Q (.str (Txt.mul a k)) H
theorem mulOk_le {a : Str} {k : Int} (h0 : 0 ≤ k) (h1 : k ≤ 1000) (h2 : a.length ≤ 1000) : MulOk a k := by
  refine ⟨by simp only [Bool.or_eq_false_iff, decide_eq_false_iff_not]; omega, fun c _ => ?_, fun c _ => ?_⟩
  · have : (1000 : Int) ≤ (2 ^ 63 - 1) / k := by
      rw [Int.le_ediv_iff_mul_le (by omega)]
      omega
    omega
  · have h3 : a.length * k.toNat ≤ 1000 * 1000 := Nat.mul_le_mul h2 (by omega)
    show decide (a.length * k.toNat > sizeLine) = false
    rw [decide_eq_false_iff_not, sizeLine_eq]
    omega
theorem op_mulS {X : Cx} : OpR X (binaryOp .Mult) rMulS := by
  intro pins s σ H x y u v Q I rx ry q
  obtain ⟨a, k, rfl, rfl, h0, h1, h2, q⟩ := q
  obtain ⟨t, rfl⟩ := rx
  obtain ⟨t2, rfl⟩ := ry
  exact SB.mul (mulOk_le h0 h1 h2) fun t' k' => ⟨.str _, H, I.tok _, ⟨_, rfl⟩, q⟩
def rAll2 (K : PySem.W.Frag) : O2 → R2
  | .add => fun x y H Q => (rI0 fun i j => .int (i + j)) x y H Q ∨ ((∃ i j, x = .str i ∧ y = .str j ∧ i.length + j.length ≤ sizeLine ∧ Q (.str (i ++ j)) H) ∨ rCat x y H Q)
  | .sub => rI0 fun i j => .int (i - j)
  | .mul => fun x y H Q => (rI CMulW fun i j => .int (i * j)) x y H Q ∨ (rRep x y H Q ∨ rMulS x y H Q)
  | .fdiv => rI CDivW fun i j => .int (i / j)
  | .mod => rI (fun _ j => 0 < j) fun i j => .int (i % j)
  | .pow => rI (fun i j => 0 ≤ j ∧ j ≤ 100 ∧ sm i = true) fun i j => .int (i ^ j.toNat)
def O2.py : O2 → Operator
  | .add => .Add
  | .sub => .Sub
  | .mul => .Mult
  | .fdiv => .FloorDiv
  | .mod => .Mod
  | .pow => .Pow
theorem op_all2 (o : O2) : OpR X (binaryOp o.py) (rAll2 X.K o) := by
  cases o with
  | add => exact op_add.or (op_add_str.or op_cat)
  | sub => exact op_sub
  | mul => exact op_mulW.or (op_rep.or op_mulS)
  | fdiv => exact op_fdivW
  | mod => exact op_mod
  | pow => exact op_powW
end
section
variable {K : PySem.W.Frag} {XI : XInfo} {E : XK} {ρ : List Addr} {h : Hv} {H : Hp} {Q : VK}
theorem b2_ok (o : O2) {x y : D} {v u : V} (rh : RelH K ρ h H) (rx : RelD ρ H x v) (ry : RelD ρ H y u) (q : PostD K XI E ρ H (o.ev x y h) Q) : rAll2 K o v u H Q := by
  cases o with
  | add =>
    cases x with
    | int i =>
      cases y with
      | int j =>
        have e1 : v = .int i := rx
        have e2 : u = .int j := ry
        exact .inl ⟨i, j, e1, e2, PostD.here q rh rfl⟩
      | _ => exact False.elim q
    | str a =>
      cases y with
      | str b =>
        have e1 : v = .str a := rx
        have e2 : u = .str b := ry
        simp only [O2.ev] at q
        split at q
        · rename_i hl
          exact .inr (.inl ⟨a, b, e1, e2, by rw [← lim_eq]; exact hl, PostD.here q rh rfl⟩)
        · exact False.elim q
      | _ => exact False.elim q
    | ref a =>
      cases y with
      | ref b =>
        obtain ⟨p, e1, r1⟩ := rx
        obtain ⟨p2, e2, r2⟩ := ry
        simp only [O2.ev] at q
        split at q
        · rename_i xs ys hx hy
          obtain ⟨us, u1, k1⟩ := rh.lst hx r1
          obtain ⟨ws, w1, k2⟩ := rh.lst hy r2
          obtain ⟨hl, q'⟩ := PostD.mk q rh (k1.app k2)
          rw [List.length_append] at hl
          exact .inr (.inr ⟨p, p2, us, ws, e1, e2, u1, w1, hl, q'⟩)
        · exact False.elim q
      | _ => exact False.elim q
    | _ => exact False.elim q
  | sub =>
    cases x with
    | int i =>
      cases y with
      | int j => exact ⟨i, j, rx, ry, PostD.here q rh rfl⟩
      | _ => exact False.elim q
    | _ => exact False.elim q
  | mul =>
    cases x with
    | int i =>
      cases y with
      | int j =>
        simp only [O2.ev] at q
        split at q
        · rename_i hl
          refine .inl ⟨i, j, rx, ry, ?_, PostD.here q rh rfl⟩
          have h1 := sm_log hl.1
          have h2 := sm_log hl.2
          unfold CMulW
          omega
        · exact False.elim q
      | _ => exact False.elim q
    | ref a =>
      cases y with
      | int k =>
        obtain ⟨p, e1, r1⟩ := rx
        simp only [O2.ev] at q
        split at q
        · rename_i xs hx
          split at q
          · rename_i hk
            obtain ⟨us, u1, k1⟩ := rh.lst hx r1
            obtain ⟨hl, q'⟩ := PostD.mk q rh (k1.rep k.toNat)
            rw [List.length_flatten, List.map_replicate, List.sum_replicate_nat, Nat.mul_comm] at hl
            exact .inr (.inl ⟨p, k, us, e1, ry, u1, hk.1, hk.2, hl, q'⟩)
          · exact False.elim q
        · exact False.elim q
      | _ => exact False.elim q
    | str a =>
      cases y with
      | int k =>
        simp only [O2.ev] at q
        split at q
        · rename_i hk
          exact .inr (.inr ⟨a, k, rx, ry, hk.1, hk.2.1, hk.2.2, PostD.here q rh rfl⟩)
        · exact False.elim q
      | _ => exact False.elim q
    | _ => exact False.elim q
  | fdiv =>
    cases x with
    | int i =>
      cases y with
      | int j =>
        simp only [O2.ev] at q
        split at q
        · rename_i hl
          refine ⟨i, j, rx, ry, ⟨hl.1, ?_⟩, PostD.here q rh rfl⟩
          have h2 := sm_log hl.2
          omega
        · exact False.elim q
      | _ => exact False.elim q
    | _ => exact False.elim q
  | mod =>
    cases x with
    | int i =>
      cases y with
      | int j =>
        simp only [O2.ev] at q
        split at q
        · rename_i hl
          exact ⟨i, j, rx, ry, hl, PostD.here q rh rfl⟩
        · exact False.elim q
      | _ => exact False.elim q
    | _ => exact False.elim q
  | pow =>
    cases x with
    | int i =>
      cases y with
      | int j =>
        simp only [O2.ev] at q
        split at q
        · rename_i hl
          exact ⟨i, j, rx, ry, hl, PostD.here q rh rfl⟩
        · exact False.elim q
      | _ => exact False.elim q
    | _ => exact False.elim q
/-! ### in place -/
def rIp2 (K : PySem.W.Frag) : O2 → R2
  | .add => fun x y H Q => (rI0 fun i j => .int (i + j)) x y H Q ∨ ((∃ i j, x = .str i ∧ y = .str j ∧ i.length + j.length ≤ sizeLine ∧ Q (.str (i ++ j)) H) ∨ rExt2 x y H Q)
  | .sub => rI0 fun i j => .int (i - j)
  | _ => fun _ _ _ _ => False
theorem ip_all2 {X : Cx} (o : O2) : OpR X (inplaceOp o.py) (rIp2 X.K o) := by
  cases o with
  | add => exact iop_add.or (iop_add_str.or iop_ext)
  | sub => exact iop_sub
  | _ => exact fun _ _ _ _ _ _ _ _ _ _ _ _ z => z.elim
theorem ip_ok (o : O2) {x y : D} {v u : V} (rh : RelH K ρ h H) (rx : RelD ρ H x v) (ry : RelD ρ H y u) (q : PostD K XI E ρ H (o.ip x y h) Q) : rIp2 K o v u H Q := by
  cases o with
  | add =>
    cases x with
    | int i =>
      cases y with
      | int j => exact .inl ⟨i, j, rx, ry, PostD.here q rh rfl⟩
      | _ => exact False.elim q
    | str a =>
      cases y with
      | str b =>
        simp only [O2.ip] at q
        split at q
        · rename_i hl
          exact .inr (.inl ⟨a, b, rx, ry, by rw [← lim_eq]; exact hl, PostD.here q rh rfl⟩)
        · exact False.elim q
      | _ => exact False.elim q
    | ref a =>
      cases y with
      | ref b =>
        obtain ⟨p, e1, r1⟩ := rx
        obtain ⟨p2, e2, r2⟩ := ry
        simp only [O2.ip] at q
        split at q
        · rename_i xs ys hx hy
          split at q
          · rename_i hl
            obtain ⟨us, u1, k1⟩ := rh.lst hx r1
            obtain ⟨ws, w1, k2⟩ := rh.lst hy r2
            refine .inr (.inr ⟨p, p2, us, ws, e1, e2, u1, w1, ?_, PostD.set q rh hx r1 (k1.app k2) ⟨p, rfl, r1⟩⟩)
            rw [← k1.len, ← k2.len, ← lim_eq]; exact hl.1
          · exact False.elim q
        · exact False.elim q
      | _ => exact False.elim q
    | _ => exact False.elim q
  | sub =>
    cases x with
    | int i =>
      cases y with
      | int j => exact ⟨i, j, rx, ry, PostD.here q rh rfl⟩
      | _ => exact False.elim q
    | _ => exact False.elim q
  | _ => exact False.elim q
end

/-! ### data as a whole -/
section
variable {K : PySem.W.Frag} {ρ : List Addr} {h : Hv} {H : Hp}
theorem dat_ok (rh : RelH K ρ h H) : ∀ (n : Nat) (d : D) (v : V) (p : PyData), RelD ρ H d v → dat n h d = some p → Dp K H v p
  | 0, _, _, _, _, e => by simp [dat] at e
  | n + 1, d, v, p, r, e => by
    have all : ∀ (xs : List D) (vs : List V) (ds : List PyData), RelDs ρ H xs vs → optAll (dat n h) xs = some ds → DpAll K H vs ds := by
      intro xs
      induction xs with
      | nil =>
        intro vs ds r e
        cases r
        simp [optAll] at e
        subst e
        exact .nil
      | cons x xs ih =>
        intro vs ds r e
        obtain ⟨w, ws, rfl, r1, rs⟩ := r
        simp only [optAll] at e
        split at e
        · rename_i y hy
          split at e
          · rename_i ys hys
            cases e
            exact .cons (dat_ok rh n x w y r1 hy) (ih ws ys rs hys)
          · cases e
        · cases e
    cases d with
    | non => have e1 : v = .non := r; subst e1; simp [dat] at e; subst e; exact .non
    | bl b => have e1 : v = .bl b := r; subst e1; simp [dat] at e; subst e; exact .bl b
    | int i => have e1 : v = .int i := r; subst e1; simp [dat] at e; subst e; exact .int i
    | str x => have e1 : v = .str x := r; subst e1; simp [dat] at e; subst e; exact .str x
    | tup xs =>
      obtain ⟨a, vs, e1, e2, r1⟩ := r
      subst e1
      simp only [dat] at e
      split at e
      · rename_i ds hds
        cases e
        exact .tup (SqT.of e2) (all xs vs ds r1 hds)
      · cases e
    | ref a =>
      obtain ⟨q, e1, r1⟩ := r
      subst e1
      simp only [dat] at e
      split at e
      · rename_i xs hx
        split at e
        · rename_i ds hds
          cases e
          obtain ⟨vs, s1, s2⟩ := rh.get hx r1
          exact .lst s1 (all xs vs ds s2 hds)
        · cases e
      · cases e
end

/-! ### comparisons -/
def rEqA (K : PySem.W.Frag) : R2 := fun x y H Q => rEq x y H Q ∨ rEqD K x y H Q
def rNeA (K : PySem.W.Frag) : R2 := fun x y H Q => rNe x y H Q ∨ rNeD K x y H Q
def rInS : R2 := fun x y H Q => ∃ (c : Nat) (z : Str), x = .str ⟨#[c]⟩ ∧ y = .str z ∧ Q (.bl (decide (c ∈ z.cps.toList))) H
def rNinS : R2 := fun x y H Q => ∃ (c : Nat) (z : Str), x = .str ⟨#[c]⟩ ∧ y = .str z ∧ Q (.bl (!decide (c ∈ z.cps.toList))) H
def rInA (K : PySem.W.Frag) : R2 := fun x y H Q => rIn K false x y H Q ∨ (rInD K x y H Q ∨ rInS x y H Q)
def rNinA (K : PySem.W.Frag) : R2 := fun x y H Q => rIn K true x y H Q ∨ (rNotInD K x y H Q ∨ rNinS x y H Q)
def rCmpA (K : PySem.W.Frag) : Oc → R2
  | .eq => rEqA K
  | .ne => rNeA K
  | .lt => rI0 fun i j => .bl (decide (i < j))
  | .le => rI0 fun i j => .bl (decide (i ≤ j))
  | .gt => rI0 fun i j => .bl (decide (j < i))
  | .ge => rI0 fun i j => .bl (decide (j ≤ i))
  | .inn => rInA K
  | .nin => rNinA K
def Oc.py : Oc → CmpOp
  | .eq => .Eq
  | .ne => .NotEq
  | .lt => .Lt
  | .le => .LtE
  | .gt => .Gt
  | .ge => .GtE
  | .inn => .In
  | .nin => .NotIn
theorem op_cmpA {X : Cx} (hu : X.A.units + 65 < cLine) (o : Oc) : OpR X (compareOp o.py) (rCmpA X.K o) := by
  cases o with
  | eq => exact op_eq.or (op_eqD (by omega))
  | ne => exact op_ne.or (op_neD (by omega))
  | lt => exact op_lt
  | le => exact op_le
  | gt => exact op_gt
  | ge => exact op_ge
  | inn => exact op_in_seq.or ((op_inD hu).or op_in_sign)
  | nin => exact op_notIn_seq.or ((op_notInD hu).or op_notIn_sign)
section
variable {K : PySem.W.Frag} {ρ : List Addr} {h : Hv} {H : Hp} {Q : VK}
/-- == by values, whatever is asked of the answer -/
theorem eq_ok {x y : D} {v u : V} {b : Bool} (rh : RelH K ρ h H) (rx : RelD ρ H x v) (ry : RelD ρ H y u) (e : eqD h x y = some b) :
    (scal v u = true ∧ decide (v = u) = b) ∨ ∃ d f, Dp K H v d ∧ Dp K H u f ∧ SeqAt.shaped d = true ∧ SeqAt.shaped f = true ∧ PyData.eqv d f = b := by
  have deep : (match dat dp h x, dat dp h y with
      | some d, some e => if SeqAt.shaped d = true ∧ SeqAt.shaped e = true then some (PyData.eqv d e) else none
      | _, _ => none) = some b → (scal v u = true ∧ decide (v = u) = b) ∨ ∃ d f, Dp K H v d ∧ Dp K H u f ∧ SeqAt.shaped d = true ∧ SeqAt.shaped f = true ∧ PyData.eqv d f = b := fun z => by
    split at z
    · rename_i d f hd hf
      split at z
      · rename_i hs
        cases z
        exact .inr ⟨d, f, dat_ok rh _ _ _ _ rx hd, dat_ok rh _ _ _ _ ry hf, hs.1, hs.2, rfl⟩
      · cases z
    · cases z
  cases x with
  | int i =>
    cases y with
    | int j =>
      have e1 : v = .int i := rx
      have e2 : u = .int j := ry
      subst e1 e2
      simp only [eqD] at e
      cases e
      exact .inl ⟨rfl, by simp⟩
    | str j =>
      have e1 : v = .int i := rx
      have e2 : u = .str j := ry
      subst e1 e2
      simp only [eqD] at e
      cases e
      exact .inl ⟨rfl, by simp⟩
    | non =>
      have e1 : v = .int i := rx
      have e2 : u = .non := ry
      subst e1 e2
      simp only [eqD] at e
      cases e
      exact .inl ⟨rfl, by simp⟩
    | _ => exact deep e
  | str i =>
    cases y with
    | int j =>
      have e1 : v = .str i := rx
      have e2 : u = .int j := ry
      subst e1 e2
      simp only [eqD] at e
      cases e
      exact .inl ⟨rfl, by simp⟩
    | str j =>
      have e1 : v = .str i := rx
      have e2 : u = .str j := ry
      subst e1 e2
      simp only [eqD] at e
      cases e
      exact .inl ⟨rfl, by simp⟩
    | non =>
      have e1 : v = .str i := rx
      have e2 : u = .non := ry
      subst e1 e2
      simp only [eqD] at e
      cases e
      exact .inl ⟨rfl, by simp⟩
    | _ => exact deep e
  | non =>
    cases y with
    | int j =>
      have e1 : v = .non := rx
      have e2 : u = .int j := ry
      subst e1 e2
      simp only [eqD] at e
      cases e
      exact .inl ⟨rfl, by simp⟩
    | str j =>
      have e1 : v = .non := rx
      have e2 : u = .str j := ry
      subst e1 e2
      simp only [eqD] at e
      cases e
      exact .inl ⟨rfl, by simp⟩
    | non =>
      have e1 : v = .non := rx
      have e2 : u = .non := ry
      subst e1 e2
      simp only [eqD] at e
      cases e
      exact .inl ⟨rfl, by simp⟩
    | _ => exact deep e
  | bl i =>
    cases y with
    | bl j =>
      have e1 : v = .bl i := rx
      have e2 : u = .bl j := ry
      subst e1 e2
      simp only [eqD] at e
      cases e
      exact .inl ⟨rfl, by simp⟩
    | _ => exact deep e
  | tup i => exact deep e
  | ref i => exact deep e
theorem flat_ok {x : D} {v : V} (r : RelD ρ H x v) (f : flatD x = true) : flatV v = true := by
  cases x with
  | non => have e1 : v = .non := r; subst e1; rfl
  | bl b => have e1 : v = .bl b := r; subst e1; rfl
  | int i => have e1 : v = .int i := r; subst e1; rfl
  | str x => have e1 : v = .str x := r; subst e1; rfl
  | tup xs => cases f
  | ref a => cases f
theorem flats_ok : ∀ {xs : List D} {vs : List V}, RelDs ρ H xs vs → xs.all flatD = true → vs.all flatV = true
  | [], _, r, _ => by cases r; rfl
  | x :: xs, _, r, f => by
    obtain ⟨w, ws, rfl, r1, rs⟩ := r
    rw [List.all_cons, Bool.and_eq_true] at f
    rw [List.all_cons, flat_ok r1 f.1, flats_ok rs f.2]; rfl
theorem eqF_ok {x y : D} {v u : V} (rx : RelD ρ H x v) (ry : RelD ρ H y u) (f : flatD x = true) (g : flatD y = true) : eqV v u = eqF x y := by
  cases x <;> first
    | (cases f; done)
    | (cases y <;> first
        | (cases g; done)
        | (have e1 := rx
           have e2 := ry
           simp only [RelD] at e1 e2
           subst e1 e2
           first
             | rfl
             | (simp only [eqV, eqF]; rw [Bool.eq_iff_iff]; simp)))
theorem anyF_ok {x : D} {v : V} (rx : RelD ρ H x v) (f : flatD x = true) : ∀ {xs : List D} {vs : List V}, RelDs ρ H xs vs → xs.all flatD = true → inV v vs = xs.any fun z => eqF z x
  | [], _, r, _ => by cases r; rfl
  | y :: xs, _, r, g => by
    obtain ⟨w, ws, rfl, r1, rs⟩ := r
    rw [List.all_cons, Bool.and_eq_true] at g
    have ih := anyF_ok rx f rs g.2
    unfold inV at ih ⊢
    rw [List.any_cons, List.any_cons, eqF_ok r1 rx g.1 f, ih]
theorem has_ok {x y : D} {v u : V} {b : Bool} (rh : RelH K ρ h H) (rx : RelD ρ H x v) (ry : RelD ρ H y u) (e : hasD h x y = some b) :
    (∃ p xs, u = .ref p ∧ (SqL K H p xs ∨ SqT K H p xs) ∧ flatV v = true ∧ xs.all flatV = true ∧ inV v xs = b) ∨
      (∃ d ds, Dp K H v d ∧ Dp K H u (.list ds) ∧ SeqAt.shaped d = true ∧ SeqAt.shaped (.list ds) = true ∧ (ds.any fun z => PyData.eqv z d) = b) ∨
      ∃ (c : Nat) (z : Str), v = .str ⟨#[c]⟩ ∧ u = .str z ∧ decide (c ∈ z.cps.toList) = b := by
  cases y with
  | str z =>
    simp only [hasD] at e
    split at e
    · rename_i a
      split at e
      · rename_i c hc
        cases e
        have ea : a = ⟨#[c]⟩ := by
          cases a with
          | mk cps =>
            have : cps = #[c] := by rw [← Array.toArray_toList (xs := cps)]; exact congrArg List.toArray hc
            rw [this]
        exact .inr (.inr ⟨c, z, by rw [← ea]; exact rx, ry, rfl⟩)
      · cases e
    · cases e
  | tup ys =>
    obtain ⟨p, xs, e1, e2, r2⟩ := ry
    simp only [hasD] at e
    split at e
    · rename_i hf
      cases e
      exact .inl ⟨p, xs, e1, .inr (SqT.of e2), flat_ok rx hf.1, flats_ok r2 hf.2, anyF_ok rx hf.1 r2 hf.2⟩
    · cases e
  | ref a =>
    obtain ⟨p, e1, e2⟩ := ry
    simp only [hasD] at e
    split at e
    · rename_i ys hys
      obtain ⟨xs, s1, s2⟩ := rh.get hys e2
      split at e
      · rename_i hf
        cases e
        exact .inl ⟨p, xs, e1, .inl s1, flat_ok rx hf.1, flats_ok s2 hf.2, anyF_ok rx hf.1 s2 hf.2⟩
      · split at e
        · rename_i d ds hd hds
          split at e
          · rename_i hs
            cases e
            exact .inr (.inl ⟨d, ds, dat_ok rh _ _ _ _ rx hd, dat_ok rh _ (.ref a) u _ ⟨p, e1, e2⟩ hds, hs.1, hs.2, rfl⟩)
          · cases e
        · cases e
    · cases e
  | _ => cases e
theorem cmp_ok (o : Oc) {x y : D} {v u : V} {b : Bool} (rh : RelH K ρ h H) (rx : RelD ρ H x v) (ry : RelD ρ H y u) (e : o.ev x y h = some b) (q : Q (.bl b) H) : rCmpA K o v u H Q := by
  have int2 : ∀ {i j : Int}, x = .int i → y = .int j → v = .int i ∧ u = .int j := fun hx hy => by subst hx hy; exact ⟨rx, ry⟩
  cases o with
  | eq =>
    rcases eq_ok rh rx ry e with ⟨h1, h2⟩ | ⟨d, f, h1, h2, h3, h4, h5⟩
    · exact .inl ⟨h1, by rw [h2]; exact q⟩
    · exact .inr ⟨d, f, h1, h2, h3, h4, by rw [h5]; exact q⟩
  | ne =>
    simp only [Oc.ev, Option.map_eq_some_iff] at e
    obtain ⟨k, e, rfl⟩ := e
    rcases eq_ok rh rx ry e with ⟨h1, h2⟩ | ⟨d, f, h1, h2, h3, h4, h5⟩
    · exact .inl ⟨h1, by rw [h2]; exact q⟩
    · exact .inr ⟨d, f, h1, h2, h3, h4, by rw [h5]; exact q⟩
  | lt =>
    simp only [Oc.ev] at e
    split at e
    · cases e; exact ⟨_, _, (int2 rfl rfl).1, (int2 rfl rfl).2, q⟩
    · cases e
  | le =>
    simp only [Oc.ev] at e
    split at e
    · cases e; exact ⟨_, _, (int2 rfl rfl).1, (int2 rfl rfl).2, q⟩
    · cases e
  | gt =>
    simp only [Oc.ev] at e
    split at e
    · cases e; exact ⟨_, _, (int2 rfl rfl).1, (int2 rfl rfl).2, q⟩
    · cases e
  | ge =>
    simp only [Oc.ev] at e
    split at e
    · cases e; exact ⟨_, _, (int2 rfl rfl).1, (int2 rfl rfl).2, q⟩
    · cases e
  | inn =>
    rcases has_ok rh rx ry e with ⟨p, xs, h1, h2, h3, h4, h5⟩ | ⟨d, ds, h1, h2, h3, h4, h5⟩ | ⟨cc, z, h1, h2, h3⟩
    · exact .inl ⟨p, xs, h1, h2, h3, h4, by simp only [Bool.false_eq_true, if_false]; rw [h5]; exact q⟩
    · exact .inr (.inl ⟨d, ds, h1, h2, h3, h4, by rw [h5]; exact q⟩)
    · exact .inr (.inr ⟨cc, z, h1, h2, by rw [h3]; exact q⟩)
  | nin =>
    simp only [Oc.ev, Option.map_eq_some_iff] at e
    obtain ⟨k, e, rfl⟩ := e
    rcases has_ok rh rx ry e with ⟨p, xs, h1, h2, h3, h4, h5⟩ | ⟨d, ds, h1, h2, h3, h4, h5⟩ | ⟨cc, z, h1, h2, h3⟩
    · exact .inl ⟨p, xs, h1, h2, h3, h4, by simp only [if_true]; rw [h5]; exact q⟩
    · exact .inr (.inl ⟨d, ds, h1, h2, h3, h4, by rw [h5]; exact q⟩)
    · exact .inr (.inr ⟨cc, z, h1, h2, by rw [h3]; exact q⟩)
theorem tru_okD {x : D} {v : V} {b : Bool} (rh : RelH K ρ h H) (rx : RelD ρ H x v) (e : tru x h = some b) : TruV K v H b := by
  cases x with
  | non => have e1 : v = .non := rx; subst e1; simp only [tru] at e; cases e; rfl
  | bl k => have e1 : v = .bl k := rx; subst e1; simp only [tru] at e; cases e; rfl
  | int i =>
    have e1 : v = .int i := rx
    subst e1
    simp only [tru] at e
    cases e
    show decide (i ≠ 0) = (i != 0)
    rw [bne, Bool.beq_eq_decide_eq, decide_not]
  | str x => cases e
  | tup xs =>
    obtain ⟨p, vs, e1, e2, r⟩ := rx
    subst e1
    simp only [tru] at e
    cases e
    exact .inr (.inl ⟨vs, SqT.of e2, by rw [r.nil_iff]⟩)
  | ref a =>
    obtain ⟨p, e1, e2⟩ := rx
    subst e1
    simp only [tru, Option.map_eq_some_iff] at e
    obtain ⟨xs, hx, rfl⟩ := e
    obtain ⟨vs, s1, s2⟩ := rh.get hx e2
    exact .inl ⟨vs, s1, by rw [s2.nil_iff]⟩
end
end G4

/-! G5: items, slices, built-in functions, methods, by values. -/
namespace G4
open PySem PySem.Spec PyProof.Rows L2

section
variable {K : PySem.W.Frag} {XI : XInfo} {E : XK} {ρ : List Addr} {h : Hv} {H : Hp} {Q : VK}
theorem atI_rel {xs : List D} {vs : List V} {i : Int} {d : D} (r : RelDs ρ H xs vs) (e : ((idx xs.length i).bind fun j => xs[j]?) = some d) : ∃ v, atI vs i = some v ∧ RelD ρ H d v := by
  unfold atI
  rw [ixN_idx, ← r.len]
  cases q : idx xs.length i with
  | none => rw [q] at e; cases e
  | some j =>
    rw [q] at e
    exact r.get e
theorem item_ok {x y : D} {v u : V} (rh : RelH K ρ h H) (rx : RelD ρ H x v) (ry : RelD ρ H y u) (q : PostD K XI E ρ H (itemD x y h) Q) : rIx K v u H Q := by
  cases y with
  | int i =>
    cases x with
    | tup xs =>
      obtain ⟨p, vs, e1, e2, r⟩ := rx
      simp only [itemD] at q
      split at q
      · rename_i d hd
        obtain ⟨w, w1, w2⟩ := atI_rel r hd
        exact .inr (.inl ⟨p, vs, i, w, e1, ry, SqT.of e2, w1, q.here rh w2⟩)
      · exact False.elim q
    | ref a =>
      obtain ⟨p, e1, e2⟩ := rx
      simp only [itemD] at q
      split at q
      · rename_i xs hx
        obtain ⟨vs, s1, s2⟩ := rh.get hx e2
        split at q
        · rename_i d hd
          obtain ⟨w, w1, w2⟩ := atI_rel s2 hd
          exact .inl ⟨p, vs, i, w, e1, ry, s1, w1, q.here rh w2⟩
        · exact False.elim q
      · exact False.elim q
    | str z =>
      simp only [itemD] at q
      split at q
      · rename_i hz
        split at q
        · rename_i c hc
          exact .inr (.inr ⟨z, i, c, rx, ry, by rw [← lim_eq]; exact hz, hc, q.here rh rfl⟩)
        · exact False.elim q
      · exact False.elim q
    | _ => exact False.elim q
  | _ => cases x <;> exact False.elim q
theorem cut_rel {xs : List D} {vs : List V} {lo hi : Option Int} (r : RelDs ρ H xs vs) : RelDs ρ H (cut xs lo hi) (cutV vs lo hi) := by
  unfold cut cutV
  rw [← r.len]
  exact (r.drop _).take _
def rSlA (K : PySem.W.Frag) : V → Option Int → Option Int → Hp → VK → Prop := fun x lo hi H Q => rSlL K x lo hi H Q ∨ rSlS x lo hi H Q
theorem slice_ok {x : D} {v : V} {lo hi : Option Int} (rh : RelH K ρ h H) (rx : RelD ρ H x v) (q : PostD K XI E ρ H (sliceD x lo hi h) Q) : rSlA K v lo hi H Q := by
  cases x with
  | str z =>
    simp only [sliceD] at q
    split at q
    · rename_i hz
      exact .inr ⟨z, rx, by rw [← lim_eq]; exact hz, q.here rh rfl⟩
    · exact False.elim q
  | ref a =>
    obtain ⟨p, e1, e2⟩ := rx
    simp only [sliceD] at q
    split at q
    · rename_i xs hx
      obtain ⟨vs, s1, s2⟩ := rh.get hx e2
      exact .inl ⟨p, vs, e1, s1, q.newl rh (cut_rel s2)⟩
    · exact False.elim q
  | _ => exact False.elim q
end

/-! ### built-in functions -/
theorem maxI_is : ∀ (n : Int) (ns : List Int), maxI (n :: ns) ∈ n :: ns ∧ ∀ y ∈ n :: ns, y ≤ maxI (n :: ns)
  | n, [] => ⟨by simp [maxI], fun y hy => by simp at hy; subst hy; simp [maxI]⟩
  | n, m :: ns => by
    obtain ⟨h1, h2⟩ := maxI_is m ns
    simp only [maxI]
    split
    · rename_i hg
      refine ⟨List.mem_cons_of_mem _ h1, fun y hy => ?_⟩
      rcases List.mem_cons.mp hy with rfl | hy
      · omega
      · exact h2 y hy
    · rename_i hg
      refine ⟨List.mem_cons_self, fun y hy => ?_⟩
      rcases List.mem_cons.mp hy with rfl | hy
      · exact Int.le_refl _
      · have := h2 y hy
        omega
theorem minI_is : ∀ (n : Int) (ns : List Int), minI (n :: ns) ∈ n :: ns ∧ ∀ y ∈ n :: ns, minI (n :: ns) ≤ y
  | n, [] => ⟨by simp [minI], fun y hy => by simp at hy; subst hy; simp [minI]⟩
  | n, m :: ns => by
    obtain ⟨h1, h2⟩ := minI_is m ns
    simp only [minI]
    split
    · rename_i hg
      refine ⟨List.mem_cons_of_mem _ h1, fun y hy => ?_⟩
      rcases List.mem_cons.mp hy with rfl | hy
      · omega
      · exact h2 y hy
    · rename_i hg
      refine ⟨List.mem_cons_self, fun y hy => ?_⟩
      rcases List.mem_cons.mp hy with rfl | hy
      · exact Int.le_refl _
      · have := h2 y hy
        omega
def rRepr (K : PySem.W.Frag) : List V → Hp → VK → Prop := fun xs H Q => ∃ v p, xs = [v] ∧ Dp K H v p ∧ p.showable = true ∧ p.hasDict = false ∧ p.depth ≤ 12 ∧ p.shown.length ≤ sizeLine ∧ Q (.str p.shown) H
theorem call_reprA {X : Cx} (hg : X.A.guards = some []) (hu : X.A.units + 64 < cLine) : CallR X (.builtin "repr") (rRepr X.K) := by
  intro pins s σ H vs us Q I r q
  obtain ⟨v, p, rfl, hd, hs, hn, hdp, hl, q⟩ := q
  obtain ⟨u, rfl, ru⟩ := vals1 r
  cases hd with
  | non =>
    cases ru
    exact P.repr_of_none ⟨.str _, H, I.tok _, ⟨_, rfl⟩, q⟩
  | bl b =>
    cases ru
    exact P.repr_of_bool ⟨.str _, H, I.tok _, ⟨_, rfl⟩, q⟩
  | int i =>
    obtain ⟨t, rfl⟩ := ru
    exact P.repr_of_int (of_decide_eq_true hs) ⟨.str _, H, I.tok _, ⟨_, rfl⟩, q⟩
  | str x =>
    obtain ⟨t, rfl⟩ := ru
    exact P.repr_of_str ⟨.str _, H, I.tok _, ⟨_, rfl⟩, q⟩ hl
  | lst h1 h2 =>
    obtain ⟨as, rd⟩ := Dp.reads I _ _ u (.lst h1 h2) ru
    cases ru
    exact repr_of_reads' rd hs (fun z => by rw [hn] at z; cases z) hg (by omega) (fun _ _ e => e) (fun h' u' tk k => ⟨.str _, H, I.kept (t' := tk) k, ⟨_, rfl⟩, q⟩) hl
  | tup h1 h2 =>
    obtain ⟨as, rd⟩ := Dp.reads I _ _ u (.tup h1 h2) ru
    cases ru
    exact repr_of_reads' rd hs (fun z => by rw [hn] at z; cases z) hg (by omega) (fun _ _ e => e) (fun h' u' tk k => ⟨.str _, H, I.kept (t' := tk) k, ⟨_, rfl⟩, q⟩) hl
theorem strs_rel {ρ : List Addr} {H : Hp} : ∀ ys : List Str, RelDs ρ H (ys.map D.str) (ys.map V.str)
  | [] => rfl
  | y :: ys => ⟨_, _, rfl, rfl, strs_rel ys⟩
theorem strs_of {ρ : List Addr} {H : Hp} : ∀ {ds : List D} {vs : List V} {ns : List Str}, RelDs ρ H ds vs → optAll dStr ds = some ns → vs = ns.map V.str
  | [], _, ns, h, e => by
    cases h
    simp [optAll] at e; subst e; rfl
  | d :: ds, _, ns, h, e => by
    obtain ⟨w, ws, rfl, r, rs⟩ := h
    cases d with
    | str i =>
      have hw : w = .str i := r
      subst hw
      simp only [optAll, dStr] at e
      cases q : optAll dStr ds with
      | none => rw [q] at e; cases e
      | some ms =>
        rw [q] at e
        cases e
        rw [strs_of rs q]
        rfl
    | _ => simp [optAll, dStr] at e
def Bu.py : Bu → Str
  | .abs => "abs"
  | .max => "max"
  | .min => "min"
  | .len => "len"
  | .int => "int"
  | .sum => "sum"
  | .any => "any"
  | .all => "all"
  | .list => "list"
  | .tuple => "tuple"
  | .repr => "repr"
  | .divmod => "divmod"
  | .str => "str"
def Bu.fn : Bu → Value
  | .int => .type "int"
  | .list => .type "list"
  | .tuple => .type "tuple"
  | .abs => .builtin "abs"
  | .max => .builtin "max"
  | .min => .builtin "min"
  | .len => .builtin "len"
  | .sum => .builtin "sum"
  | .any => .builtin "any"
  | .all => .builtin "all"
  | .repr => .builtin "repr"
  | .divmod => .builtin "divmod"
  | .str => .type "str"
def Bu.isTy : Bu → Bool
  | .int => true
  | .list => true
  | .tuple => true
  | .str => true
  | _ => false
theorem Bu.boot (b : Bu) : bootBuiltins b.py = some b.fn := by cases b <;> decide +kernel
theorem Bu.nm (b : Bu) : b.py ≠ "__name__" := by cases b <;> decide
theorem Bu.db (b : Bu) : (b.py == ("__debug__" : Str)) = false := by cases b <;> decide
def rBu (K : PySem.W.Frag) : Bu → List V → Hp → VK → Prop
  | .abs => fun xs H Q => ∃ i, xs = [.int i] ∧ Q (.int (if i < 0 then -i else i)) H
  | .max => fun xs H Q => (∃ i j, xs = [.int i, .int j] ∧ Q (.int (if j > i then j else i)) H) ∨ rMax K xs H Q
  | .min => fun xs H Q => (∃ i j, xs = [.int i, .int j] ∧ Q (.int (if j < i then j else i)) H) ∨ rMin K xs H Q
  | .len => fun xs H Q => ∃ x n, xs = [x] ∧ LenV K x H n ∧ Q (.int n) H
  | .int => fun xs H Q => ((∃ i, xs = [.int i] ∧ Q (.int i) H) ∨ ∃ k, xs = [.bl k] ∧ Q (.int (if k then 1 else 0)) H) ∨ ∃ a n, xs = [.str a] ∧ PySem.intText? a = some n ∧ a.length ≤ 640 ∧ Q (.int n) H
  | .str => fun xs H Q => (∃ i, xs = [.int i] ∧ i.natAbs.log2 < 1920 ∧ Q (.str (toString i)) H) ∨ ∃ a, xs = [.str a] ∧ Q (.str a) H
  | .sum => rSum K
  | .any => rAny K
  | .all => rAll K
  | .list => fun xs H Q => ∃ p ys, xs = [.ref p] ∧ (SqL K H p ys ∨ SqT K H p ys) ∧ ∀ l, H l = none → Q (.ref l) (upd H l (.lst ys))
  | .tuple => fun xs H Q => ∃ p ys, xs = [.ref p] ∧ ((SqL K H p ys ∧ ∀ l, H l = none → Q (.ref l) (upd H l (.tup ys))) ∨ (SqT K H p ys ∧ Q (.ref p) H))
  | .repr => rRepr K
  | .divmod => fun xs H Q => ∃ i j, xs = [.int i, .int j] ∧ CDiv i j ∧ ∀ p, H p = none → Q (.ref p) (upd H p (.tup [.int (i / j), .int (i % j)]))
theorem call_bu {X : Cx} (hc : X.calm = true) (hg : X.A.guards = some []) (hu : X.A.units + 64 < cLine) (b : Bu) : CallR X b.fn (rBu X.K b) := by
  cases b with
  | abs => exact call_abs
  | max => exact (call_max2 hc).or (cr_max hc)
  | min => exact (call_min2 hc).or (cr_min hc)
  | len => exact call_len
  | int => exact call_int1.or call_int_str
  | str => exact call_str_int.or SkE.call_str_str
  | sum => exact cr_sum hc
  | any => exact cr_any hc
  | all => exact cr_all hc
  | list => exact call_list_of
  | tuple => exact call_tuple_of
  | repr => exact call_reprA hg hu
  | divmod => exact call_divmod
section
variable {K : PySem.W.Frag} {XI : XInfo} {E : XK} {ρ : List Addr} {h : Hv} {H : Hp} {Q : VK}
theorem one_rel {d : D} {vs : List V} (r : RelDs ρ H [d] vs) : ∃ v, vs = [v] ∧ RelD ρ H d v := by
  obtain ⟨w, ws, rfl, r1, rs⟩ := r
  cases rs
  exact ⟨w, rfl, r1⟩
theorem two_rel {d e : D} {vs : List V} (r : RelDs ρ H [d, e] vs) : ∃ v u, vs = [v, u] ∧ RelD ρ H d v ∧ RelD ρ H e u := by
  obtain ⟨w, ws, rfl, r1, rs⟩ := r
  obtain ⟨u, rfl, r2⟩ := one_rel rs
  exact ⟨w, u, rfl, r1, r2⟩
theorem bu_ok (b : Bu) {as : List D} {vs : List V} (rh : RelH K ρ h H) (r : RelDs ρ H as vs) (q : PostD K XI E ρ H (b.ev as h) Q) : rBu K b vs H Q := by
  unfold Bu.ev at q
  split at q
  · obtain ⟨v, rfl, e⟩ := one_rel r
    have e' : v = .int _ := e
    subst e'
    exact ⟨_, rfl, q.here rh rfl⟩
  · obtain ⟨v, u, rfl, e, f⟩ := two_rel r
    have e' : v = .int _ := e
    have f' : u = .int _ := f
    subst e' f'
    exact .inl ⟨_, _, rfl, q.here rh rfl⟩
  · obtain ⟨v, u, rfl, e, f⟩ := two_rel r
    have e' : v = .int _ := e
    have f' : u = .int _ := f
    subst e' f'
    exact .inl ⟨_, _, rfl, q.here rh rfl⟩
  · obtain ⟨v, rfl, p, rfl, e2⟩ := one_rel r
    split at q
    · rename_i xs hx
      obtain ⟨us, s1, s2⟩ := rh.get hx e2
      split at q
      · rename_i n ns hn
        have e3 := s2.ints hn
        subst e3
        refine .inr ⟨p, n :: ns, rfl, s1, by simp, fun m h1 h2 => ?_⟩
        have hm := maxI_is n ns
        have : m = maxI (n :: ns) := Int.le_antisymm (hm.2 m h1) (h2 _ hm.1)
        rw [this]
        exact q.here rh rfl
      · exact False.elim q
    · exact False.elim q
  · obtain ⟨v, rfl, p, rfl, e2⟩ := one_rel r
    split at q
    · rename_i xs hx
      obtain ⟨us, s1, s2⟩ := rh.get hx e2
      split at q
      · rename_i n ns hn
        have e3 := s2.ints hn
        subst e3
        refine .inr ⟨p, n :: ns, rfl, s1, by simp, fun m h1 h2 => ?_⟩
        have hm := minI_is n ns
        have : m = minI (n :: ns) := Int.le_antisymm (h2 _ hm.1) (hm.2 m h1)
        rw [this]
        exact q.here rh rfl
      · exact False.elim q
    · exact False.elim q
  · obtain ⟨v, rfl, p, rfl, e2⟩ := one_rel r
    split at q
    · rename_i xs hx
      obtain ⟨us, s1, s2⟩ := rh.get hx e2
      refine ⟨_, us.length, rfl, .inl ⟨us, s1, rfl⟩, ?_⟩
      rw [← s2.len]
      exact q.here rh rfl
    · exact False.elim q
  · obtain ⟨v, rfl, p, us, rfl, e2, s2⟩ := one_rel r
    refine ⟨_, us.length, rfl, .inr ⟨us, SqT.of e2, rfl⟩, ?_⟩
    rw [← s2.len]
    exact q.here rh rfl
  · obtain ⟨v, rfl, e⟩ := one_rel r
    have e' : v = .str _ := e
    subst e'
    split at q
    · rename_i hl
      exact ⟨_, _, rfl, ⟨by rw [← lim_eq]; exact hl, rfl⟩, q.here rh rfl⟩
    · exact False.elim q
  · obtain ⟨v, rfl, e⟩ := one_rel r
    have e' : v = .int _ := e
    subst e'
    exact .inl (.inl ⟨_, rfl, q.here rh rfl⟩)
  · obtain ⟨v, rfl, e⟩ := one_rel r
    have e' : v = .bl _ := e
    subst e'
    exact .inl (.inr ⟨_, rfl, q.here rh rfl⟩)
  · obtain ⟨v, rfl, p, rfl, e2⟩ := one_rel r
    split at q
    · rename_i xs hx
      obtain ⟨us, s1, s2⟩ := rh.get hx e2
      split at q
      · rename_i ns hn
        have e3 := s2.ints hn
        subst e3
        exact ⟨p, ns, rfl, s1, q.here rh rfl⟩
      · exact False.elim q
    · exact False.elim q
  · obtain ⟨v, rfl, p, rfl, e2⟩ := one_rel r
    split at q
    · rename_i xs hx
      obtain ⟨us, s1, s2⟩ := rh.get hx e2
      split at q
      · rename_i ns hn
        have e3 := s2.bls hn
        subst e3
        exact ⟨p, ns, rfl, s1, q.here rh rfl⟩
      · exact False.elim q
    · exact False.elim q
  · obtain ⟨v, rfl, p, rfl, e2⟩ := one_rel r
    split at q
    · rename_i xs hx
      obtain ⟨us, s1, s2⟩ := rh.get hx e2
      split at q
      · rename_i ns hn
        have e3 := s2.bls hn
        subst e3
        exact ⟨p, ns, rfl, s1, q.here rh rfl⟩
      · exact False.elim q
    · exact False.elim q
  · obtain ⟨v, rfl, p, rfl, e2⟩ := one_rel r
    split at q
    · rename_i xs hx
      obtain ⟨us, s1, s2⟩ := rh.get hx e2
      exact ⟨p, us, rfl, .inl s1, q.newl rh s2⟩
    · exact False.elim q
  · obtain ⟨v, rfl, p, us, rfl, e2, s2⟩ := one_rel r
    exact ⟨p, us, rfl, .inr (SqT.of e2), q.newl rh s2⟩
  · obtain ⟨v, rfl, p, rfl, e2⟩ := one_rel r
    split at q
    · rename_i xs hx
      obtain ⟨us, s1, s2⟩ := rh.get hx e2
      exact ⟨p, us, rfl, .inl ⟨s1, q.newt rh s2⟩⟩
    · exact False.elim q
  · obtain ⟨v, rfl, p, us, rfl, e2, s2⟩ := one_rel r
    exact ⟨p, us, rfl, .inr ⟨SqT.of e2, q.here rh ⟨p, us, rfl, e2, s2⟩⟩⟩
  · obtain ⟨v, rfl, e⟩ := one_rel r
    split at q
    · rename_i p hp
      split at q
      · rename_i hs
        exact ⟨v, p, rfl, dat_ok rh _ _ _ _ e hp, hs.1, hs.2.1, hs.2.2.1, by rw [← lim_eq]; exact hs.2.2.2, q.here rh rfl⟩
      · exact False.elim q
    · exact False.elim q
  · obtain ⟨v, u, rfl, e, f⟩ := two_rel r
    have e' : v = .int _ := e
    have f' : u = .int _ := f
    subst e' f'
    split at q
    · rename_i hs
      exact ⟨_, _, rfl, hs, q.newt rh ⟨_, _, rfl, rfl, _, _, rfl, rfl, rfl⟩⟩
    · exact False.elim q
  · obtain ⟨v, rfl, e⟩ := one_rel r
    have e' : v = .str _ := e
    subst e'
    split at q
    · rename_i n hn
      split at q
      · rename_i hl
        exact .inr ⟨_, n, rfl, hn, hl, q.here rh rfl⟩
      · exact False.elim q
    · exact False.elim q
  · obtain ⟨v, rfl, e⟩ := one_rel r
    have e' : v = .int _ := e
    subst e'
    split at q
    · rename_i hl
      exact .inl ⟨_, rfl, hl, q.here rh rfl⟩
    · exact False.elim q
  · obtain ⟨v, rfl, e⟩ := one_rel r
    have e' : v = .str _ := e
    subst e'
    exact .inr ⟨_, rfl, q.here rh rfl⟩
  · exact False.elim q

/-! ### methods -/
def Me.py : Me → Str
  | .append => "append"
  | .extend => "extend"
def rMe : Me → V → List V → Hp → VK → Prop
  | .append => rAppend
  | .extend => rExtend
theorem me_ok (m : Me) {o : D} {as : List D} {v : V} {vs : List V} (rh : RelH K ρ h H) (ro : RelD ρ H o v) (r : RelDs ρ H as vs) (q : PostD K XI E ρ H (m.ev o as h) Q) : rMe m v vs H Q := by
  unfold Me.ev at q
  split at q
  · obtain ⟨y, rfl, ry⟩ := one_rel r
    obtain ⟨p, rfl, e2⟩ := ro
    split at q
    · rename_i xs hx
      obtain ⟨us, s1, s2⟩ := rh.lst hx e2
      split at q
      · rename_i hl
        exact ⟨p, us, y, rfl, rfl, s1, by rw [← s2.len, ← lim_eq]; exact hl, PostD.set q rh hx e2 (s2.app (RelDs.one ry)) rfl⟩
      · exact False.elim q
    · exact False.elim q
  · obtain ⟨y, rfl, p2, rfl, e3⟩ := one_rel r
    obtain ⟨p, rfl, e2⟩ := ro
    split at q
    · rename_i xs ys hx hy
      obtain ⟨us, s1, s2⟩ := rh.lst hx e2
      obtain ⟨ws, s3, s4⟩ := rh.lst hy e3
      split at q
      · rename_i hl
        exact ⟨p, p2, us, ws, rfl, rfl, s1, s3, by rw [← s2.len, ← s4.len, ← lim_eq]; exact hl, PostD.set q rh hx e2 (s2.app s4) rfl⟩
      · exact False.elim q
    · exact False.elim q
  · exact False.elim q
end
/-! ### isinstance -/
def Ty.py : Ty → String
  | .int => "int"
  | .bool => "bool"
  | .str => "str"
  | .list => "list"
  | .tuple => "tuple"
  | .dict => "dict"
theorem Ty.boot (t : Ty) : bootBuiltins (Str.ofString t.py) = some (.type t.py) := by cases t <;> decide +kernel
theorem Ty.nm (t : Ty) : Str.ofString t.py ≠ "__name__" := by cases t <;> decide
theorem Ty.db (t : Ty) : (Str.ofString t.py == ("__debug__" : Str)) = false := by cases t <;> decide
inductive Kd where
  | non | bl | int | str | tup | lst
  deriving DecidableEq
def Kd.py : Kd → String
  | .non => "NoneType"
  | .bl => "bool"
  | .int => "int"
  | .str => "str"
  | .tup => "tuple"
  | .lst => "list"
def D.kd : D → Kd
  | .non => .non
  | .bl _ => .bl
  | .int _ => .int
  | .str _ => .str
  | .tup _ => .tup
  | .ref _ => .lst
def kindD (d : D) : String := d.kd.py
def Ty.hasK (t : Ty) : Kd → Bool
  | .non => false
  | .bl => match t with
    | .int => true
    | .bool => true
    | _ => false
  | .int => match t with
    | .int => true
    | _ => false
  | .str => match t with
    | .str => true
    | _ => false
  | .tup => match t with
    | .tuple => true
    | _ => false
  | .lst => match t with
    | .list => true
    | _ => false
theorem kitB_hasK (t : Ty) (k : Kd) : kitB k.py t.py = some (t.hasK k) := by
  cases k <;> cases t <;> decide +kernel
theorem has_hasK (t : Ty) (d : D) : t.has d = t.hasK d.kd := by cases d <;> rfl
theorem kitB_has (t : Ty) (d : D) : kitB (kindD d) t.py = some (t.has d) := by
  rw [has_hasK]
  exact kitB_hasK t d.kd
section
variable {K : PySem.W.Frag} {ρ : List Addr} {h : Hv} {H : Hp}
theorem tyX_ok {d : D} {v : V} (rh : RelH K ρ h H) (r : RelD ρ H d v) (ok : ∀ a, d = .ref a → a < h.length) : TyX K H v (.type (kindD d)) := by
  cases d with
  | non => have e : v = .non := r; subst e; exact .base .non
  | bl b => have e : v = .bl b := r; subst e; exact .base (.bl b)
  | int i => have e : v = .int i := r; subst e; exact .base (.int i)
  | str x => have e : v = .str x := r; subst e; exact .base (.str x)
  | tup xs =>
    obtain ⟨p, us, rfl, e2, _⟩ := r
    exact .base (.tup e2)
  | ref a =>
    obtain ⟨p, rfl, e2⟩ := r
    have hl := ok a rfl
    have ho := rh.ob a _ p (List.getElem?_eq_getElem hl) e2
    cases q : h[a] with
    | lst xs =>
      rw [q] at ho
      obtain ⟨us, u1, _⟩ := ho
      exact .base (.lst u1)
    | scr xs =>
      rw [q] at ho
      obtain ⟨us, u1, _⟩ := ho
      rcases u1 with ⟨o, u1⟩ | ⟨o, its, n, k1, k2, _⟩
      · exact .base (.frz u1)
      · exact .kList k1 k2
theorem ref_lt (rh : RelH K ρ h H) {d : D} {v : V} (r : RelD ρ H d v) : ∀ a, d = .ref a → a < h.length := fun a e => by
  subst e
  obtain ⟨p, _, e2⟩ := r
  rw [← rh.len]
  exact rho_lt e2
end
end G4

/-! G6: the contexts, the calls. -/
namespace G4
open PySem PySem.Spec PyProof.Rows L2

/-- what the checks go by: the functions' names, the built-in names that stand, the module's constants, how keywords lie -/
structure Cc where
  nm : Nat → Str
  bl : List Str
  gl : Str → Option D
  kw : Nat → Nat → List Str → Option (List Nat)
def permU (us : List Value) (pm : List Nat) : List Value := pm.map fun i => us.getD i .none
def permX (us : List V) (pm : List Nat) : List V := pm.map fun i => us.getD i .non
structure KwOk (fd : FuncData) (ps : List Str) (n : Nat) (ks : List Str) (pm : List Nat) : Prop where
  len : pm.length = ps.length
  lt : ∀ i ∈ pm, i < n + ks.length
  to : ∀ us ws : List Value, us.length = n → ws.length = ks.length → bindArgs fd ⟨us, ks.zip ws⟩ = pure (ps.zip (permU (us ++ ws) pm))
structure FnAt (T : Tab) (cc : Cc) (k : Nat) (P : Program) (w : World) (K : PySem.W.Frag) (XI : XInfo) (mg : Str → Option Value) (base : Heap) (f : Nat) (fn : Fn) (a : Addr) (fd : FuncData) (ps : List Str) : Prop where
  gl : mg (cc.nm f) = some (.ref a)
  kp : PySem.W.keepIn K (.ref a) = true
  np : ps.length = fn.np
  bn : ∀ us : List Value, us.length = ps.length → bindArgs fd ⟨us, []⟩ = pure (ps.zip us)
  kw : ∀ n ks pm, cc.kw f n ks = some pm → KwOk fd ps n ks pm
  ok : FnG P w K XI mg base k a fd ps (den T k f)
structure Stat (T : Tab) (cc : Cc) (k : Nat) (P : Program) (w : World) (K : PySem.W.Frag) (XI : XInfo) (mg : Str → Option Value) (base : Heap) : Prop where
  fn : ∀ f fn, T f = some fn → ∃ a fd ps, FnAt T cc k P w K XI mg base f fn a fd ps
  bl : ∀ x ∈ cc.bl, mg x = none
  gl : ∀ x d, cc.gl x = some d → ∃ u v, mg x = some u ∧ RelV v u ∧ ∀ ρ H, RelD ρ H d v
structure Gd (T : Tab) (cc : Cc) (k : Nat) (N : List Str) (so sc : Scope) (c : Ck) (X : Cx) : Prop where
  st : Stat T cc k X.prog X.w X.K c.XI X.mg X.base
  hK : c.K = X.K
  hN : X.N = N
  nd : N.Nodup
  hs : X.env.scope = sc
  kd : sc.kind = .function
  calm : X.calm = true
  fnl : ∀ x, so.names.lookup x = some .cell → X.fn x = true
  room : Room k X.A
  grd : X.A.guards = some []
  pas : ∀ σ, PassesAt (L2.CX X.prog X.w) X σ (c.E σ)
  own : PassesOwn (model X.prog X.w) X.A X.env X.xe

def noStar : Expr → Bool
  | .Starred .. => false
  | _ => true
theorem star_cons {e : Expr} {es : List Expr} {env : Env} (h : noStar e = true) : starEach (e :: es) env = (false, eval e env) :: starEach es env := by
  cases e <;> first | rfl | cases h
theorem star_all {env : Env} {pos : Pos} : ∀ {es : List Expr}, es.all noStar = true → (backTo pos (starEach es env)).any (·.1) = false
  | [], _ => rfl
  | e :: es, h => by
    rw [List.all_cons, Bool.and_eq_true] at h
    rw [star_cons h.1]
    show (false || (backTo pos (starEach es env)).any (·.1)) = false
    rw [star_all h.2]; rfl

section
variable {T : Tab} {cc : Cc} {k : Nat} {N : List Str} {so sc : Scope} {c : Ck} {X : Cx}
theorem den_len {K : PySem.W.Frag} {XI : XInfo} {E : XK} {ρ : List Addr} {H : Hp} {P : D → Hv → List Addr → Hp → Prop} {f : Nat} {fn : Fn} {ds : List D} {h : Hv} (hf : T f = some fn) (o : Out K XI E ρ H (den T k f ds h) P) : ds.length = fn.np := by
  cases k with
  | zero => exact False.elim o
  | succ k =>
    simp only [den, hf] at o
    unfold runFn at o
    split at o
    · assumption
    · exact False.elim o
/-- the callee runs -/
theorem run_fnG {pins : List (Addr × Obj)} {σ : L2.St} {H : Hp} {s : Shared} {Q : VK} {a : Addr} {fd : FuncData} {ps : List Str} {f : Nat} {fn : Fn} {us zs : List Value} {kws : List (Str × Value)} {vs : List V} {ds : List D} {ρ : List Addr} {h : Hv}
    (g : Gd T cc k N so sc c X) (F : FnAt T cc k X.prog X.w X.K c.XI X.mg X.base f fn a fd ps) (hf : T f = some fn) (hb : bindArgs fd ⟨us, kws⟩ = pure (ps.zip zs))
    (I : Inv X pins σ H s) (r : Vals vs zs) (rd : RelDs ρ H ds vs) (rh : RelH X.K ρ h H) (o : Out X.K c.XI (c.E σ) ρ H (den T k f ds h) fun d _ ρ' H' => ∀ v, RelD ρ' H' d v → Q v H') :
    wpAny (model X.prog X.w) X.A (call (.ref a) us kws) (EP X pins σ Q) X.xe s := by
  have hl : vs.length = ps.length := by rw [← rd.len, den_len hf o, F.np]
  refine wpAny_call (codeAny_mono (F.ok.run X.A X.stack s H ⟨us, kws⟩ zs vs ds ρ h Q (c.E σ) g.room g.grd I.env0 (.of_eq hb) hl r rd rh o) fun res s' hq => ?_)
  cases res with
  | error e => exact g.pas σ pins H s e s' I hq
  | ok fl =>
    cases fl with
    | ret u => exact I.after hq
    | next => exact False.elim hq
    | brk => exact False.elim hq
    | cont => exact False.elim hq
theorem pe_callG {f : Nat} {fn : Fn} {x : Str} {p pos : Pos} {e : Expr} {es : List Expr} {m : Sl → Hv → R (List D)} (g : Gd T cc k N so sc c X) (hf : T f = some fn) (hx : x = cc.nm f) (hg : Gl X x) (hdb : (x == ("__debug__" : Str)) = false) (n1 : noStar e = true) (ns : es.all noStar = true)
    (ha : PA X (e :: es) (tDs c m)) : PE X (.Call (.Name x p) (e :: es) [] pos) (tD c fun τ h => (m τ h).bind fun ds h => den T k f ds h) := by
  refine ⟨fun pins s σ H Q I q => ?_⟩
  obtain ⟨ρ, τ, h, rs, rh, o⟩ := q
  obtain ⟨a, fd, ps, F⟩ := g.st.fn f fn hf
  have hK := g.hK
  refine wpAny_Call_Name_kw (ld_glob I hg (by rw [hx]; exact F.gl) ?_ hdb)
  have goal : tDs c m σ H fun vs H1 => ∃ ρ1 h1 ds, RelDs ρ1 H1 ds vs ∧ RelH X.K ρ1 h1 H1 ∧ Out X.K c.XI (c.E σ) ρ1 H1 (den T k f ds h1) fun d _ ρ' H' => ∀ v, RelD ρ' H' d v → Q v H' :=
    ⟨ρ, τ, h, rs, rh, (Out.bind o).imp fun ds h1 ρ1 H1 e rh1 o1 vs rd => ⟨ρ1, h1, ds, rd, by rw [← hK]; exact rh1, by rw [← hK]; exact o1⟩⟩
  refine PySem.W.callWith_K (h₀ := X.base) I.ok.mod.kin F.kp (thn (ha.run pos pins s σ H _ I goal) fun us s1 ⟨vs, H1, I1, r, ρ1, h1, ds, rd, rh1, o1⟩ => ⟨I1.kIn, ?_⟩) (star_cons n1) (star_all ns)
  exact run_fnG g F hf (F.bn us (by rw [F.np, ← den_len hf o1, rd.len, r.length])) I1 r rd rh1 o1
theorem pe_callG0 {f : Nat} {fn : Fn} {x : Str} {p pos : Pos} (g : Gd T cc k N so sc c X) (hf : T f = some fn) (hx : x = cc.nm f) (hg : Gl X x) (hdb : (x == ("__debug__" : Str)) = false) :
    PE X (.Call (.Name x p) [] [] pos) (tD c fun τ h => den T k f [] h) := by
  refine ⟨fun pins s σ H Q I q => ?_⟩
  obtain ⟨ρ, τ, h, rs, rh, o⟩ := q
  obtain ⟨a, fd, ps, F⟩ := g.st.fn f fn hf
  rw [g.hK] at o rh
  refine wpAny_Call_Name_kw (ld_glob I hg (by rw [hx]; exact F.gl) ?_ hdb)
  refine PySem.W.callWith_K0 I.kIn F.kp ?_
  have rd : RelDs ρ H [] [] := rfl
  exact run_fnG (us := []) (zs := []) (vs := []) (ds := []) g F hf (F.bn [] (by rw [F.np, ← den_len hf o]; rfl)) I .nil rd rh o

/-! ### keywords -/
def kwVals (kws : List Keyword) : List Expr := kws.map fun kw => match kw with
  | ⟨_, e, _⟩ => e
def kwNames (kws : List Keyword) : List (Option Str) := kws.map fun kw => match kw with
  | ⟨n, _, _⟩ => n
theorem kw_isSome {env : Env} {pos : Pos} : ∀ {kws : List Keyword} {ks : List Str}, kwNames kws = ks.map some → (backToKw pos (keywordEach kws env)).all (·.1.isSome) = true
  | [], _, _ => rfl
  | ⟨n, e, p⟩ :: kws, [], h => by cases h
  | ⟨n, e, p⟩ :: kws, k :: ks, h => by
    have h1 : n = some k ∧ kwNames kws = ks.map some := by
      simp only [kwNames, List.map_cons, List.cons.injEq] at h
      exact h
    obtain ⟨rfl, h2⟩ := h1
    show (true && (backToKw pos (keywordEach kws env)).all (·.1.isSome)) = true
    rw [kw_isSome h2]; rfl
theorem kw_isNone {env : Env} {pos : Pos} : ∀ {kws : List Keyword} {ks : List Str}, kwNames kws = ks.map some → (backToKw pos (keywordEach kws env)).any (·.1.isNone) = false
  | [], _, _ => rfl
  | ⟨n, e, p⟩ :: kws, [], h => by cases h
  | ⟨n, e, p⟩ :: kws, k :: ks, h => by
    have h1 : n = some k ∧ kwNames kws = ks.map some := by
      simp only [kwNames, List.map_cons, List.cons.injEq] at h
      exact h
    obtain ⟨rfl, h2⟩ := h1
    show (false || (backToKw pos (keywordEach kws env)).any (·.1.isNone)) = false
    rw [kw_isNone h2]; rfl
theorem kw_names {env : Env} {pos : Pos} : ∀ {kws : List Keyword} {ks : List Str}, kwNames kws = ks.map some → (backToKw pos (keywordEach kws env)).filterMap (·.1) = ks
  | [], [], _ => rfl
  | [], _ :: _, h => by cases h
  | ⟨n, e, p⟩ :: kws, [], h => by cases h
  | ⟨n, e, p⟩ :: kws, k :: ks, h => by
    have h1 : n = some k ∧ kwNames kws = ks.map some := by
      simp only [kwNames, List.map_cons, List.cons.injEq] at h
      exact h
    obtain ⟨rfl, h2⟩ := h1
    show k :: (backToKw pos (keywordEach kws env)).filterMap (·.1) = k :: ks
    rw [kw_names h2]
theorem perm_vals {zs : List V} {ws : List Value} (r : Vals zs ws) : ∀ {pm : List Nat}, (∀ i ∈ pm, i < zs.length) → Vals (permX zs pm) (permU ws pm)
  | [], _ => .nil
  | i :: pm, h => by
    have hi : i < zs.length := h i List.mem_cons_self
    obtain ⟨u, e1, r1⟩ := r.get (List.getElem?_eq_getElem hi)
    have e2 : zs.getD i .non = zs[i] := by rw [List.getD_eq_getElem?_getD, List.getElem?_eq_getElem hi]; rfl
    have e3 : ws.getD i .none = u := by rw [List.getD_eq_getElem?_getD, e1]; rfl
    show Vals (zs.getD i .non :: permX zs pm) (ws.getD i .none :: permU ws pm)
    rw [e2, e3]
    exact .cons r1 (perm_vals r fun j hj => h j (List.mem_cons_of_mem _ hj))
theorem perm_rel {ρ : List Addr} {H : Hp} {ds : List D} {vs : List V} (r : RelDs ρ H ds vs) : ∀ {pm : List Nat}, (∀ i ∈ pm, i < ds.length) → RelDs ρ H (permV ds pm) (permX vs pm)
  | [], _ => rfl
  | i :: pm, h => by
    have hi : i < ds.length := h i List.mem_cons_self
    obtain ⟨u, e1, r1⟩ := r.get (List.getElem?_eq_getElem hi)
    have e2 : ds.getD i .non = ds[i] := by rw [List.getD_eq_getElem?_getD, List.getElem?_eq_getElem hi]; rfl
    have e3 : vs.getD i .non = u := by rw [List.getD_eq_getElem?_getD, e1]; rfl
    refine ⟨u, permX vs pm, by show vs.getD i .non :: permX vs pm = _; rw [e3], ?_, perm_rel r fun j hj => h j (List.mem_cons_of_mem _ hj)⟩
    show RelD ρ H (ds.getD i .non) u
    rw [e2]; exact r1
theorem run_kw {pins : List (Addr × Obj)} {σ : L2.St} {H : Hp} {s : Shared} {Q : VK} {a : Addr} {fd : FuncData} {ps ks : List Str} {pm : List Nat} {f : Nat} {fn : Fn} {us ws : List Value} {vs zs : List V} {ds es : List D} {ρ : List Addr} {h : Hv}
    (g : Gd T cc k N so sc c X) (F : FnAt T cc k X.prog X.w X.K c.XI X.mg X.base f fn a fd ps) (hf : T f = some fn) (hk : cc.kw f us.length ks = some pm) (hl : ws.length = ks.length)
    (I : Inv X pins σ H s) (r : Vals vs us) (rz : Vals zs ws) (rd : RelDs ρ H ds vs) (re : RelDs ρ H es zs) (rh : RelH X.K ρ h H)
    (o : Out X.K c.XI (c.E σ) ρ H (den T k f (permV (ds ++ es) pm) h) fun d _ ρ' H' => ∀ v, RelD ρ' H' d v → Q v H') :
    wpAny (model X.prog X.w) X.A (call (.ref a) us (ks.zip ws)) (EP X pins σ Q) X.xe s := by
  have kw := F.kw _ _ _ hk
  have l1 : ∀ i ∈ pm, i < (vs ++ zs).length := fun i hi => by
    have := kw.lt i hi
    rw [List.length_append, r.length, rz.length, hl]; exact this
  have l2 : ∀ i ∈ pm, i < (ds ++ es).length := fun i hi => by
    have := l1 i hi
    rw [(rd.app re).len]; exact this
  exact run_fnG g F hf (kw.to us ws rfl hl) I (perm_vals (r.append rz) l1) (perm_rel (rd.app re) l2) rh o
theorem PK.weak {kws : List Keyword} {t t' : TA} (p : PK X kws t) (h : ∀ σ H Q, t' σ H Q → t σ H Q) : PK X kws t' := ⟨fun ps pins s σ H Q I q => p.run ps pins s σ H Q I (h σ H Q q)⟩
theorem kw_len {kws : List Keyword} {ks : List Str} (h : kwNames kws = ks.map some) : kws.length = ks.length := by
  have := congrArg List.length h
  simpa [kwNames] using this
/-- f(.., k = e, ..) -/
theorem pe_callKG {f : Nat} {fn : Fn} {x : Str} {p pos : Pos} {es : List Expr} {kws : List Keyword} {ks : List Str} {pm : List Nat} {m mk : Sl → Hv → R (List D)} (g : Gd T cc k N so sc c X) (hf : T f = some fn) (hx : x = cc.nm f) (hg : Gl X x) (hdb : (x == ("__debug__" : Str)) = false)
    (ns : es.all noStar = true) (hks : kwNames kws = ks.map some) (hpm : cc.kw f es.length ks = some pm) (ha : PA X es (tDs c m)) (hk : PK X kws (tDs c mk)) (hlen : ∀ τ h ds h', m τ h = .ok ds h' → ds.length = es.length) (hklen : ∀ τ h ds h', mk τ h = .ok ds h' → ds.length = kws.length) (hnil : es = [] → ∀ τ h, m τ h = .ok [] h) :
    PE X (.Call (.Name x p) es kws pos) (tD c fun τ h => (m τ h).bind fun ds h => (mk τ h).bind fun zs h => den T k f (permV (ds ++ zs) pm) h) := by
  refine ⟨fun pins s σ H Q I q => ?_⟩
  obtain ⟨ρ, τ, h, rs, rh, o⟩ := q
  obtain ⟨a, fd, ps, F⟩ := g.st.fn f fn hf
  have hK := g.hK
  refine wpAny_Call_Name_kw (ld_glob I hg (by rw [hx]; exact F.gl) ?_ hdb)
  have inner : ∀ {ρ1 H1 h1 ds}, RelS ρ1 H1 τ σ → RelH c.K ρ1 h1 H1 → ∀ vs, RelDs ρ1 H1 ds vs → Out c.K c.XI (c.E σ) ρ1 H1 ((mk τ h1).bind fun zs h => den T k f (permV (ds ++ zs) pm) h) (fun d _ ρ' H' => ∀ v, RelD ρ' H' d v → Q v H') →
      tDs c mk σ H1 fun zs H2 => ∃ ρ2 h2 es', RelDs ρ2 H2 ds vs ∧ RelDs ρ2 H2 es' zs ∧ RelH X.K ρ2 h2 H2 ∧ es'.length = kws.length ∧ Out X.K c.XI (c.E σ) ρ2 H2 (den T k f (permV (ds ++ es') pm) h2) fun d _ ρ' H' => ∀ v, RelD ρ' H' d v → Q v H' := by
    intro ρ1 H1 h1 ds rs1 rh1 vs rd o1
    refine ⟨ρ1, τ, h1, rs1, rh1, ?_⟩
    have o2 := Out.bind o1
    cases e : mk τ h1 with
    | ok zs h2 =>
      rw [e] at o2
      exact fun ρ2 H2 e2 rh2 us ru => ⟨ρ2, h2, zs, rd.mono e2, ru, by rw [← hK]; exact rh2, hklen _ _ _ _ e, by rw [← hK]; exact o2 ρ2 H2 e2 rh2⟩
    | ex cl as h2 =>
      rw [e] at o2
      exact o2
    | bad =>
      rw [e] at o2
      exact o2
  have fin : ∀ {s1 : Shared} {H1 : Hp} {us : List Value} {vs : List V} {ds : List D}, Inv X pins σ H1 s1 → Vals vs us → ds.length = es.length → (tDs c mk σ H1 fun zs H2 => ∃ ρ2 h2 es', RelDs ρ2 H2 ds vs ∧ RelDs ρ2 H2 es' zs ∧ RelH X.K ρ2 h2 H2 ∧ es'.length = kws.length ∧ Out X.K c.XI (c.E σ) ρ2 H2 (den T k f (permV (ds ++ es') pm) h2) fun d _ ρ' H' => ∀ v, RelD ρ' H' d v → Q v H') →
      wpAny (model X.prog X.w) X.A (evalAll ((backToKw pos (keywordEach kws X.env)).map (·.2))) (fun ws s2 => X.K.In s2.heap ∧ wpAny (model X.prog X.w) X.A (call (.ref a) us (((backToKw pos (keywordEach kws X.env)).filterMap (·.1)).zip ws)) (EP X pins σ Q) X.xe s2) X.xe s1 := by
    intro s1 H1 us vs ds I1 r hl q1
    refine thn (hk.run pos pins s1 σ H1 _ I1 q1) fun ws s2 ⟨zs, H2, I2, rz, ρ2, h2, es', rd, re, rh2, hl2, o2⟩ => ⟨I2.kIn, ?_⟩
    rw [kw_names hks]
    have e1 : us.length = es.length := by rw [← r.length, ← rd.len, hl]
    exact run_kw g F hf (by rw [e1]; exact hpm) (by rw [← rz.length, ← re.len, hl2, kw_len hks]) I2 r rz rd re rh2 o2
  have o1 := Out.bind o
  cases es with
  | nil =>
    refine PySem.W.callWith_KW0 (h₀ := X.base) I.ok.mod.kin F.kp (kw_isSome hks) ?_ (by rw [kw_isNone hks]; rfl)
    refine fin (ds := []) I .nil rfl ?_
    rw [hnil rfl τ h] at o1
    exact inner rs rh [] rfl (o1 ρ H (Ext.refl _ _) rh)
  | cons e es =>
    have ns' := ns
    rw [List.all_cons, Bool.and_eq_true] at ns'
    have goal : tDs c m σ H fun vs H1 => ∃ ds, ds.length = (e :: es).length ∧ tDs c mk σ H1 fun zs H2 => ∃ ρ2 h2 es', RelDs ρ2 H2 ds vs ∧ RelDs ρ2 H2 es' zs ∧ RelH X.K ρ2 h2 H2 ∧ es'.length = kws.length ∧ Out X.K c.XI (c.E σ) ρ2 H2 (den T k f (permV (ds ++ es') pm) h2) fun d _ ρ' H' => ∀ v, RelD ρ' H' d v → Q v H' := by
      refine ⟨ρ, τ, h, rs, rh, ?_⟩
      cases e' : m τ h with
      | ok ds h1 =>
        rw [e'] at o1
        exact fun ρ1 H1 e1 rh1 vs rd => ⟨ds, hlen _ _ _ _ e', inner (rs.mono e1) rh1 vs rd (o1 ρ1 H1 e1 rh1)⟩
      | ex cl as h2 =>
        rw [e'] at o1
        exact o1
      | bad =>
        rw [e'] at o1
        exact o1
    refine PySem.W.callWith_KW (h₀ := X.base) I.ok.mod.kin F.kp (kw_isSome hks) (thn (ha.run pos pins s σ H _ I goal) fun us s1 ⟨vs, H1, I1, r, ds, hl, q1⟩ => ?_) (by rw [kw_isNone hks, Bool.or_false, star_cons ns'.1]; exact star_all ns'.2) (star_cons ns'.1)
    exact fin I1 r hl q1
end
end G4

/-! G7: targets, what is walked, loops, comprehensions. -/
namespace G4
open PySem PySem.Spec PyProof.Rows L2

/-! ### targets -/
mutual
def gOf (K : PySem.W.Frag) : IG → TG
  | .nm i => gName i
  | .tp gs => gTup K gs.length (gsOf K gs)
def gsOf (K : PySem.W.Frag) : List IG → TGs
  | [] => gNil
  | g :: gs => gCons (gOf K g) (gsOf K gs)
end
mutual
def tgs : IG → List Nat
  | .nm i => [i]
  | .tp gs => tgss gs
def tgss : List IG → List Nat
  | [] => []
  | g :: gs => tgs g ++ tgss gs
end
theorem wipe_get {σ : L2.St} : ∀ (vs : List Nat) (j : Nat), (L2.wipe σ vs)[j]? = if j ∈ vs then (if j < σ.length then some none else none) else σ[j]?
  | [], j => by simp [L2.wipe]
  | v :: vs, j => by
    unfold L2.wipe
    rw [List.getElem?_set, wipe_get vs j, L2.wipe_length]
    by_cases h : v = j
    · subst h
      simp
    · have h' : ¬ j = v := fun e => h e.symm
      simp [h, h']
theorem wipe_set {σ : L2.St} {vs : List Nat} {i : Nat} {x : Option V} (h : i ∈ vs) : L2.wipe (σ.set i x) vs = L2.wipe σ vs := by
  apply List.ext_getElem?
  intro j
  rw [wipe_get, wipe_get, List.length_set, List.getElem?_set]
  by_cases hj : j ∈ vs
  · simp [hj]
  · have : ¬ i = j := fun e => hj (e ▸ h)
    simp [hj, this]
theorem wipe_wipe {σ : L2.St} {vs : List Nat} : L2.wipe (L2.wipe σ vs) vs = L2.wipe σ vs := by
  apply List.ext_getElem?
  intro j
  simp only [wipe_get, L2.wipe_length]
  by_cases hj : j ∈ vs <;> simp [hj]
section
variable {K : PySem.W.Frag} {ρ : List Addr} {H : Hp}
mutual
theorem gOf_ok : ∀ (g : IG) {d : D} {v : V} {τ τ' : Sl} {σ : L2.St} {Q : L2.St → Hp → Prop}, RelD ρ H d v → asG g d τ = some τ' → RelS ρ H τ σ →
    (∀ σ', RelS ρ H τ' σ' → (∀ vs, (∀ i ∈ tgs g, i ∈ vs) → L2.wipe σ' vs = L2.wipe σ vs) → Q σ' H) → gOf K g v σ H Q
  | .nm i, d, v, τ, τ', σ, Q, r, e, rs, q => by
    simp only [asG] at e
    cases e
    exact q _ (rs.set r) fun vs hv => wipe_set (hv i (by simp [tgs]))
  | .tp gs, d, v, τ, τ', σ, Q, r, e, rs, q => by
    cases d with
    | tup ds =>
      obtain ⟨p, xs, e1, e2, r2⟩ := r
      simp only [asG] at e
      have hl := asGs_len gs e
      refine ⟨p, xs, e1, SqT.of e2, by rw [← r2.len, hl], ?_⟩
      exact gsOf_ok gs r2 e rs q
    | _ => simp [asG] at e
theorem gsOf_ok : ∀ (gs : List IG) {ds : List D} {vs : List V} {τ τ' : Sl} {σ : L2.St} {Q : L2.St → Hp → Prop}, RelDs ρ H ds vs → asGs gs ds τ = some τ' → RelS ρ H τ σ →
    (∀ σ', RelS ρ H τ' σ' → (∀ us, (∀ i ∈ tgss gs, i ∈ us) → L2.wipe σ' us = L2.wipe σ us) → Q σ' H) → gsOf K gs vs σ H Q
  | [], ds, vs, τ, τ', σ, Q, r, e, rs, q => by
    cases ds with
    | nil =>
      cases r
      simp only [asGs] at e
      cases e
      exact ⟨rfl, q σ rs fun _ _ => rfl⟩
    | cons d ds => simp [asGs] at e
  | g :: gs, ds, vs, τ, τ', σ, Q, r, e, rs, q => by
    cases ds with
    | nil => simp [asGs] at e
    | cons d ds =>
      obtain ⟨w, ws, rfl, r1, r2⟩ := r
      simp only [asGs] at e
      split at e
      · rename_i τ1 h1
        refine ⟨w, ws, rfl, gOf_ok g r1 h1 rs fun σ1 rs1 w1 => gsOf_ok gs r2 e rs1 fun σ2 rs2 w2 => q σ2 rs2 fun us hu => ?_⟩
        rw [w2 us fun i hi => hu i (by simp [tgss, hi]), w1 us fun i hi => hu i (by simp [tgss, hi])]
      · cases e
theorem asGs_len : ∀ (gs : List IG) {ds : List D} {τ τ' : Sl}, asGs gs ds τ = some τ' → ds.length = gs.length
  | [], ds, τ, τ', e => by
    cases ds with
    | nil => rfl
    | cons d ds => simp [asGs] at e
  | g :: gs, ds, τ, τ', e => by
    cases ds with
    | nil => simp [asGs] at e
    | cons d ds =>
      simp only [asGs] at e
      split at e
      · rw [List.length_cons, List.length_cons, asGs_len gs e]
      · cases e
end
end

/-! ### what is walked -/
def ItRel (K : PySem.W.Frag) (ρ : List Addr) (H : Hp) (J : It) (J' : L2.It) : Prop := ∀ ρ2 h2 H2, Ext ρ H ρ2 H2 → RelH K ρ2 h2 H2 → ∀ i, match J.nxt i h2 with
  | none => True
  | some none => J'.stop i H2
  | some (some d) => J'.go i H2 ∧ ∀ x H', J'.yld i H2 x H' → Ext ρ2 H2 ρ2 H' ∧ RelH K ρ2 h2 H' ∧ RelD ρ2 H' d x
def tDi (c : Ck) (m : Sl → Hv → R It) : TI := fun σ H R => ∃ ρ τ h, RelS ρ H τ σ ∧ RelH c.K ρ h H ∧ Out c.K c.XI (c.E σ) ρ H (m τ h) fun J _ ρ' H' => ∀ J', ItRel c.K ρ' H' J J' → R J' H'
theorem PI.weak {X : Cx} {tg iter : Expr} {t t' : TI} (p : PI X tg iter t) (h : ∀ σ H R, t' σ H R → t σ H R) : PI X tg iter t' := ⟨fun pins s σ H R I q => p.run pins s σ H R I (h σ H R q)⟩
section
variable {K : PySem.W.Frag} {ρ : List Addr} {H : Hp}
theorem it_lst {a : Nat} {p : Addr} (e : ρ[a]? = some p) : ItRel K ρ H (.lst a) (Itl K p) := fun ρ2 h2 H2 ex rh i => by
  have e2 := ex.at_ a p e
  simp only [It.nxt]
  cases q : h2.get a with
  | none => trivial
  | some xs =>
    obtain ⟨vs, s1, s2⟩ := rh.get q e2
    dsimp only
    cases z : xs[i]? with
    | none => exact ⟨vs, s1, by rw [← s2.len]; exact List.getElem?_eq_none_iff.mp z⟩
    | some d =>
      obtain ⟨v, v1, v2⟩ := s2.get z
      refine ⟨⟨vs, v, s1, v1⟩, fun x H' y => ?_⟩
      obtain ⟨rfl, y⟩ := y
      have := y vs s1
      rw [v1] at this; cases this
      exact ⟨Ext.refl _ _, rh, v2⟩
theorem it_fix {xs : List D} {p : Addr} {vs : List V} (e : H p = some (.tup vs)) (r : RelDs ρ H xs vs) : ItRel K ρ H (.fix xs) (Itt K p) := fun ρ2 h2 H2 ex rh i => by
  have e2 := ex.tup p vs e
  have s2 := r.mono ex
  simp only [It.nxt]
  cases z : xs[i]? with
  | none => exact ⟨vs, SqT.of e2, by rw [← s2.len]; exact List.getElem?_eq_none_iff.mp z⟩
  | some d =>
    obtain ⟨v, v1, v2⟩ := s2.get z
    refine ⟨⟨vs, v, SqT.of e2, v1⟩, fun x H' y => ?_⟩
    obtain ⟨rfl, y⟩ := y
    have := y vs (SqT.of e2)
    rw [v1] at this; cases this
    exact ⟨Ext.refl _ _, rh, v2⟩
theorem it_str {z : Str} : ItRel K ρ H (.fix (z.cps.toList.map fun c => D.str ⟨#[c]⟩)) (Its z) := fun ρ2 h2 H2 ex rh i => by
  simp only [It.nxt, List.getElem?_map, Array.getElem?_toList]
  cases q : z.cps[i]? with
  | none => exact Array.getElem?_eq_none_iff.mp q
  | some ch =>
    refine ⟨(Array.getElem?_eq_some_iff.mp q).1, fun x H' y => ?_⟩
    obtain ⟨rfl, c2, e, rfl⟩ := y
    rw [q] at e
    cases e
    exact ⟨Ext.refl _ _, rh, rfl⟩
theorem it_rng {lo : Int} {n : Nat} : ItRel K ρ H (.rng lo n) (Itr lo n) := fun ρ2 h2 H2 ex rh i => by
  simp only [It.nxt]
  by_cases hi : i < n
  · rw [if_pos hi]
    refine ⟨hi, fun x H' y => ?_⟩
    obtain ⟨rfl, rfl⟩ := y
    exact ⟨Ext.refl _ _, rh, rfl⟩
  · rw [if_neg hi]
    exact Nat.le_of_not_lt hi
theorem it_enm {a : Nat} {p : Addr} (e : ρ[a]? = some p) : ItRel K ρ H (.enm a) (Ite K p) := fun ρ2 h2 H2 ex rh i => by
  have e2 := ex.at_ a p e
  simp only [It.nxt]
  cases q : h2.get a with
  | none => trivial
  | some xs =>
    obtain ⟨vs, s1, s2⟩ := rh.get q e2
    dsimp only
    cases z : xs[i]? with
    | none => exact ⟨vs, s1, by rw [← s2.len]; exact List.getElem?_eq_none_iff.mp z⟩
    | some d =>
      obtain ⟨v, v1, v2⟩ := s2.get z
      have hi : i < vs.length := (List.getElem?_eq_some_iff.mp v1).1
      refine ⟨walk_enum.goes i H2 hi s1, fun x H' y => ?_⟩
      obtain ⟨T, a1, b1, rfl, n1, rfl, c1, c2⟩ := walk_enum.yields i H2 x H' hi s1 y
      cases c1
      have c2 : vs[i]? = some b1 := c2
      rw [v1] at c2; cases c2
      exact ⟨ext_tup n1, rh.tup n1, ⟨T, _, rfl, upd_same, _, _, rfl, rfl, _, _, rfl, v2.mono (ext_tup n1), rfl⟩⟩
theorem it_zip {a b : Nat} {p p2 : Addr} (e : ρ[a]? = some p) (f : ρ[b]? = some p2) : ItRel K ρ H (.zip a b) (Itz K p p2) := fun ρ2 h2 H2 ex rh i => by
  have e2 := ex.at_ a p e
  have f2 := ex.at_ b p2 f
  simp only [It.nxt]
  cases q : h2.get a with
  | none => trivial
  | some xs =>
    cases q2 : h2.get b with
    | none => trivial
    | some ys =>
      obtain ⟨vs, s1, s2⟩ := rh.get q e2
      obtain ⟨ws, t1, t2⟩ := rh.get q2 f2
      dsimp only
      cases z : xs[i]? with
      | none => exact ⟨vs, ws, s1, t1, .inl (by rw [← s2.len]; exact List.getElem?_eq_none_iff.mp z)⟩
      | some d =>
        cases z2 : ys[i]? with
        | none => exact ⟨vs, ws, s1, t1, .inr (by rw [← t2.len]; exact List.getElem?_eq_none_iff.mp z2)⟩
        | some d2 =>
          obtain ⟨v, v1, v2⟩ := s2.get z
          obtain ⟨w, w1, w2⟩ := t2.get z2
          refine ⟨⟨vs, ws, v, w, s1, t1, v1, w1⟩, fun x H' y => ?_⟩
          obtain ⟨T, a1, b1, rfl, n1, rfl, c1, c2⟩ := y
          have k1 := c1 vs s1
          have k2 := c2 ws t1
          rw [v1] at k1; cases k1
          rw [w1] at k2; cases k2
          exact ⟨ext_tup n1, rh.tup n1, ⟨T, _, rfl, upd_same, _, _, rfl, v2.mono (ext_tup n1), _, _, rfl, w2.mono (ext_tup n1), rfl⟩⟩
end
/-- over a list or a tuple, as it comes -/
theorem pi_seq {X : Cx} {tg e : Expr} {te : TE} (he : PE X e te) : PI X tg e fun σ H R => te σ H fun x H1 => (∃ a, x = .ref a ∧ (((∃ xs, SqL X.K H1 a xs) ∧ R (Itl X.K a) H1) ∨ ((∃ xs, SqT X.K H1 a xs) ∧ R (Itt X.K a) H1))) ∨ ∃ z, x = .str z ∧ R (Its z) H1 := by
  refine ⟨fun pins s σ H R I q => ?_⟩
  refine thn (he.run pins s σ H _ I q) fun v s1 ⟨x, H1, I1, r1, q0⟩ => ?_
  rcases q0 with ⟨a, ex, q1⟩ | ⟨x, ex, q⟩
  rotate_left
  · subst ex
    obtain ⟨t, rfl⟩ := r1
    cases ha : x.cps.all (· < 128)
    · exact wpAny_pyIter_wide ha (pi_one (tk := s1.toks) I1 _ (turn_str _ x t "str_iterator" (.inr rfl)) ⟨_, Heap.get?_push_size _ rfl, rfl, rfl⟩ q)
    · exact wpAny_pyIter_ascii ha (pi_one (tk := s1.toks) I1 _ (turn_str _ x t "str_ascii_iterator" (.inl rfl)) ⟨_, Heap.get?_push_size _ rfl, rfl, rfl⟩ q)
  subst ex
  cases r1
  have fpn : ∀ b ∈ [s1.heap.objs.size], FpOk X pins H1 b := fun b hb => by
    have eb : b = s1.heap.objs.size := List.mem_singleton.mp hb
    rw [eb]
    exact I1.fpOk (Nat.le_refl _) (I1.hok.fresh (Nat.le_refl _))
  rcases q1 with ⟨⟨xs, hx⟩, q2⟩ | ⟨⟨xs, hx⟩, q2⟩
  · obtain ⟨its, rv, p, _⟩ := I1.list hx
    refine wpAny_pyIter_list p.isList ?_
    exact ⟨_, _, _, _, H1, rfl, I1.kept (t' := s1.toks) fun b o w => Heap.get?_push_of_some _ w, turn_list a _, ⟨_, Heap.get?_push_size _ rfl, rfl, rfl⟩, fpn, q2⟩
  · obtain ⟨its, rv, p, _⟩ := I1.tuple hx
    refine wpAny_pyIter_tuple (show s1.heap.IsTuple a its.toArray from p) ?_
    exact ⟨_, _, _, _, H1, rfl, I1.kept (t' := s1.toks) fun b o w => Heap.get?_push_of_some _ w, turn_tuple a _, ⟨_, Heap.get?_push_size _ rfl, rfl, rfl⟩, fpn, q2⟩
section
variable {X : Cx} {c : Ck}
theorem pi_seqG {tg e : Expr} {m : Sl → Hv → R D} (hK : c.K = X.K) (he : PE X e (tD c m)) : PI X tg e (tDi c fun τ h => (m τ h).bind fun x h => match x with
    | .tup xs => .ok (.fix xs) h
    | .ref a => match h.get a with
      | some _ => .ok (.lst a) h
      | none => .bad
    | .str z => .ok (.fix (z.cps.toList.map fun c => D.str ⟨#[c]⟩)) h
    | _ => .bad) := by
  refine PI.weak (pi_seq he) fun σ H R q => ?_
  obtain ⟨ρ, τ, h, rs, rh, o⟩ := q
  refine ⟨ρ, τ, h, rs, rh, (Out.bind o).imp fun d h1 ρ1 H1 e1 rh1 o1 v rd => ?_⟩
  cases d with
  | tup xs =>
    obtain ⟨p, vs, rfl, e2, r2⟩ := rd
    exact .inl ⟨p, rfl, .inr ⟨⟨vs, SqT.of e2⟩, Out.ok o1 (Ext.refl _ _) rh1 _ (by rw [hK]; exact it_fix e2 r2)⟩⟩
  | str z => exact .inr ⟨z, rd, Out.ok o1 (Ext.refl _ _) rh1 _ it_str⟩
  | ref a =>
    obtain ⟨p, rfl, e2⟩ := rd
    dsimp only at o1
    split at o1
    · rename_i xs hx
      obtain ⟨vs, s1, _⟩ := rh1.get hx e2
      exact .inl ⟨p, rfl, .inl ⟨⟨vs, by rw [← hK]; exact s1⟩, Out.ok o1 (Ext.refl _ _) rh1 _ (by rw [hK]; exact it_lst e2)⟩⟩
    · exact False.elim o1
  | _ => exact False.elim o1

/-! ### loops -/
theorem ps_forG {tg iter : Expr} {body : List Stmt} {ig : IG} {mi : Sl → Hv → R It} {mb : Sl → Hv → RS} {pos : Pos} (hp : PassesOwn (model X.prog X.w) X.A X.env X.xe) (hc : X.calm = true) (hi : PI X tg iter (tDi c mi)) (hg : PG X tg (gOf c.K ig)) (hb : PSs X body (tSs c mb))
    (hs : ∀ x, foldedSetIterable iter X.env x = pure x) : PS X (.For tg iter body [] pos) (tSs c fun τ h => (mi τ h).stm τ fun J h => forL J.nxt (fun d τ h => match asG ig d τ with
      | some τ' => mb τ' h
      | none => .bad) turns 0 τ h) := by
  refine PS.weak (ps_for hp hc hi hg hb hs) fun D σ H q => ?_
  obtain ⟨ρ, τ, h, rs, rh, o⟩ := q
  refine ⟨ρ, τ, h, rs, rh, (OutS.stm o rs).imp fun J h1 ρ1 H1 e1 rh1 o1 J' hj => ?_⟩
  refine ⟨fun i m σ' H' => ∃ ρ' τ' h', RelS ρ' H' τ' σ' ∧ RelH c.K ρ' h' H' ∧ Ext ρ1 H1 ρ' H' ∧ OutS c D σ' ρ' H' (forL J.nxt (fun d τ h => match asG ig d τ with
      | some τ' => mb τ' h
      | none => .bad) m i τ' h'), ⟨turns, ρ1, τ, h1, rs.mono e1, rh1, Ext.refl _ _, o1⟩, ?_⟩
  rintro i m σ' H' ⟨ρ', τ', h', rs', rh', e', o'⟩
  cases m with
  | zero => exact False.elim o'
  | succ n =>
    have hx := hj ρ' h' H' e' rh' i
    unfold forL at o'
    cases q : J.nxt i h' with
    | none => rw [q] at o'; exact False.elim o'
    | some od =>
      cases od with
      | none =>
        rw [q] at o' hx
        exact .inl ⟨hx, o' ρ' H' σ' (Ext.refl _ _) rh' rs'⟩
      | some d =>
        rw [q] at o' hx
        dsimp only at o' hx
        refine .inr ⟨hx.1, fun σ2 H2 => ∃ m', m' < n + 1 ∧ ∃ ρ' τ' h', RelS ρ' H2 τ' σ2 ∧ RelH c.K ρ' h' H2 ∧ Ext ρ1 H1 ρ' H2 ∧ OutS c D σ2 ρ' H2 (forL J.nxt (fun d τ h => match asG ig d τ with
          | some τ' => mb τ' h
          | none => .bad) m' (i + 1) τ' h'), fun _ _ z => z, fun x H2 y => ?_⟩
        obtain ⟨ex, rhx, rx⟩ := hx.2 x H2 y
        cases qa : asG ig d τ' with
        | none => rw [qa] at o'; exact False.elim o'
        | some τ2 =>
          rw [qa] at o'
          dsimp only at o'
          refine gOf_ok ig rx qa (rs'.mono ex) fun σ2 rs2 _ => ⟨ρ', τ2, h', rs2, rhx, ?_⟩
          cases qb : mb τ2 h' with
          | nx τ3 h3 =>
            rw [qb] at o'
            exact fun ρ3 H3 σ3 e3 rh3 rs3 => ⟨n, Nat.lt_succ_self n, ρ3, τ3, h3, rs3, rh3, e'.trans (ex.trans e3), o'.later (ex.trans e3)⟩
          | ct τ3 h3 =>
            rw [qb] at o'
            exact fun ρ3 H3 σ3 e3 rh3 rs3 => ⟨n, Nat.lt_succ_self n, ρ3, τ3, h3, rs3, rh3, e'.trans (ex.trans e3), o'.later (ex.trans e3)⟩
          | bk τ3 h3 =>
            rw [qb] at o'
            exact fun ρ3 H3 σ3 e3 rh3 rs3 => o' ρ3 H3 σ3 (ex.trans e3) rh3 rs3
          | rt d3 h3 =>
            rw [qb] at o'
            exact fun ρ3 H3 v e3 rh3 rv => o' ρ3 H3 v (ex.trans e3) rh3 rv
          | ex cl as τ3 h3 =>
            rw [qb] at o'
            exact fun ρ3 H3 σ3 cls d e3 rh3 rs3 rx3 => o' ρ3 H3 σ3 cls d (ex.trans e3) rh3 rs3 rx3
          | bad => rw [qb] at o'; exact o'
theorem ps_whileG {tst : Expr} {body : List Stmt} {mt : Sl → Hv → R Bool} {mb : Sl → Hv → RS} {pos : Pos} (hp : PassesOwn (model X.prog X.w) X.A X.env X.xe) (ht : PT X tst (tDb c mt)) (hb : PSs X body (tSs c mb)) :
    PS X (.While tst body [] pos) (tSs c fun τ h => whL mt mb turns τ h) := by
  refine PS.weak (ps_while hp ht hb) fun D σ H q => ?_
  obtain ⟨ρ, τ, h, rs, rh, o⟩ := q
  refine ⟨fun m σ' H' => ∃ ρ' τ' h', RelS ρ' H' τ' σ' ∧ RelH c.K ρ' h' H' ∧ OutS c D σ' ρ' H' (whL mt mb m τ' h'), ⟨turns, ρ, τ, h, rs, rh, o⟩, ?_⟩
  rintro m σ' H' ⟨ρ', τ', h', rs', rh', o'⟩
  cases m with
  | zero => exact False.elim o'
  | succ n =>
    unfold whL at o'
    refine ⟨ρ', τ', h', rs', rh', (OutS.stm o' rs').imp fun b h1 ρ1 H1 e1 rh1 o1 => ?_⟩
    cases b with
    | false =>
      rw [if_neg Bool.false_ne_true]
      exact o1 ρ1 H1 σ' (Ext.refl _ _) rh1 (rs'.mono e1)
    | true =>
      rw [if_pos rfl]
      dsimp only at o1
      refine ⟨fun σ2 H2 => ∃ m', m' < n + 1 ∧ ∃ ρ' τ' h', RelS ρ' H2 τ' σ2 ∧ RelH c.K ρ' h' H2 ∧ OutS c D σ2 ρ' H2 (whL mt mb m' τ' h'), fun _ _ z => z, ρ1, τ', h1, rs'.mono e1, rh1, ?_⟩
      cases qb : mb τ' h1 with
      | nx τ3 h3 =>
        rw [qb] at o1
        exact fun ρ3 H3 σ3 e3 rh3 rs3 => ⟨n, Nat.lt_succ_self n, ρ3, τ3, h3, rs3, rh3, o1.later e3⟩
      | ct τ3 h3 =>
        rw [qb] at o1
        exact fun ρ3 H3 σ3 e3 rh3 rs3 => ⟨n, Nat.lt_succ_self n, ρ3, τ3, h3, rs3, rh3, o1.later e3⟩
      | bk τ3 h3 =>
        rw [qb] at o1
        exact fun ρ3 H3 σ3 e3 rh3 rs3 => o1 ρ3 H3 σ3 e3 rh3 rs3
      | rt d3 h3 =>
        rw [qb] at o1
        exact fun ρ3 H3 v e3 rh3 rv => o1 ρ3 H3 v e3 rh3 rv
      | ex cl as τ3 h3 =>
        rw [qb] at o1
        exact fun ρ3 H3 σ3 cls d e3 rh3 rs3 rx3 => o1 ρ3 H3 σ3 cls d e3 rh3 rs3 rx3
      | bad => rw [qb] at o1; exact o1

/-! ### list comprehensions -/
/-- nothing may be raised within -/
abbrev Ck.no (c : Ck) : Ck := { c with W := fun _ _ _ _ => False }
abbrev lcBody (ig : IG) (vs : List Nat) (mt : Sl → Hv → R Bool) (me : Sl → Hv → R D) (τ : Sl) : D → Hv → R (Option D) := fun d h => match asG ig d (wipeS τ vs) with
  | some τ2 => (mt τ2 h).bind fun k h => match k with
    | true => (me τ2 h).bind fun y h => .ok (some y) h
    | false => .ok none h
  | none => .bad
theorem lc_weak {ig : IG} {own : List (Str × Nat)} {mi : Sl → Hv → R It} {mt : Sl → Hv → R Bool} {me : Sl → Hv → R D} (hK : c.K = X.K) (ht : ∀ i ∈ tgs ig, i ∈ own.map (·.2)) {σ : L2.St} {H : Hp} {Q : VK}
    (q : tD c (fun τ h => (mi τ h).bind fun J h => lcL J.nxt (lcBody ig (own.map (·.2)) mt me τ) h.length turns 0 (h ++ [.lst []])) σ H Q) : tLc (tDi c mi) (gOf c.K ig) (tDb c.no mt) (tD c.no me) (own.map (·.2)) σ H Q := by
  obtain ⟨ρ, τ, h, rs, rh, o⟩ := q
  refine ⟨ρ, τ, h, rs, rh, (Out.bind o).imp fun J h1 ρ1 H1 e1 rh1 o1 J' hj Da hD => ?_⟩
  have rs1 := (rs.mono e1).mono (ext_alloc (o := .lst []) hD)
  have rhA : RelH c.K (ρ1 ++ [Da]) (h1 ++ [.lst []]) (upd H1 Da (.lst [])) := rh1.alloc hD rfl
  have at0 : (ρ1 ++ [Da])[h1.length]? = some Da := by
    rw [List.getElem?_append_right (by rw [rh1.len]; exact Nat.le_refl _), rh1.len, Nat.sub_self]; rfl
  refine ⟨fun i m H' => ∃ ρ' h', RelS ρ' H' (wipeS τ (own.map (·.2))) (L2.wipe σ (own.map (·.2))) ∧ RelH c.K ρ' h' H' ∧ Ext (ρ1 ++ [Da]) (upd H1 Da (.lst [])) ρ' H' ∧
    Out c.K c.XI (c.E σ) ρ' H' (lcL J.nxt (lcBody ig (own.map (·.2)) mt me τ) h1.length m i h') fun d _ ρ'' H'' => ∀ v, RelD ρ'' H'' d v → Q v H'', ⟨turns, ρ1 ++ [Da], h1 ++ [.lst []], rs1.wipe _, rhA, Ext.refl _ _, o1.later (ext_alloc hD)⟩, ?_⟩
  rintro i m H' ⟨ρ', h', rs', rh', e', o'⟩
  have atD := e'.at_ _ _ at0
  cases m with
  | zero => exact False.elim o'
  | succ n =>
    have hx := hj ρ' h' H' ((ext_alloc hD).trans e') rh' i
    unfold lcL at o'
    cases q : J.nxt i h' with
    | none => rw [q] at o'; exact False.elim o'
    | some od =>
      cases od with
      | none =>
        rw [q] at o' hx
        exact .inl ⟨hx, o' ρ' H' (Ext.refl _ _) rh' _ ⟨Da, rfl, atD⟩⟩
      | some d =>
        rw [q] at o' hx
        dsimp only at o' hx
        refine .inr ⟨hx.1, fun H2 => ∃ m', m' < n + 1 ∧ ∃ ρ' h', RelS ρ' H2 (wipeS τ (own.map (·.2))) (L2.wipe σ (own.map (·.2))) ∧ RelH c.K ρ' h' H2 ∧ Ext (ρ1 ++ [Da]) (upd H1 Da (.lst [])) ρ' H2 ∧
          Out c.K c.XI (c.E σ) ρ' H2 (lcL J.nxt (lcBody ig (own.map (·.2)) mt me τ) h1.length m' (i + 1) h') fun d _ ρ'' H'' => ∀ v, RelD ρ'' H'' d v → Q v H'', fun _ z => z, fun x H2 y => ?_⟩
        obtain ⟨ex, rhx, rx⟩ := hx.2 x H2 y
        cases qa : asG ig d (wipeS τ (own.map (·.2))) with
        | none => simp only [lcBody, qa] at o'; exact False.elim o'
        | some τ2 =>
          refine gOf_ok ig rx qa (rs'.mono ex) fun σ2 rs2 w2 => ⟨by rw [w2 _ ht, wipe_wipe], ρ', τ2, h', rs2, rhx, ?_⟩
          simp only [lcBody, qa] at o'
          cases qt : mt τ2 h' with
          | bad => rw [qt] at o'; exact False.elim o'
          | ex cl as h2 => rw [qt] at o'; exact False.elim o'
          | ok k h2 =>
            rw [qt] at o'
            intro ρ2 H3 e2 rh2
            cases k with
            | false =>
              rw [if_neg Bool.false_ne_true]
              have o2 : Out c.K c.XI (c.E σ) ρ' H' (lcL J.nxt (lcBody ig (own.map (·.2)) mt me τ) h1.length n (i + 1) h2) fun d _ ρ'' H'' => ∀ v, RelD ρ'' H'' d v → Q v H'' := o'
              exact ⟨n, Nat.lt_succ_self n, ρ2, h2, rs'.mono (ex.trans e2), rh2, e'.trans (ex.trans e2), o2.later (ex.trans e2)⟩
            | true =>
              rw [if_pos rfl]
              refine ⟨ρ2, τ2, h2, rs2.mono e2, rh2, ?_⟩
              have o2 : Out c.K c.XI (c.E σ) ρ' H' (match (me τ2 h2).bind fun y h => R.ok (some y) h with
                | .ok o h' => match o with
                  | none => lcL J.nxt (lcBody ig (own.map (·.2)) mt me τ) h1.length n (i + 1) h'
                  | some y => match h'.lst h1.length with
                    | some acc => if acc.length < lim then lcL J.nxt (lcBody ig (own.map (·.2)) mt me τ) h1.length n (i + 1) (h'.set h1.length (.lst (acc ++ [y]))) else .bad
                    | none => .bad
                | _ => .bad) fun d _ ρ'' H'' => ∀ v, RelD ρ'' H'' d v → Q v H'' := o'
              cases qe : me τ2 h2 with
              | bad => rw [qe] at o2; exact False.elim o2
              | ex cl as h3 => rw [qe] at o2; exact False.elim o2
              | ok z h3 =>
                rw [qe] at o2
                simp only [R.bind] at o2
                intro ρ3 H4 e3 rh3 v rv
                have at3 := e3.at_ _ _ (e2.at_ _ _ (ex.at_ _ _ atD))
                split at o2
                · rename_i acc hacc
                  split at o2
                  · rename_i hl
                    obtain ⟨us, u1, u2⟩ := rh3.lst hacc at3
                    have exs : Ext ρ3 H4 ρ3 (upd H4 Da (.lst (us ++ [v]))) := ext_set u1
                    exact ⟨us, u1, by rw [← u2.len, ← lim_eq]; exact hl, n, Nat.lt_succ_self n, ρ3, _, rs'.mono (ex.trans (e2.trans (e3.trans exs))), rh3.set hacc at3 (u2.app (RelDs.one rv)), e'.trans (ex.trans (e2.trans (e3.trans exs))),
                      o2.later (ex.trans (e2.trans (e3.trans exs)))⟩
                  · exact False.elim o2
                · exact False.elim o2
end
end G4

/-! G8: the checks of the form against the program's text; whoever passes them may be evaluated: expressions. -/
namespace G4
open PySem PySem.Spec PyProof.Rows L2

def vis (sc : Scope) (x : Str) : Bool := match sc.names.lookup x with
  | some .local => true
  | some .cell => true
  | some .free => true
  | _ => false
def loc (sc : Scope) (x : Str) : Bool := match sc.names.lookup x with
  | some .local => true
  | some .cell => true
  | _ => false
def isCell (sc : Scope) (x : Str) : Bool := match sc.names.lookup x with
  | some .cell => true
  | _ => false
def isLocal (sc : Scope) (x : Str) : Bool := match sc.names.lookup x with
  | some .local => true
  | _ => false
def glb (sc : Scope) (x : Str) : Bool := match sc.names.lookup x with
  | some .globalImplicit => true
  | _ => false
theorem vis_ok {sc : Scope} {x : Str} (h : vis sc x = true) : Vis sc x := by
  unfold vis at h
  split at h <;> first | exact .inl (by assumption) | exact .inr (.inl (by assumption)) | exact .inr (.inr (by assumption)) | cases h
theorem loc_ok {sc : Scope} {x : Str} (h : loc sc x = true) : Loc sc x := by
  unfold loc at h
  split at h <;> first | exact .inl (by assumption) | exact .inr (by assumption) | cases h
theorem cell_ok {sc : Scope} {x : Str} (h : isCell sc x = true) : sc.names.lookup x = some .cell := by
  unfold isCell at h
  split at h <;> first | assumption | cases h
theorem local_ok {sc : Scope} {x : Str} (h : isLocal sc x = true) : sc.names.lookup x = some .local := by
  unfold isLocal at h
  split at h <;> first | assumption | cases h
theorem glb_ok {sc : Scope} {x : Str} (h : glb sc x = true) : sc.names.lookup x = some .globalImplicit := by
  unfold glb at h
  split at h <;> first | assumption | cases h
def nameOk (x : Str) : Bool := !(x == ("__debug__" : Str)) && !(x == ("__classdict__" : Str))
theorem nameOk_d {x : Str} (h : nameOk x = true) : (x == ("__debug__" : Str)) = false := by
  unfold nameOk at h
  simp only [Bool.and_eq_true, Bool.not_eq_true'] at h
  exact h.1
theorem nameOk_c {x : Str} (h : nameOk x = true) : (x == ("__classdict__" : Str)) = false := by
  unfold nameOk at h
  simp only [Bool.and_eq_true, Bool.not_eq_true'] at h
  exact h.2
def conD : D → Const → Bool
  | .int i, .int j => decide (i = j)
  | .str x, .str y => decide (x = y)
  | .bl a, .bool b => decide (a = b)
  | .non, .none => true
  | _, _ => false
def noSet : Expr → Bool
  | .Set .. => false
  | _ => true
def noSlice : Expr → Bool
  | .Slice .. => false
  | _ => true
def noCall : Expr → Bool
  | .Call .. => false
  | _ => true
def isTup : Expr → Bool
  | .Tuple .. => true
  | _ => false
/-- truth of its value is asked, nothing else -/
def plainT : Expr → Bool
  | .UnaryOp .Not _ _ => false
  | .BoolOp .. => false
  | .IfExp .. => false
  | .Compare .. => false
  | _ => true
theorem plainT_ok {e : Expr} {env : Env} (h : plainT e = true) (whole : Sem Value) : isTrue e env whole = (do let v ← whole; standAt e.pos; holding [v] (truthy v)) := by
  cases e with
  | UnaryOp op x pos => (cases op <;> first | rfl | cases h)
  | BoolOp _ _ _ => cases h
  | IfExp _ _ _ _ => cases h
  | Compare _ _ _ _ => cases h
  | _ => rfl
theorem noSlice_ix {e : Expr} (h : noSlice e = true) : PlainIx e := fun o i => by
  cases e <;> first | rfl | cases h
theorem noSet_for {e : Expr} {env : Env} (h : noSet e = true) (x : Value) : foldedSetIterable e env x = pure x := by
  cases e <;> first | rfl | cases h
theorem noSet_mark {e : Expr} {op : CmpOp} (h : noSet e = true) : behindInMarks op e = false := by
  cases e <;> first | rfl | cases h
mutual
def chkG (N : List Str) (so sc : Scope) : IG → Expr → Bool
  | .nm i, e => match e with
    | .Name x _ => decide (N[i]? = some x) && ((isCell so x && loc sc x) || isLocal sc x)
    | _ => false
  | .tp gs, e => match e with
    | .Tuple es _ _ => chkGs N so sc gs es
    | _ => false
def chkGs (N : List Str) (so sc : Scope) : List IG → List Expr → Bool
  | [], es => match es with
    | [] => true
    | _ => false
  | g :: gs, es => match es with
    | e :: es => chkG N so sc g e && chkGs N so sc gs es
    | [] => false
end
section
variable (T : Tab) (cc : Cc)
mutual
def chkE (N : List Str) (so sc : Scope) : IE → Expr → Bool
  | .var i, e => match e with
    | .Name x _ => decide (N[i]? = some x) && (vis sc x && nameOk x)
    | _ => false
  | .con d, e => match e with
    | .Constant c _ _ => conD d c
    | _ => false
  | .glo x d, e => match e with
    | .Name y _ => decide (x = y) && (glb sc x && (nameOk x && (match cc.gl x with
      | some d' => eqF d d' && flatD d && flatD d' && decide (d.kd = d'.kd)
      | none => false)))
    | _ => false
  | .b2 o a b, e => match e with
    | .BinOp l op r _ => decide (o.py = op) && (chkE N so sc a l && chkE N so sc b r)
    | _ => false
  | .neg a, e => match e with
    | .UnaryOp op x _ => decide (op = .USub) && chkE N so sc a x
    | _ => false
  | .cm o a b, e => match e with
    | .Compare l ops rs _ => match ops, rs with
      | [op], [r] => decide (o.py = op) && (noSet r && (chkE N so sc a l && chkE N so sc b r))
      | _, _ => false
    | _ => false
  | .cmN n a, e => match e with
    | .Compare l ops rs _ => match ops, rs with
      | [op], [.Constant .none _ _] => decide (op = if n then .IsNot else .Is) && chkE N so sc a l
      | _, _ => false
    | _ => false
  | .ch o o' a b d, e => match e with
    | .Compare l ops rs _ => match ops, rs with
      | [op, op'], [r, r'] => decide (o.py = op) && (decide (o'.py = op') && (noSet r' && (chkE N so sc a l && (chkE N so sc b r && chkE N so sc d r'))))
      | _, _ => false
    | _ => false
  | .bo k es, e => match e with
    | .BoolOp op xs _ => decide (op = if k then .And else .Or) && chkB N so sc es xs
    | _ => false
  | .nt a, e => match e with
    | .UnaryOp op x _ => decide (op = .Not) && chkE N so sc a x
    | _ => false
  | .ie t a b, e => match e with
    | .IfExp x y z _ => chkT N so sc t x && (chkE N so sc a y && chkE N so sc b z)
    | _ => false
  | .tp es, e => match e with
    | .Tuple xs _ _ => chkA N so sc es xs
    | _ => false
  | .ls es, e => match e with
    | .List xs _ => chkA N so sc es xs
    | _ => false
  | .ix a b, e => match e with
    | .Subscript x y _ => noSlice y && (chkE N so sc a x && chkE N so sc b y)
    | _ => false
  | .sl a lo hi, e => match e with
    | .Subscript x y _ => match y with
      | .Slice l u none _ => chkE N so sc a x && (chkO N so sc lo l && chkO N so sc hi u)
      | _ => false
    | _ => false
  | .cf f es, e => match e with
    | .Call (.Name x _) xs kws _ => kws.isEmpty && (decide (x = cc.nm f) && (glb sc x && (nameOk x && ((T f).isSome && (xs.all noStar && chkA N so sc es xs)))))
    | _ => false
  | .ck f es ks pm, e => match e with
    | .Call (.Name x _) xs kws _ => decide (x = cc.nm f) && (glb sc x && (nameOk x && ((T f).isSome && (xs.all noStar && (chkA N so sc es xs && (chkA N so sc ks (kwVals kws) && ((kwVals kws).all noStar &&
        ((kwNames kws).all (·.isSome) && decide (cc.kw f xs.length ((kwNames kws).filterMap id) = some pm)))))))))
    | _ => false
  | .cb b es, e => match e with
    | .Call (.Name x _) xs kws _ => kws.isEmpty && (decide (x = b.py) && (decide (x ∈ cc.bl) && (glb sc x && (!xs.isEmpty && (xs.all noStar && chkA N so sc es xs)))))
    | _ => false
  | .mt m o es, e => match e with
    | .Call (.Attribute x at_ ap) xs kws cp => match xs with
      | [y] => kws.isEmpty && (decide (at_ = m.py) && (noCall x && ((ap.endLine == cp.line) && (noStar y && (chkE N so sc o x && chkA N so sc es [y])))))
      | _ => false
    | _ => false
  | .spl o y, e => match e with
    | .Call (.Attribute x at_ ap) xs kws cp => match xs with
      | [z] => kws.isEmpty && (decide (at_ = "split") && (noCall x && ((ap.endLine == cp.line) && (noStar z && (chkE N so sc o x && chkE N so sc y z)))))
      | _ => false
    | _ => false
  | .joi o y, e => match e with
    | .Call (.Attribute x at_ ap) xs kws cp => match xs with
      | [z] => kws.isEmpty && (decide (at_ = "join") && (noCall x && ((ap.endLine == cp.line) && (noStar z && (chkE N so sc o x && chkE N so sc y z)))))
      | _ => false
    | _ => false
  | .isi a t, e => match e with
    | .Call (.Name x _) xs kws _ => match xs with
      | [y, .Name z _] => kws.isEmpty && (decide (x = "isinstance") && (decide (("isinstance" : Str) ∈ cc.bl) && (glb sc x && (noStar y && (chkE N so sc a y && (decide (z = Str.ofString t.py) && (decide (z ∈ cc.bl) && glb sc z)))))))
      | _ => false
    | _ => false
  | .isiT _ _, _ => false
  | .lc own g it _ tt elt, e => match e with
    | .ListComp x gens scope _ => match gens with
      | [⟨tg, iter, ifs, as⟩] => decide (as = 0) && (blkC N sc scope own && (chkG N scope (relS scope sc) g tg && ((tgs g).all (fun i => decide (i ∈ own.map (·.2))) && (noSet iter && (chkI N so sc (isTup tg) it iter &&
          ((match ifs with
            | [] => match tt with
              | .yes => true
              | _ => false
            | [t] => chkT N scope (relS scope sc) tt t
            | _ => false) && chkE N scope (relS scope sc) elt x))))))
      | _ => false
    | _ => false
def chkB (N : List Str) (so sc : Scope) : IA → List Expr → Bool
  | .nil, _ => false
  | .cons e r, xs => match xs with
    | x :: xs => chkE N so sc e x && (match r, xs with
      | .nil, [] => true
      | .nil, _ => false
      | _, [] => false
      | _, _ => chkB N so sc r xs)
    | [] => false
  | .star _ _, _ => false
def chkA (N : List Str) (so sc : Scope) : IA → List Expr → Bool
  | .nil, xs => xs.isEmpty
  | .cons e r, xs => match xs with
    | x :: xs => noStar x && (chkE N so sc e x && chkA N so sc r xs)
    | [] => false
  | .star e r, xs => match xs with
    | .Starred x _ :: xs => chkE N so sc e x && chkA N so sc r xs
    | _ => false
def chkO (N : List Str) (so sc : Scope) : IO → Option Expr → Bool
  | .no, x => x.isNone
  | .so e, x => match x with
    | some x => chkE N so sc e x
    | none => false
def chkT (N : List Str) (so sc : Scope) : IT → Expr → Bool
  | .v e, x => plainT x && chkE N so sc e x
  | .cm o a b, e => match e with
    | .Compare l ops rs _ => match ops, rs with
      | [op], [r] => decide (o.py = op) && (noSet r && (chkE N so sc a l && chkE N so sc b r))
      | _, _ => false
    | _ => false
  | .cmN n a, e => match e with
    | .Compare l ops rs _ => match ops, rs with
      | [op], [.Constant .none _ _] => decide (op = if n then .IsNot else .Is) && chkE N so sc a l
      | _, _ => false
    | _ => false
  | .ch o o' a b d, e => match e with
    | .Compare l ops rs _ => match ops, rs with
      | [op, op'], [r, r'] => decide (o.py = op) && (decide (o'.py = op') && (noSet r' && (chkE N so sc a l && (chkE N so sc b r && chkE N so sc d r'))))
      | _, _ => false
    | _ => false
  | .bo k ts, e => match e with
    | .BoolOp op xs _ => decide (op = if k then .And else .Or) && chkTs N so sc ts xs
    | _ => false
  | .nt t, e => match e with
    | .UnaryOp op x _ => decide (op = .Not) && chkT N so sc t x
    | _ => false
  | .yes, _ => false
def chkTs (N : List Str) (so sc : Scope) : ITs → List Expr → Bool
  | .nil, _ => false
  | .cons t r, xs => match xs with
    | x :: xs => chkT N so sc t x && (match r, xs with
      | .nil, [] => true
      | .nil, _ => false
      | _, [] => false
      | _, _ => chkTs N so sc r xs)
    | [] => false
/-- tt: the target is a tuple -/
def chkI (N : List Str) (so sc : Scope) (tt : Bool) : II → Expr → Bool
  | .seq e, x => chkE N so sc e x
  | .rng es, x => match x with
    | .Call (.Name y _) xs kws _ => kws.isEmpty && (decide (y = "range") && (decide (("range" : Str) ∈ cc.bl) && (glb sc y && (xs.all noStar && ((xs.length == 1 || xs.length == 2) && chkA N so sc es xs)))))
    | _ => false
  | .enm e, x => match x with
    | .Call (.Name y _) xs kws _ => match xs with
      | [z] => kws.isEmpty && (decide (y = "enumerate") && (decide (("enumerate" : Str) ∈ cc.bl) && (glb sc y && (noStar z && (chkE N so sc e z && tt)))))
      | _ => false
    | _ => false
  | .zip a b, x => match x with
    | .Call (.Name y _) xs kws _ => match xs with
      | [z, w] => kws.isEmpty && (decide (y = "zip") && (decide (("zip" : Str) ∈ cc.bl) && (glb sc y && (noStar z && (noStar w && (chkE N so sc a z && (chkE N so sc b w && tt)))))))
      | _ => false
    | _ => false
end
end
end G4

/-! G9: whoever passes the checks may be evaluated: expressions. -/
namespace G4
open PySem PySem.Spec PyProof.Rows L2

theorem and2 {a b : Bool} (h : (a && b) = true) : a = true ∧ b = true := Bool.and_eq_true_iff.mp h
section
variable {T : Tab} {cc : Cc} {k : Nat}
theorem assign_star {e : Expr} {es : List Expr} {env : Env} {N so sc} {g : IG} (h : chkG N so sc g e = true) : assignEach (e :: es) env = (false, assign e env) :: assignEach es env := by
  cases e <;> first | rfl | (cases g <;> cases h)
theorem assign_len {env : Env} {N : List Str} {so sc : Scope} : ∀ {gs : List IG} {es : List Expr}, chkGs N so sc gs es = true → (assignEach es env).length = gs.length ∧ (assignEach es env).findIdx? (·.1) = none
  | [], es, h => by
    cases es with
    | nil => exact ⟨rfl, rfl⟩
    | cons e es => cases h
  | g :: gs, es, h => by
    cases es with
    | nil => cases h
    | cons e es =>
      obtain ⟨h1, h2⟩ := and2 h
      obtain ⟨l1, l2⟩ := assign_len (env := env) h2
      rw [assign_star h1]
      refine ⟨by simp [l1], ?_⟩
      rw [List.findIdx?_cons]
      simp [l2]
mutual
theorem pg_ok : ∀ (g : IG) {N : List Str} {so sc : Scope} {c : Ck} {X : Cx} {e : Expr}, Gd T cc k N so sc c X → chkG N so sc g e = true → PG X e (gOf X.K g)
  | .nm i, N, so, sc, c, X, e, g, h => by
    unfold chkG at h
    split at h
    · rename_i x p
      obtain ⟨h1, h2⟩ := and2 h
      have hN : X.N[i]? = some x := by rw [g.hN]; exact of_decide_eq_true h1
      have hn : X.N.Nodup := by rw [g.hN]; exact g.nd
      rcases Bool.or_eq_true_iff.mp h2 with h3 | h3
      · obtain ⟨h4, h5⟩ := and2 h3
        exact pg_name hn hN (by rw [g.hs]; exact loc_ok h5) (.inl (g.fnl _ (cell_ok h4)))
      · have hl : X.env.scope.names.lookup x = some .local := by rw [g.hs]; exact local_ok h3
        exact pg_name hn hN (.inl hl) (.inr hl)
    · cases h
  | .tp gs, N, so, sc, c, X, e, g, h => by
    unfold chkG at h
    split at h
    · obtain ⟨l1, l2⟩ := assign_len (env := X.env) h
      exact pg_tup g.calm (pgs_ok gs g h) l1 l2
    · cases h
theorem pgs_ok : ∀ (gs : List IG) {N : List Str} {so sc : Scope} {c : Ck} {X : Cx} {es : List Expr}, Gd T cc k N so sc c X → chkGs N so sc gs es = true → PGs X es (gsOf X.K gs)
  | [], N, so, sc, c, X, es, g, h => by
    cases es with
    | nil => exact pgs_nil
    | cons e es => cases h
  | gg :: gs, N, so, sc, c, X, es, g, h => by
    cases es with
    | nil => cases h
    | cons e es =>
      obtain ⟨h1, h2⟩ := and2 h
      exact pgs_cons (pg_ok gg g h1) (pgs_ok gs g h2) (by rw [assign_star h1]; rfl)
end

section
variable {X : Cx} {c : Ck}
theorem bin_weak {ma mb : Sl → Hv → R D} {f : D → D → Hv → R D} {r : R2} (hK : c.K = X.K)
    (hr : ∀ {ρ h H x y v u Q E}, RelH X.K ρ h H → RelD ρ H x v → RelD ρ H y u → PostD X.K c.XI E ρ H (f x y h) Q → r v u H Q) {σ : L2.St} {H : Hp} {Q : VK}
    (q : tD c (fun τ h => (ma τ h).bind fun x h => (mb τ h).bind fun y h => f x y h) σ H Q) : tOp r (tD c ma) (tD c mb) σ H Q := by
  obtain ⟨ρ, τ, h, rs, rh, o⟩ := q
  refine ⟨ρ, τ, h, rs, rh, (Out.bind o).imp fun d1 h1 ρ1 H1 e1 rh1 o1 v1 rd1 => ?_⟩
  refine ⟨ρ1, τ, h1, rs.mono e1, rh1, (Out.bind o1).imp fun d2 h2 ρ2 H2 e2 rh2 o2 v2 rd2 => ?_⟩
  rw [hK] at rh2 o2
  exact hr rh2 (rd1.mono e2) rd2 o2
theorem isN_rel {ρ : List Addr} {H : Hp} {d : D} {v : V} (r : RelD ρ H d v) : (match d with
    | .non => true
    | _ => false) = decide (v = .non) := by
  cases d with
  | non => have e : v = .non := r; subst e; rfl
  | bl b => have e : v = .bl b := r; subst e; rfl
  | int b => have e : v = .int b := r; subst e; rfl
  | str b => have e : v = .str b := r; subst e; rfl
  | tup ds => obtain ⟨p, xs, rfl, _⟩ := r; rfl
  | ref a => obtain ⟨p, rfl, _⟩ := r; rfl
theorem eqF_eq {d e : D} (h : (eqF d e && flatD d && flatD e && decide (d.kd = e.kd)) = true) : d = e := by
  cases d <;> cases e <;> simp_all [eqF, flatD, D.kd]
theorem evA_len {N : List Str} {so sc : Scope} : ∀ (es : IA) {xs : List Expr} {τ : Sl} {h : Hv} {ds : List D} {h' : Hv}, chkA T cc N so sc es xs = true → xs.all noStar = true → evA (den T k) es τ h = .ok ds h' → ds.length = xs.length
  | .nil, xs, τ, h, ds, h', hc, _, e => by
    unfold chkA at hc
    simp only [evA] at e
    cases e
    cases xs with
    | nil => rfl
    | cons x xs => cases hc
  | .cons a r, xs, τ, h, ds, h', hc, ns, e => by
    unfold chkA at hc
    cases xs with
    | nil => cases hc
    | cons x xs =>
      obtain ⟨_, h2⟩ := and2 hc
      obtain ⟨_, h3⟩ := and2 h2
      rw [List.all_cons] at ns
      simp only [evA] at e
      cases q : evE (den T k) a τ h with
      | bad => rw [q] at e; cases e
      | ex cl as h1 => rw [q] at e; cases e
      | ok d h1 =>
        rw [q] at e
        simp only [R.bind] at e
        cases q2 : evA (den T k) r τ h1 with
        | bad => rw [q2] at e; cases e
        | ex cl as h2 => rw [q2] at e; cases e
        | ok ds2 h2 =>
          rw [q2] at e
          cases e
          rw [List.length_cons, List.length_cons, evA_len r h3 (and2 ns).2 q2]
  | .star a r, xs, τ, h, ds, h', hc, ns, e => by
    unfold chkA at hc
    split at hc
    · rw [List.all_cons] at ns
      cases (and2 ns).1
    · cases hc
theorem some_names {ns : List (Option Str)} (h : ns.all (·.isSome) = true) : ns = (ns.filterMap id).map some := by
  induction ns with
  | nil => rfl
  | cons n ns ih =>
    rw [List.all_cons] at h
    obtain ⟨h1, h2⟩ := and2 h
    cases n with
    | none => cases h1
    | some x =>
      show some x :: ns = some x :: (ns.filterMap id).map some
      rw [← ih h2]
end
/-- the context of a comprehension's block -/
theorem Gd.blk {N : List Str} {so sc : Scope} {c : Ck} {X : Cx} (g : Gd T cc k N so sc c X) {scope : Scope} (hk : scope.kind = .function) (s : Shared) (H : Hp) (C : Addr) (cl : List (Str × Addr)) (fp : List Addr) :
    Gd T cc k N scope (relS scope sc) c.no (X.blk s H scope (compEnvC scope cl C X.env) fp) :=
  ⟨g.st, g.hK, g.hN, g.nd, by rw [← g.hs]; rfl, hk, g.calm, fun x hx => by
      show (scope.names.lookup x == some .cell) = true
      rw [hx]; rfl, g.room, g.grd, fun σ pins H s e s' I z => by
      obtain ⟨_, _, _, _, _, _, _, _, _, _, _, _, w⟩ := z
      exact w.elim, PassesOwn.never⟩
theorem Gd.units {N : List Str} {so sc : Scope} {c : Ck} {X : Cx} (g : Gd T cc k N so sc c X) : X.A.units + 65 < cLine := by
  have := g.room.un
  omega
theorem Gd.gl {N : List Str} {so sc : Scope} {c : Ck} {X : Cx} (g : Gd T cc k N so sc c X) {x : Str} (h : glb sc x = true) : Gl X x := by
  show X.env.scope.names.lookup x = _
  rw [g.hs]; exact glb_ok h
mutual
theorem sndE : ∀ (ir : IE) {N : List Str} {so sc : Scope} {c : Ck} {X : Cx} {e : Expr}, Gd T cc k N so sc c X → chkE T cc N so sc ir e = true → PE X e (tD c (evE (den T k) ir))
  | .var i, N, so, sc, c, X, e, g, h => by
    unfold chkE at h
    split at h
    · obtain ⟨h1, h2⟩ := and2 h
      obtain ⟨h2, h3⟩ := and2 h2
      refine PE.weak (pe_var (by rw [g.hN]; exact of_decide_eq_true h1) (by rw [g.hs]; exact vis_ok h2) (nameOk_d h3) (nameOk_c h3)) fun σ H Q q => ?_
      obtain ⟨ρ, τ, h, rs, rh, o⟩ := q
      simp only [evE] at o
      split at o
      · rename_i d hd
        obtain ⟨v, e1, r1⟩ := rs.get hd
        exact ⟨v, e1, Out.ok o (Ext.refl _ _) rh v r1⟩
      · exact False.elim o
    · cases h
  | .con d, N, so, sc, c, X, e, g, h => by
    unfold chkE at h
    split at h
    · rename_i cst j pos
      cases d <;> cases cst <;> first
        | (cases h; done)
        | (first
            | refine PE.weak pe_non fun σ H Q q => ?_
            | (have e1 := of_decide_eq_true h; subst e1; refine PE.weak pe_bl fun σ H Q q => ?_)
            | (have e1 := of_decide_eq_true h; subst e1; refine PE.weak pe_int fun σ H Q q => ?_)
            | (have e1 := of_decide_eq_true h; subst e1; refine PE.weak pe_str fun σ H Q q => ?_)
           obtain ⟨ρ, τ, h, rs, rh, o⟩ := q
           simp only [evE] at o
           exact Out.ok o (Ext.refl _ _) rh _ rfl)
    · cases h
  | .glo x d, N, so, sc, c, X, e, g, h => by
    unfold chkE at h
    split at h
    · obtain ⟨h1, h2⟩ := and2 h
      obtain ⟨h2, h3⟩ := and2 h2
      obtain ⟨h3, h4⟩ := and2 h3
      have e1 := of_decide_eq_true h1
      subst e1
      split at h4
      · rename_i d' hd
        obtain ⟨u, v, hm, rv, rd⟩ := g.st.gl _ _ hd
        have e2 := eqF_eq h4
        subst e2
        refine PE.weak (pe_glob (g.gl h2) hm rv (nameOk_d h3)) fun σ H Q q => ?_
        obtain ⟨ρ, τ, h, rs, rh, o⟩ := q
        simp only [evE] at o
        exact Out.ok o (Ext.refl _ _) rh _ (rd _ _)
      · cases h4
    · cases h
  | .b2 o a b, N, so, sc, c, X, e, g, h => by
    unfold chkE at h
    split at h
    · obtain ⟨h1, h2⟩ := and2 h
      obtain ⟨h2, h3⟩ := and2 h2
      have e1 := of_decide_eq_true h1
      subst e1
      refine PE.weak (pe_op (op_all2 o) (sndE a g h2) (sndE b g h3)) fun σ H Q q => ?_
      obtain ⟨ρ, τ, h, rs, rh, o1⟩ := q
      simp only [evE] at o1
      exact bin_weak g.hK (fun rh rx ry p => b2_ok o rh rx ry p) ⟨ρ, τ, h, rs, rh, o1⟩
    · cases h
  | .neg a, N, so, sc, c, X, e, g, h => by
    unfold chkE at h
    split at h
    · obtain ⟨h1, h2⟩ := and2 h
      have e1 := of_decide_eq_true h1
      subst e1
      refine PE.weak (pe_un un_neg (sndE a g h2)) fun σ H Q q => ?_
      obtain ⟨ρ, τ, h, rs, rh, o⟩ := q
      simp only [evE] at o
      refine ⟨ρ, τ, h, rs, rh, (Out.bind o).imp fun d1 h1 ρ1 H1 e1 rh1 o1 v1 rd1 => ?_⟩
      split at o1
      · exact ⟨_, rd1, Out.ok o1 (Ext.refl _ _) rh1 _ rfl⟩
      · exact False.elim o1
    · cases h
  | .cm o a b, N, so, sc, c, X, e, g, h => by
    unfold chkE at h
    split at h
    · split at h
      · obtain ⟨h1, h2⟩ := and2 h
        obtain ⟨h2, h3⟩ := and2 h2
        obtain ⟨h3, h4⟩ := and2 h3
        have e1 := of_decide_eq_true h1
        subst e1
        refine PE.weak (pe_cmpR (op_cmpA g.units o) (sndE a g h3) (sndE b g h4) (noSet_mark h2)) fun σ H Q q => ?_
        obtain ⟨ρ, τ, h, rs, rh, o1⟩ := q
        simp only [evE] at o1
        refine bin_weak (f := fun x y h => match o.ev x y h with
          | some k => .ok (.bl k) h
          | none => .bad) g.hK (fun rh rx ry p => ?_) ⟨ρ, τ, h, rs, rh, o1⟩
        split at p
        · exact cmp_ok o rh rx ry (by assumption) (Out.ok p (Ext.refl _ _) rh _ rfl)
        · exact False.elim p
      · cases h
    · cases h
  | .cmN n a, N, so, sc, c, X, e, g, h => by
    unfold chkE at h
    split at h
    · split at h
      · obtain ⟨h1, h2⟩ := and2 h
        have e1 := of_decide_eq_true h1
        cases n with
        | false =>
          have e1 : _ = CmpOp.Is := e1
          subst e1
          refine PE.weak (pe_cmpR op_isN (sndE a g h2) pe_non (nomark _ (by decide) (by decide))) fun σ H Q q => ?_
          obtain ⟨ρ, τ, h, rs, rh, o⟩ := q
          simp only [evE] at o
          refine ⟨ρ, τ, h, rs, rh, (Out.bind o).imp fun d1 h1 ρ1 H1 e1 rh1 o1 v1 rd1 => ⟨rfl, ?_⟩⟩
          rw [← isN_rel rd1]
          cases d1 <;> exact Out.ok o1 (Ext.refl _ _) rh1 _ rfl
        | true =>
          have e1 : _ = CmpOp.IsNot := e1
          subst e1
          refine PE.weak (pe_cmpR op_notN (sndE a g h2) pe_non (nomark _ (by decide) (by decide))) fun σ H Q q => ?_
          obtain ⟨ρ, τ, h, rs, rh, o⟩ := q
          simp only [evE] at o
          refine ⟨ρ, τ, h, rs, rh, (Out.bind o).imp fun d1 h1 ρ1 H1 e1 rh1 o1 v1 rd1 => ⟨rfl, ?_⟩⟩
          rw [← isN_rel rd1]
          cases d1 <;> exact Out.ok o1 (Ext.refl _ _) rh1 _ rfl
      · cases h
    · cases h
  | .ch o o' a b d, N, so, sc, c, X, e, g, h => by
    unfold chkE at h
    split at h
    · split at h
      · obtain ⟨h1, h2⟩ := and2 h
        obtain ⟨h2, h3⟩ := and2 h2
        obtain ⟨h3, h4⟩ := and2 h3
        obtain ⟨h4, h5⟩ := and2 h4
        obtain ⟨h5, h6⟩ := and2 h5
        have e1 := of_decide_eq_true h1
        subst e1
        have e2 := of_decide_eq_true h2
        subst e2
        refine PE.weak (pe_chain (op_cmpA g.units o) (op_cmpA g.units o') (sndE a g h4) (sndE b g h5) (sndE d g h6) (noSet_mark h3)) fun σ H Q q => ?_
        obtain ⟨ρ, τ, h, rs, rh, q1⟩ := q
        simp only [evE] at q1
        refine ⟨ρ, τ, h, rs, rh, (Out.bind q1).imp fun d1 h1 ρ1 H1 e1 rh1 o1 v1 rd1 => ?_⟩
        refine ⟨ρ1, τ, h1, rs.mono e1, rh1, (Out.bind o1).imp fun d2 h2 ρ2 H2 e2 rh2 o2 v2 rd2 => ?_⟩
        have rhX : RelH X.K ρ2 h2 H2 := by rw [← g.hK]; exact rh2
        split at o2
        · rename_i hk
          refine cmp_ok o rhX (rd1.mono e2) rd2 hk ⟨true, rfl, ?_⟩
          rw [if_pos rfl]
          refine ⟨ρ2, τ, h2, (rs.mono e1).mono e2, rh2, (Out.bind o2).imp fun d3 h3 ρ3 H3 e3 rh3 o3 v3 rd3 => ?_⟩
          have rhX : RelH X.K ρ3 h3 H3 := by rw [← g.hK]; exact rh3
          split at o3
          · exact cmp_ok o' rhX (rd2.mono e3) rd3 (by assumption) (Out.ok o3 (Ext.refl _ _) rh3 _ rfl)
          · exact False.elim o3
        · rename_i hk
          refine cmp_ok o rhX (rd1.mono e2) rd2 hk ⟨false, rfl, ?_⟩
          rw [if_neg Bool.false_ne_true]
          exact Out.ok o2 (Ext.refl _ _) rh2 _ rfl
        · exact False.elim o2
      · cases h
    · cases h
  | .bo kk es, N, so, sc, c, X, e, g, h => by
    unfold chkE at h
    split at h
    · obtain ⟨h1, h2⟩ := and2 h
      have e1 := of_decide_eq_true h1
      subst e1
      exact PE.weak (sndB es g h2) fun σ H Q q => by
        obtain ⟨ρ, τ, h, rs, rh, o⟩ := q
        simp only [evE] at o
        exact ⟨ρ, τ, h, rs, rh, o⟩
    · cases h
  | .nt a, N, so, sc, c, X, e, g, h => by
    unfold chkE at h
    split at h
    · obtain ⟨h1, h2⟩ := and2 h
      have e1 := of_decide_eq_true h1
      subst e1
      refine PE.weak (pe_not (sndE a g h2)) fun σ H Q q => ?_
      obtain ⟨ρ, τ, h, rs, rh, o⟩ := q
      simp only [evE] at o
      refine ⟨ρ, τ, h, rs, rh, (Out.bind o).imp fun d1 h1 ρ1 H1 e1 rh1 o1 v1 rd1 => ?_⟩
      split at o1
      · exact ⟨_, rd1, Out.ok o1 (Ext.refl _ _) rh1 _ rfl⟩
      · exact False.elim o1
    · cases h
  | .ie t a b, N, so, sc, c, X, e, g, h => by
    unfold chkE at h
    split at h
    · obtain ⟨h1, h2⟩ := and2 h
      obtain ⟨h2, h3⟩ := and2 h2
      refine PE.weak (pe_ifExp (sndT t g h1) (sndE a g h2) (sndE b g h3)) fun σ H Q q => ?_
      obtain ⟨ρ, τ, h, rs, rh, o⟩ := q
      simp only [evE] at o
      refine ⟨ρ, τ, h, rs, rh, (Out.bind o).imp fun kk h1 ρ1 H1 e1 rh1 o1 => ?_⟩
      cases kk with
      | true => rw [if_pos rfl]; exact ⟨ρ1, τ, h1, rs.mono e1, rh1, o1⟩
      | false => rw [if_neg Bool.false_ne_true]; exact ⟨ρ1, τ, h1, rs.mono e1, rh1, o1⟩
    · cases h
  | .tp es, N, so, sc, c, X, e, g, h => by
    unfold chkE at h
    split at h
    · refine PE.weak (pe_tup (sndA es g h)) fun σ H Q q => ?_
      obtain ⟨ρ, τ, h, rs, rh, o⟩ := q
      simp only [evE] at o
      refine ⟨ρ, τ, h, rs, rh, (Out.bind o).imp fun ds h1 ρ1 H1 e1 rh1 o1 vs rd => ?_⟩
      split at o1
      · rename_i hl
        exact ⟨by rw [← rd.len, ← lim_eq]; exact hl, PostD.newt o1 rh1 rd⟩
      · exact False.elim o1
    · cases h
  | .ls es, N, so, sc, c, X, e, g, h => by
    unfold chkE at h
    split at h
    · refine PE.weak (pe_lst (sndA es g h)) fun σ H Q q => ?_
      obtain ⟨ρ, τ, h, rs, rh, o⟩ := q
      simp only [evE] at o
      exact ⟨ρ, τ, h, rs, rh, (Out.bind o).imp fun ds h1 ρ1 H1 e1 rh1 o1 vs rd => PostD.mk o1 rh1 rd⟩
    · cases h
  | .ix a b, N, so, sc, c, X, e, g, h => by
    unfold chkE at h
    split at h
    · obtain ⟨h1, h2⟩ := and2 h
      obtain ⟨h2, h3⟩ := and2 h2
      refine PE.weak (pe_ix ix_seq (sndE a g h2) (sndE b g h3) (noSlice_ix h1)) fun σ H Q q => ?_
      obtain ⟨ρ, τ, h, rs, rh, o1⟩ := q
      simp only [evE] at o1
      exact bin_weak g.hK (fun rh rx ry p => item_ok rh rx ry p) ⟨ρ, τ, h, rs, rh, o1⟩
    · cases h
  | .sl a lo hi, N, so, sc, c, X, e, g, h => by
    unfold chkE at h
    split at h
    · split at h
      · obtain ⟨h1, h2⟩ := and2 h
        obtain ⟨h2, h3⟩ := and2 h2
        refine PE.weak (pe_slice (sl_list.or sl_str) (sndE a g h1) (sndO lo g h2) (sndO hi g h3)) fun σ H Q q => ?_
        obtain ⟨ρ, τ, h, rs, rh, o⟩ := q
        simp only [evE] at o
        refine ⟨ρ, τ, h, rs, rh, (Out.bind o).imp fun d1 h1 ρ1 H1 e1 rh1 o1 v1 rd1 => ?_⟩
        refine ⟨ρ1, τ, h1, rs.mono e1, rh1, (Out.bind o1).imp fun l h2 ρ2 H2 e2 rh2 o2 => ?_⟩
        refine ⟨ρ2, τ, h2, (rs.mono e1).mono e2, rh2, (Out.bind o2).imp fun u h3 ρ3 H3 e3 rh3 o3 => ?_⟩
        rw [g.hK] at rh3 o3
        exact slice_ok rh3 ((rd1.mono e2).mono e3) o3
      · cases h
    · cases h
  | .cf f es, N, so, sc, c, X, e, g, h => by
    unfold chkE at h
    split at h
    · rename_i x p xs kws pos
      obtain ⟨h0, h⟩ := and2 h
      obtain ⟨h1, h⟩ := and2 h
      obtain ⟨h2, h⟩ := and2 h
      obtain ⟨h3, h⟩ := and2 h
      obtain ⟨h4, h⟩ := and2 h
      obtain ⟨h5, h6⟩ := and2 h
      obtain ⟨fn, hf⟩ := Option.isSome_iff_exists.mp h4
      cases kws with
      | cons kw kws => cases h0
      | nil =>
        cases xs with
        | nil =>
          cases es with
          | nil =>
            refine PE.weak (pe_callG0 g hf (of_decide_eq_true h1) (g.gl h2) (nameOk_d h3)) fun σ H Q q => ?_
            obtain ⟨ρ, τ, h, rs, rh, o⟩ := q
            simp only [evE, evA] at o
            exact ⟨ρ, τ, h, rs, rh, o⟩
          | cons a r => cases h6
          | star a r => cases h6
        | cons x0 xs =>
          rw [List.all_cons] at h5
          obtain ⟨h7, h8⟩ := and2 h5
          refine PE.weak (pe_callG g hf (of_decide_eq_true h1) (g.gl h2) (nameOk_d h3) h7 h8 (sndA es g h6)) fun σ H Q q => ?_
          obtain ⟨ρ, τ, h, rs, rh, o⟩ := q
          simp only [evE] at o
          exact ⟨ρ, τ, h, rs, rh, o⟩
    · cases h
  | .ck f es ks pm, N, so, sc, c, X, e, g, h => by
    unfold chkE at h
    split at h
    · rename_i x p xs kws pos
      obtain ⟨h1, h⟩ := and2 h
      obtain ⟨h2, h⟩ := and2 h
      obtain ⟨h3, h⟩ := and2 h
      obtain ⟨h4, h⟩ := and2 h
      obtain ⟨h5, h⟩ := and2 h
      obtain ⟨h6, h⟩ := and2 h
      obtain ⟨h7, h⟩ := and2 h
      obtain ⟨h8, h⟩ := and2 h
      obtain ⟨h9, h10⟩ := and2 h
      obtain ⟨fn, hf⟩ := Option.isSome_iff_exists.mp h4
      have hk := sndK ks g h7 h8
      refine PE.weak (pe_callKG g hf (of_decide_eq_true h1) (g.gl h2) (nameOk_d h3) h5 (some_names h9) (of_decide_eq_true h10) (sndA es g h6) hk (fun τ h ds h' e => evA_len es h6 h5 e)
        (fun τ h ds h' e => by rw [evA_len ks h7 h8 e]; simp [kwVals]) (fun e τ h => ?_)) fun σ H Q q => ?_
      · subst e
        cases es with
        | nil => rfl
        | cons a r => cases h6
        | star a r => cases h6
      · obtain ⟨ρ, τ, h, rs, rh, o⟩ := q
        simp only [evE] at o
        exact ⟨ρ, τ, h, rs, rh, o⟩
    · cases h
  | .cb b es, N, so, sc, c, X, e, g, h => by
    unfold chkE at h
    split at h
    · rename_i x p xs kws pos
      obtain ⟨h0, h⟩ := and2 h
      obtain ⟨h1, h⟩ := and2 h
      obtain ⟨h2, h⟩ := and2 h
      obtain ⟨h3, h⟩ := and2 h
      obtain ⟨h4, h⟩ := and2 h
      obtain ⟨h5, h6⟩ := and2 h
      cases kws with
      | cons kw kws => cases h0
      | nil =>
        cases xs with
        | nil => cases h4
        | cons x0 xs =>
          rw [List.all_cons] at h5
          obtain ⟨h7, h8⟩ := and2 h5
          have e1 := of_decide_eq_true h1
          subst e1
          have hm := g.st.bl _ (of_decide_eq_true h2)
          have hcb := call_bu (X := X) g.calm g.grd (by have := g.units; omega) b
          have hv := b.boot
          have main : PE X (.Call (.Name b.py p) (x0 :: xs) [] pos) (tCB (rBu X.K b) (tDs c (evA (den T k) es))) := by
            cases hfn : b.fn with
            | builtin id =>
              rw [hfn] at hcb hv
              exact pe_callB hcb (g.gl h3) hm hv (sndA es g h6) b.nm b.db (star_cons h7) (star_all h8)
            | type t =>
              rw [hfn] at hcb hv
              exact pe_callTy hcb (g.gl h3) hm hv (sndA es g h6) b.nm b.db (star_cons h7) (star_all h8)
            | _ => cases b <;> cases hfn
          refine PE.weak main fun σ H Q q => ?_
          obtain ⟨ρ, τ, h, rs, rh, o⟩ := q
          simp only [evE] at o
          refine ⟨ρ, τ, h, rs, rh, (Out.bind o).imp fun ds h1 ρ1 H1 e1 rh1 o1 vs rd => ?_⟩
          rw [g.hK] at rh1 o1
          exact bu_ok b rh1 rd o1
    · cases h
  | .mt m o es, N, so, sc, c, X, e, g, h => by
    unfold chkE at h
    split at h
    · split at h
      · rename_i x at_ ap kws cp xs' y
        obtain ⟨h0, h⟩ := and2 h
        obtain ⟨h1, h⟩ := and2 h
        obtain ⟨h2, h⟩ := and2 h
        obtain ⟨h3, h⟩ := and2 h
        obtain ⟨h4, h⟩ := and2 h
        obtain ⟨h5, h6⟩ := and2 h
        cases kws with
        | cons kw kws => cases h0
        | nil =>
          have e1 := of_decide_eq_true h1
          subst e1
          have hbase : ∀ nm : Str, attributeBase x nm X.env (eval x X.env) = eval x X.env := fun nm => by
            cases x <;> first | rfl | cases h2
          have hfew : ((backTo cp (starEach [y] X.env)).all (fun x => !x.1) && (backToKw cp (keywordEach [] X.env)).all (fun x => x.1.isSome)
            && decide (([y] : List Expr).length + ([] : List Keyword).length + (if ([] : List Keyword).isEmpty then 0 else 1) < 30)) = true := by
            rw [star_cons h4]; rfl
          have main : PE X (.Call (.Attribute x m.py ap) [y] [] cp) (tBM X.K "list" (rMe m) (tD c (evE (den T k) o)) (tDs c (evA (den T k) es))) := by
            cases m with
            | append => exact pe_bm PySem.F.plainAttrs_list PySem.F.slot_list_append PySem.F.type_list_append mt_append (sndE o g h5) (sndA es g h6) (hbase _) hfew h3 (star_cons h4) rfl
            | extend => exact pe_bm PySem.F.plainAttrs_list PySem.F.slot_list_extend PySem.F.type_list_extend mt_extend (sndE o g h5) (sndA es g h6) (hbase _) hfew h3 (star_cons h4) rfl
          refine PE.weak main fun σ H Q q => ?_
          obtain ⟨ρ, τ, h, rs, rh, q1⟩ := q
          simp only [evE] at q1
          refine ⟨ρ, τ, h, rs, rh, (Out.bind q1).imp fun d1 h1 ρ1 H1 e1 rh1 o1 v1 rd1 => ?_⟩
          split at o1
          · rename_i a
            obtain ⟨p, rfl, e2⟩ := rd1
            have rhX : RelH X.K ρ1 h1 H1 := by rw [← g.hK]; exact rh1
            have hl : a < h1.length := by rw [← rh1.len]; exact rho_lt e2
            have sq : ∃ xs, SqL X.K H1 p xs := by
              have ho := rhX.ob a _ p (List.getElem?_eq_getElem hl) e2
              cases q : h1[a] with
              | lst xs =>
                rw [q] at ho
                obtain ⟨us, u1, _⟩ := ho
                exact ⟨us, SqL.of u1⟩
              | scr xs =>
                rw [q] at ho
                obtain ⟨us, u1, _⟩ := ho
                rcases u1 with ⟨ob, u1⟩ | u1
                · exact ⟨us, .inl (.inr ⟨ob, u1⟩)⟩
                · exact ⟨us, .inr u1⟩
            refine ⟨.inl ⟨rfl, sq⟩, ρ1, τ, h1, rs.mono e1, rh1, (Out.bind o1).imp fun ds h2 ρ2 H2 e3 rh2 o2 vs rd => ?_⟩
            rw [g.hK] at rh2 o2
            exact me_ok m rh2 (show RelD ρ2 H2 (.ref a) (.ref p) from ⟨p, rfl, e3.at_ _ _ e2⟩) rd o2
          · exact False.elim o1
      · cases h
    · cases h
  | .spl o y, N, so, sc, c, X, e, g, h => by
    unfold chkE at h
    split at h
    · split at h
      · rename_i x at_ ap kws cp xs' z
        obtain ⟨h0, h⟩ := and2 h
        obtain ⟨h1, h⟩ := and2 h
        obtain ⟨h2, h⟩ := and2 h
        obtain ⟨h3, h⟩ := and2 h
        obtain ⟨h4, h⟩ := and2 h
        obtain ⟨h5, h6⟩ := and2 h
        cases kws with
        | cons kw kws => cases h0
        | nil =>
          have e1 := of_decide_eq_true h1
          subst e1
          have hbase : attributeBase x "split" X.env (eval x X.env) = eval x X.env := by
            cases x <;> first | rfl | cases h2
          refine PE.weak (pe_split (sndE o g h5) (sndE y g h6) (by rw [star_cons h4]; rfl) hbase h3) fun σ H Q q => ?_
          obtain ⟨ρ, τ, h, rs, rh, q1⟩ := q
          simp only [evE] at q1
          refine ⟨ρ, τ, h, rs, rh, (Out.bind q1).imp fun d1 h1 ρ1 H1 e1 rh1 o1 v1 rd1 => ?_⟩
          split at o1
          · rename_i a
            have ev : v1 = .str a := rd1
            subst ev
            refine ⟨⟨a, rfl⟩, ρ1, τ, h1, rs.mono e1, rh1, (Out.bind o1).imp fun d2 h2 ρ2 H2 e2 rh2 o2 v2 rd2 => ?_⟩
            unfold splD at o2
            split at o2
            · rename_i b
              have ev : v2 = .str b := rd2
              subst ev
              split at o2
              · rename_i hb
                refine ⟨a, b, rfl, rfl, hb.1, by rw [← lim_eq]; exact hb.2, fun p hp => ?_⟩
                rw [g.hK] at rh2 o2
                exact PostD.newl o2 rh2 (strs_rel _) p hp
              · exact False.elim o2
            · exact False.elim o2
          · exact False.elim o1
      · cases h
    · cases h
  | .joi o y, N, so, sc, c, X, e, g, h => by
    unfold chkE at h
    split at h
    · split at h
      · rename_i x at_ ap kws cp xs' z
        obtain ⟨h0, h⟩ := and2 h
        obtain ⟨h1, h⟩ := and2 h
        obtain ⟨h2, h⟩ := and2 h
        obtain ⟨h3, h⟩ := and2 h
        obtain ⟨h4, h⟩ := and2 h
        obtain ⟨h5, h6⟩ := and2 h
        cases kws with
        | cons kw kws => cases h0
        | nil =>
          have e1 := of_decide_eq_true h1
          subst e1
          have hbase : attributeBase x "join" X.env (eval x X.env) = eval x X.env := by
            cases x <;> first | rfl | cases h2
          refine PE.weak (pe_join (sndE o g h5) (sndE y g h6) (by rw [star_cons h4]; rfl) hbase h3) fun σ H Q q => ?_
          obtain ⟨ρ, τ, h, rs, rh, q1⟩ := q
          simp only [evE] at q1
          refine ⟨ρ, τ, h, rs, rh, (Out.bind q1).imp fun d1 h1 ρ1 H1 e1 rh1 o1 v1 rd1 => ?_⟩
          split at o1
          · rename_i a
            have ev : v1 = .str a := rd1
            subst ev
            refine ⟨⟨a, rfl⟩, ρ1, τ, h1, rs.mono e1, rh1, (Out.bind o1).imp fun d2 h2 ρ2 H2 e2 rh2 o2 v2 rd2 => ?_⟩
            unfold joiD at o2
            split at o2
            · rename_i b
              obtain ⟨p, rfl, e3⟩ := rd2
              split at o2
              · rename_i xs hx
                split at o2
                · rename_i ys hy
                  split at o2
                  · rename_i hb
                    rw [g.hK] at rh2 o2
                    obtain ⟨us, s1, s2⟩ := rh2.get hx e3
                    have e4 := strs_of s2 hy
                    subst e4
                    exact ⟨a, p, ys, rfl, rfl, .inl s1, hb, PostD.here o2 rh2 rfl⟩
                  · exact False.elim o2
                · exact False.elim o2
              · exact False.elim o2
            · exact False.elim o2
          · exact False.elim o1
      · cases h
    · cases h
  | .isi a t, N, so, sc, c, X, e, g, h => by
    unfold chkE at h
    split at h
    · split at h
      · rename_i x p xs kws pos xs' y z zp
        obtain ⟨h0, h⟩ := and2 h
        obtain ⟨h1, h⟩ := and2 h
        obtain ⟨h2, h⟩ := and2 h
        obtain ⟨h3, h⟩ := and2 h
        obtain ⟨h4, h⟩ := and2 h
        obtain ⟨h5, h⟩ := and2 h
        obtain ⟨h6, h⟩ := and2 h
        obtain ⟨h7, h8⟩ := and2 h
        cases kws with
        | cons kw kws => cases h0
        | nil =>
          have e1 := of_decide_eq_true h1
          subst e1
          have e6 := of_decide_eq_true h6
          subst e6
          have pz : PE X (.Name (Str.ofString t.py) zp) (tC (.ty t.py)) := pe_bltn (g.gl h8) (g.st.bl _ (of_decide_eq_true h7)) t.boot rfl t.nm t.db
          refine PE.weak (pe_callB call_isi (g.gl h3) (g.st.bl _ (of_decide_eq_true h2)) boot_isinstance (pa_cons (sndE a g h5) (pa_cons pz pa_nil rfl) (star_cons h4)) (by decide) (by decide) (star_cons h4) rfl) fun σ H Q q => ?_
          obtain ⟨ρ, τ, h, rs, rh, o⟩ := q
          simp only [evE] at o
          refine ⟨ρ, τ, h, rs, rh, (Out.bind o).imp fun d1 h1 ρ1 H1 e1 rh1 o1 v1 rd1 => ?_⟩
          have rhX : RelH X.K ρ1 h1 H1 := by rw [← g.hK]; exact rh1
          exact ⟨v1, .ty t.py, .type (kindD d1), .type t.py, t.has d1, rfl, .ty _, tyX_ok rhX rd1 (ref_lt rhX rd1), kit_ty (kitB_has t d1), Out.ok o1 (Ext.refl _ _) rh1 _ rfl⟩
      · cases h
    · cases h
  | .isiT a ts, N, so, sc, c, X, e, g, h => by
    unfold chkE at h
    cases h
  | .lc own ig it t0 tt elt, N, so, sc, c, X, e, g, h => by
    unfold chkE at h
    split at h
    · split at h
      · rename_i x gens scope pos gens' tg iter ifs as
        obtain ⟨h1, h⟩ := and2 h
        obtain ⟨h2, h⟩ := and2 h
        obtain ⟨h3, h⟩ := and2 h
        obtain ⟨h4, h⟩ := and2 h
        obtain ⟨h5, h⟩ := and2 h
        obtain ⟨h6, h⟩ := and2 h
        obtain ⟨h7, h8⟩ := and2 h
        have e1 := of_decide_eq_true h1
        subst e1
        have bk := (blkOk_by h2).kind
        have hts : ∀ (s : Shared) (H : Hp) (C : Addr) (cl : List (Str × Addr)) (fp : List Addr), PTs (X.blk s H scope (compEnvC scope cl C X.env) fp) ifs (tDb c.no (evT (den T k) tt)) := by
          intro s H C cl fp
          cases ifs with
          | nil =>
            cases tt <;> first
              | (cases h7; done)
              | exact ⟨fun pins s σ H Q I q => by
                  obtain ⟨ρ, τ, h, rs, rh, o⟩ := q
                  simp only [evT] at o
                  exact pts_nil.run pins s σ H Q I (Out.ok o (Ext.refl _ _) rh)⟩
          | cons t ts =>
            cases ts with
            | nil => exact pts_one (sndT tt (g.blk bk s H C cl fp) h7)
            | cons t2 ts => cases h7
        refine PE.weak (pe_lc g.calm (by rw [g.hN]; exact g.nd) (sndI it g h6) (blkOk_by (by rw [g.hN, g.hs]; exact h2)) (fun s H C cl fp => show PG (X.blk s H scope (compEnvC scope cl C X.env) fp) tg (gOf X.K ig) from pg_ok ig (g.blk bk s H C cl fp) h3) hts (fun s H C cl fp => sndE elt (g.blk bk s H C cl fp) h8) (noSet_for h5)) fun σ H Q q => ?_
        obtain ⟨ρ, τ, h, rs, rh, o⟩ := q
        simp only [evE] at o
        have := lc_weak (X := X) (c := c) (ig := ig) (own := own) (mi := evI (den T k) it) (mt := evT (den T k) tt) (me := evE (den T k) elt) g.hK (fun i hi => of_decide_eq_true (List.all_eq_true.mp h4 i hi)) (σ := σ) (H := H) (Q := Q) ⟨ρ, τ, h, rs, rh, o⟩
        rw [g.hK] at this
        exact this
      · cases h
    · cases h
theorem sndB : ∀ (es : IA) {N : List Str} {so sc : Scope} {c : Ck} {X : Cx} {xs : List Expr} {kk : Bool} {pos : Pos}, Gd T cc k N so sc c X → chkB T cc N so sc es xs = true → PE X (.BoolOp (if kk then .And else .Or) xs pos) (tD c (evB (den T k) kk es))
  | .nil, N, so, sc, c, X, xs, kk, pos, g, h => by
    unfold chkB at h
    cases h
  | .star a r, N, so, sc, c, X, xs, kk, pos, g, h => by
    unfold chkB at h
    cases h
  | .cons a r, N, so, sc, c, X, xs, kk, pos, g, h => by
    unfold chkB at h
    cases xs with
    | nil => cases h
    | cons x xs =>
      obtain ⟨h1, h2⟩ := and2 h
      have hr : xs ≠ [] → r ≠ .nil → chkB T cc N so sc r xs = true := fun e1 e2 => by
        cases r with
        | nil => exact absurd rfl e2
        | cons b r => cases xs with
          | nil => exact absurd rfl e1
          | cons y ys => exact h2
        | star b r => cases xs with
          | nil => exact absurd rfl e1
          | cons y ys => exact h2
      have step : ∀ {y ys}, xs = y :: ys → r ≠ .nil → PE X (.BoolOp (if kk then .And else .Or) (x :: y :: ys) pos) (tD c fun τ h => (evE (den T k) a τ h).bind fun x h => match x with
          | .bl c => if c = kk then evB (den T k) kk r τ h else .ok (.bl c) h
          | _ => .bad) := fun {y ys} e1 e2 => by
        subst e1
        have ih := sndB r (kk := kk) (pos := pos) g (hr (by simp) e2)
        cases kk with
        | true =>
          refine PE.weak (pe_and (sndE a g h1) ih) fun σ H Q q => ?_
          obtain ⟨ρ, τ, h, rs, rh, o⟩ := q
          refine ⟨ρ, τ, h, rs, rh, (Out.bind o).imp fun d1 h1 ρ1 H1 e1 rh1 o1 v1 rd1 => ?_⟩
          split at o1
          · rename_i cb
            refine ⟨cb, rd1, ?_⟩
            cases cb with
            | true => rw [if_pos rfl] at o1 ⊢; exact ⟨ρ1, τ, h1, rs.mono e1, rh1, o1⟩
            | false =>
              rw [if_neg Bool.false_ne_true] at o1 ⊢
              exact Out.ok o1 (Ext.refl _ _) rh1 _ rfl
          · exact False.elim o1
        | false =>
          refine PE.weak (pe_or (sndE a g h1) ih) fun σ H Q q => ?_
          obtain ⟨ρ, τ, h, rs, rh, o⟩ := q
          refine ⟨ρ, τ, h, rs, rh, (Out.bind o).imp fun d1 h1 ρ1 H1 e1 rh1 o1 v1 rd1 => ?_⟩
          split at o1
          · rename_i cb
            refine ⟨cb, rd1, ?_⟩
            cases cb with
            | false => rw [if_pos rfl] at o1; rw [if_neg Bool.false_ne_true]; exact ⟨ρ1, τ, h1, rs.mono e1, rh1, o1⟩
            | true =>
              rw [if_neg (by decide)] at o1
              rw [if_pos rfl]
              exact Out.ok o1 (Ext.refl _ _) rh1 _ rfl
          · exact False.elim o1
      cases r with
      | nil =>
        cases xs with
        | nil =>
          refine PE.weak (pe_one (sndE a g h1)) fun σ H Q q => ?_
          obtain ⟨ρ, τ, h, rs, rh, o⟩ := q
          simp only [evB] at o
          exact ⟨ρ, τ, h, rs, rh, o⟩
        | cons y ys => cases h2
      | cons b r =>
        cases xs with
        | nil => cases h2
        | cons y ys =>
          refine PE.weak (step rfl (fun e => nomatch e)) fun σ H Q q => ?_
          obtain ⟨ρ, τ, h, rs, rh, o⟩ := q
          exact ⟨ρ, τ, h, rs, rh, o⟩
      | star b r =>
        cases xs with
        | nil => cases h2
        | cons y ys =>
          refine PE.weak (step rfl (fun e => nomatch e)) fun σ H Q q => ?_
          obtain ⟨ρ, τ, h, rs, rh, o⟩ := q
          exact ⟨ρ, τ, h, rs, rh, o⟩
theorem sndA : ∀ (es : IA) {N : List Str} {so sc : Scope} {c : Ck} {X : Cx} {xs : List Expr}, Gd T cc k N so sc c X → chkA T cc N so sc es xs = true → PA X xs (tDs c (evA (den T k) es))
  | .nil, N, so, sc, c, X, xs, g, h => by
    unfold chkA at h
    cases xs with
    | nil =>
      refine PA.weak pa_nil fun σ H Q q => ?_
      obtain ⟨ρ, τ, h, rs, rh, o⟩ := q
      simp only [evA] at o
      exact Out.ok o (Ext.refl _ _) rh [] rfl
    | cons x xs => cases h
  | .cons a r, N, so, sc, c, X, xs, g, h => by
    unfold chkA at h
    cases xs with
    | nil => cases h
    | cons x xs =>
      obtain ⟨h1, h⟩ := and2 h
      obtain ⟨h2, h3⟩ := and2 h
      refine PA.weak (pa_cons (sndE a g h2) (sndA r g h3) (star_cons h1)) fun σ H Q q => ?_
      obtain ⟨ρ, τ, h, rs, rh, o⟩ := q
      simp only [evA] at o
      refine ⟨ρ, τ, h, rs, rh, (Out.bind o).imp fun d1 h1 ρ1 H1 e1 rh1 o1 v1 rd1 => ?_⟩
      refine ⟨ρ1, τ, h1, rs.mono e1, rh1, (Out.bind o1).imp fun ds h2 ρ2 H2 e2 rh2 o2 vs rds => ?_⟩
      exact Out.ok o2 (Ext.refl _ _) rh2 _ ⟨_, _, rfl, rd1.mono e2, rds⟩
  | .star a r, N, so, sc, c, X, xs, g, h => by
    unfold chkA at h
    split at h
    · obtain ⟨h1, h2⟩ := and2 h
      refine PA.weak (StX.pa_star (sndE a g h1) (sndA r g h2) rfl) fun σ H Q q => ?_
      obtain ⟨ρ, τ, h, rs, rh, o⟩ := q
      simp only [evA] at o
      refine ⟨ρ, τ, h, rs, rh, (Out.bind o).imp fun d1 h1 ρ1 H1 e1 rh1 o1 v1 rd1 => ?_⟩
      split at o1
      · obtain ⟨p, xs, rfl, e2, r2⟩ := rd1
        refine ⟨p, xs, rfl, .inl (SqT.of e2), ρ1, τ, h1, rs.mono e1, rh1, (Out.bind o1).imp fun ds h2 ρ2 H2 e3 rh2 o2 vs rds => ?_⟩
        exact Out.ok o2 (Ext.refl _ _) rh2 _ ((r2.mono e3).app rds)
      · obtain ⟨p, rfl, e2⟩ := rd1
        split at o1
        · rename_i ys hy
          obtain ⟨xs, s1, s2⟩ := rh1.get hy e2
          refine ⟨p, xs, rfl, .inr (by rw [← g.hK]; exact s1), ρ1, τ, h1, rs.mono e1, rh1, (Out.bind o1).imp fun ds h2 ρ2 H2 e3 rh2 o2 vs rds => ?_⟩
          exact Out.ok o2 (Ext.refl _ _) rh2 _ ((s2.mono e3).app rds)
        · exact False.elim o1
      · exact False.elim o1
    · cases h
theorem sndK : ∀ (es : IA) {N : List Str} {so sc : Scope} {c : Ck} {X : Cx} {kws : List Keyword}, Gd T cc k N so sc c X → chkA T cc N so sc es (kwVals kws) = true → (kwVals kws).all noStar = true → PK X kws (tDs c (evA (den T k) es))
  | .nil, N, so, sc, c, X, kws, g, h, ns => by
    unfold chkA at h
    cases kws with
    | nil =>
      refine PK.weak pk_nil fun σ H Q q => ?_
      obtain ⟨ρ, τ, h, rs, rh, o⟩ := q
      simp only [evA] at o
      exact Out.ok o (Ext.refl _ _) rh [] rfl
    | cons x xs => cases h
  | .cons a r, N, so, sc, c, X, kws, g, h, ns => by
    unfold chkA at h
    cases kws with
    | nil => cases h
    | cons x xs =>
      obtain ⟨nm, x, kp⟩ := x
      obtain ⟨h1, h⟩ := and2 h
      obtain ⟨h2, h3⟩ := and2 h
      have ns' := (and2 ns).2
      refine PK.weak (pk_cons (sndE a g h2) (sndK r g h3 ns')) fun σ H Q q => ?_
      obtain ⟨ρ, τ, h, rs, rh, o⟩ := q
      simp only [evA] at o
      refine ⟨ρ, τ, h, rs, rh, (Out.bind o).imp fun d1 h1 ρ1 H1 e1 rh1 o1 v1 rd1 => ?_⟩
      refine ⟨ρ1, τ, h1, rs.mono e1, rh1, (Out.bind o1).imp fun ds h2 ρ2 H2 e2 rh2 o2 vs rds => ?_⟩
      exact Out.ok o2 (Ext.refl _ _) rh2 _ ⟨_, _, rfl, rd1.mono e2, rds⟩
  | .star a r, N, so, sc, c, X, kws, g, h, ns => by
    unfold chkA at h
    split at h
    · rename_i q
      rw [q] at ns
      cases (and2 ns).1
    · cases h
theorem sndO : ∀ (o : IO) {N : List Str} {so sc : Scope} {c : Ck} {X : Cx} {x : Option Expr}, Gd T cc k N so sc c X → chkO T cc N so sc o x = true → PO X x (tDo c (evO (den T k) o))
  | .no, N, so, sc, c, X, x, g, h => by
    unfold chkO at h
    cases x with
    | some x => cases h
    | none =>
      exact ⟨fun pins s σ H Q I q => po_none.run pins s σ H Q I (by
        obtain ⟨ρ, τ, h, rs, rh, o⟩ := q
        simp only [evO] at o
        exact Out.ok o (Ext.refl _ _) rh)⟩
  | .so e, N, so, sc, c, X, x, g, h => by
    unfold chkO at h
    cases x with
    | none => cases h
    | some x =>
      exact ⟨fun pins s σ H Q I q => (po_some (sndE e g h)).run pins s σ H Q I (by
        obtain ⟨ρ, τ, h, rs, rh, o⟩ := q
        simp only [evO] at o
        refine ⟨ρ, τ, h, rs, rh, (Out.bind o).imp fun d1 h1 ρ1 H1 e1 rh1 o1 v1 rd1 => ?_⟩
        split at o1
        · exact ⟨_, rd1, Out.ok o1 (Ext.refl _ _) rh1⟩
        · exact False.elim o1)⟩
theorem sndT : ∀ (t : IT) {N : List Str} {so sc : Scope} {c : Ck} {X : Cx} {e : Expr}, Gd T cc k N so sc c X → chkT T cc N so sc t e = true → PT X e (tDb c (evT (den T k) t))
  | .v a, N, so, sc, c, X, e, g, h => by
    unfold chkT at h
    obtain ⟨h1, h2⟩ := and2 h
    refine PT.weak (pt_truth (sndE a g h2) (plainT_ok h1)) fun σ H Q q => ?_
    obtain ⟨ρ, τ, h, rs, rh, o⟩ := q
    simp only [evT] at o
    refine ⟨ρ, τ, h, rs, rh, (Out.bind o).imp fun d1 h1 ρ1 H1 e1 rh1 o1 v1 rd1 => ?_⟩
    split at o1
    · rename_i b hb
      exact ⟨b, tru_okD (by rw [← g.hK]; exact rh1) rd1 hb, Out.ok o1 (Ext.refl _ _) rh1⟩
    · exact False.elim o1
  | .cm o a b, N, so, sc, c, X, e, g, h => by
    unfold chkT at h
    split at h
    · split at h
      · obtain ⟨h1, h2⟩ := and2 h
        obtain ⟨h2, h3⟩ := and2 h2
        obtain ⟨h3, h4⟩ := and2 h3
        have e1 := of_decide_eq_true h1
        subst e1
        refine PT.weak (pt_cmpR (op_cmpA g.units o) (sndE a g h3) (sndE b g h4) (noSet_mark h2)) fun σ H Q q => ?_
        obtain ⟨ρ, τ, h, rs, rh, o1⟩ := q
        simp only [evT] at o1
        refine ⟨ρ, τ, h, rs, rh, (Out.bind o1).imp fun d1 h1 ρ1 H1 e1 rh1 o1 v1 rd1 => ?_⟩
        refine ⟨ρ1, τ, h1, rs.mono e1, rh1, (Out.bind o1).imp fun d2 h2 ρ2 H2 e2 rh2 o2 v2 rd2 => ?_⟩
        split at o2
        · exact cmp_ok o (by rw [← g.hK]; exact rh2) (rd1.mono e2) rd2 (by assumption) ⟨_, rfl, Out.ok o2 (Ext.refl _ _) rh2⟩
        · exact False.elim o2
      · cases h
    · cases h
  | .cmN n a, N, so, sc, c, X, e, g, h => by
    unfold chkT at h
    split at h
    · split at h
      · obtain ⟨h1, h2⟩ := and2 h
        have e1 := of_decide_eq_true h1
        cases n with
        | false =>
          have e1 : _ = CmpOp.Is := e1
          subst e1
          refine PT.weak (pt_cmpR op_isN (sndE a g h2) pe_non (nomark _ (by decide) (by decide))) fun σ H Q q => ?_
          obtain ⟨ρ, τ, h, rs, rh, o⟩ := q
          simp only [evT] at o
          refine ⟨ρ, τ, h, rs, rh, (Out.bind o).imp fun d1 h1 ρ1 H1 e1 rh1 o1 v1 rd1 => ⟨rfl, _, rfl, ?_⟩⟩
          rw [← isN_rel rd1]
          cases d1 <;> exact Out.ok o1 (Ext.refl _ _) rh1
        | true =>
          have e1 : _ = CmpOp.IsNot := e1
          subst e1
          refine PT.weak (pt_cmpR op_notN (sndE a g h2) pe_non (nomark _ (by decide) (by decide))) fun σ H Q q => ?_
          obtain ⟨ρ, τ, h, rs, rh, o⟩ := q
          simp only [evT] at o
          refine ⟨ρ, τ, h, rs, rh, (Out.bind o).imp fun d1 h1 ρ1 H1 e1 rh1 o1 v1 rd1 => ⟨rfl, _, rfl, ?_⟩⟩
          rw [← isN_rel rd1]
          cases d1 <;> exact Out.ok o1 (Ext.refl _ _) rh1
      · cases h
    · cases h
  | .ch o o' a b d, N, so, sc, c, X, e, g, h => by
    unfold chkT at h
    split at h
    · split at h
      · obtain ⟨h1, h2⟩ := and2 h
        obtain ⟨h2, h3⟩ := and2 h2
        obtain ⟨h3, h4⟩ := and2 h3
        obtain ⟨h4, h5⟩ := and2 h4
        obtain ⟨h5, h6⟩ := and2 h5
        have e1 := of_decide_eq_true h1
        subst e1
        have e2 := of_decide_eq_true h2
        subst e2
        refine PT.weak (pt_chain (op_cmpA g.units o) (op_cmpA g.units o') (sndE a g h4) (sndE b g h5) (sndE d g h6) (noSet_mark h3)) fun σ H Q q => ?_
        obtain ⟨ρ, τ, h, rs, rh, q1⟩ := q
        simp only [evT] at q1
        refine ⟨ρ, τ, h, rs, rh, (Out.bind q1).imp fun d1 h1 ρ1 H1 e1 rh1 o1 v1 rd1 => ?_⟩
        refine ⟨ρ1, τ, h1, rs.mono e1, rh1, (Out.bind o1).imp fun d2 h2 ρ2 H2 e2 rh2 o2 v2 rd2 => ?_⟩
        have rhX : RelH X.K ρ2 h2 H2 := by rw [← g.hK]; exact rh2
        split at o2
        · rename_i hk
          refine cmp_ok o rhX (rd1.mono e2) rd2 hk ⟨true, rfl, ?_⟩
          rw [if_pos rfl]
          refine ⟨ρ2, τ, h2, (rs.mono e1).mono e2, rh2, (Out.bind o2).imp fun d3 h3 ρ3 H3 e3 rh3 o3 v3 rd3 => ?_⟩
          have rhX : RelH X.K ρ3 h3 H3 := by rw [← g.hK]; exact rh3
          split at o3
          · exact cmp_ok o' rhX (rd2.mono e3) rd3 (by assumption) ⟨_, rfl, Out.ok o3 (Ext.refl _ _) rh3⟩
          · exact False.elim o3
        · rename_i hk
          refine cmp_ok o rhX (rd1.mono e2) rd2 hk ⟨false, rfl, ?_⟩
          rw [if_neg Bool.false_ne_true]
          exact ⟨_, rfl, Out.ok o2 (Ext.refl _ _) rh2⟩
        · exact False.elim o2
      · cases h
    · cases h
  | .bo kk ts, N, so, sc, c, X, e, g, h => by
    unfold chkT at h
    split at h
    · obtain ⟨h1, h2⟩ := and2 h
      have e1 := of_decide_eq_true h1
      subst e1
      exact PT.weak (sndTs ts g h2).pt fun σ H Q q => by
        obtain ⟨ρ, τ, h, rs, rh, o⟩ := q
        simp only [evT] at o
        exact ⟨ρ, τ, h, rs, rh, o⟩
    · cases h
  | .nt t, N, so, sc, c, X, e, g, h => by
    unfold chkT at h
    split at h
    · obtain ⟨h1, h2⟩ := and2 h
      have e1 := of_decide_eq_true h1
      subst e1
      refine PT.weak (pt_not (sndT t g h2)) fun σ H Q q => ?_
      obtain ⟨ρ, τ, h, rs, rh, o⟩ := q
      simp only [evT] at o
      exact ⟨ρ, τ, h, rs, rh, (Out.bind o).imp fun d1 h1 ρ1 H1 e1 rh1 o1 => Out.ok o1 (Ext.refl _ _) rh1⟩
    · cases h
  | .yes, N, so, sc, c, X, e, g, h => by
    unfold chkT at h
    cases h
theorem sndTs : ∀ (ts : ITs) {N : List Str} {so sc : Scope} {c : Ck} {X : Cx} {xs : List Expr} {kk : Bool} {pos : Pos}, Gd T cc k N so sc c X → chkTs T cc N so sc ts xs = true → PW X (.BoolOp (if kk then .And else .Or) xs pos) (tDb c (evTs (den T k) kk ts))
  | .nil, N, so, sc, c, X, xs, kk, pos, g, h => by
    unfold chkTs at h
    cases h
  | .cons a r, N, so, sc, c, X, xs, kk, pos, g, h => by
    unfold chkTs at h
    cases xs with
    | nil => cases h
    | cons x xs =>
      obtain ⟨h1, h2⟩ := and2 h
      have pw {t t' : TT} {e : Expr} (p : PW X e t) (hh : ∀ σ H Q, t' σ H Q → t σ H Q) : PW X e t' := ⟨fun wh pins s σ H Q I q => p.run wh pins s σ H Q I (hh σ H Q q)⟩
      cases r with
      | nil =>
        cases xs with
        | nil =>
          cases kk with
          | true =>
            refine pw (pw_and1 (sndT a g h1)) fun σ H Q q => ?_
            obtain ⟨ρ, τ, h, rs, rh, o⟩ := q
            simp only [evTs] at o
            exact ⟨ρ, τ, h, rs, rh, o⟩
          | false =>
            refine pw (pw_or1 (sndT a g h1)) fun σ H Q q => ?_
            obtain ⟨ρ, τ, h, rs, rh, o⟩ := q
            simp only [evTs] at o
            exact ⟨ρ, τ, h, rs, rh, o⟩
        | cons y ys => cases h2
      | cons b r =>
        cases xs with
        | nil => cases h2
        | cons y ys =>
          have ih := sndTs (.cons b r) (kk := kk) (pos := pos) g h2
          cases kk with
          | true =>
            refine pw (pw_and (sndT a g h1) ih) fun σ H Q q => ?_
            obtain ⟨ρ, τ, h, rs, rh, o⟩ := q
            have o : Out c.K c.XI (c.E σ) ρ H ((evT (den T k) a τ h).bind fun cb h => if cb = true then evTs (den T k) true (.cons b r) τ h else .ok cb h) (fun b _ _ H' => Q b H') := o
            refine ⟨ρ, τ, h, rs, rh, (Out.bind o).imp fun cb h1 ρ1 H1 e1 rh1 o1 => ?_⟩
            cases cb with
            | true => rw [if_pos rfl] at o1 ⊢; exact ⟨ρ1, τ, h1, rs.mono e1, rh1, o1⟩
            | false =>
              rw [if_neg Bool.false_ne_true] at o1 ⊢
              exact Out.ok o1 (Ext.refl _ _) rh1
          | false =>
            refine pw (pw_or (sndT a g h1) ih) fun σ H Q q => ?_
            obtain ⟨ρ, τ, h, rs, rh, o⟩ := q
            have o : Out c.K c.XI (c.E σ) ρ H ((evT (den T k) a τ h).bind fun cb h => if cb = false then evTs (den T k) false (.cons b r) τ h else .ok cb h) (fun b _ _ H' => Q b H') := o
            refine ⟨ρ, τ, h, rs, rh, (Out.bind o).imp fun cb h1 ρ1 H1 e1 rh1 o1 => ?_⟩
            cases cb with
            | false => rw [if_pos rfl] at o1; rw [if_neg Bool.false_ne_true]; exact ⟨ρ1, τ, h1, rs.mono e1, rh1, o1⟩
            | true =>
              rw [if_neg (by decide)] at o1
              rw [if_pos rfl]
              exact Out.ok o1 (Ext.refl _ _) rh1
theorem sndI : ∀ (it : II) {N : List Str} {so sc : Scope} {c : Ck} {X : Cx} {tg e : Expr}, Gd T cc k N so sc c X → chkI T cc N so sc (isTup tg) it e = true → PI X tg e (tDi c (evI (den T k) it))
  | .seq a, N, so, sc, c, X, tg, e, g, h => by
    unfold chkI at h
    refine PI.weak (pi_seqG g.hK (sndE a g h)) fun σ H Q q => ?_
    obtain ⟨ρ, τ, h, rs, rh, o⟩ := q
    simp only [evI] at o
    exact ⟨ρ, τ, h, rs, rh, o⟩
  | .rng es, N, so, sc, c, X, tg, e, g, h => by
    unfold chkI at h
    split at h
    · rename_i y p xs kws pos
      obtain ⟨h0, h⟩ := and2 h
      obtain ⟨h1, h⟩ := and2 h
      obtain ⟨h2, h⟩ := and2 h
      obtain ⟨h3, h⟩ := and2 h
      obtain ⟨h4, h⟩ := and2 h
      obtain ⟨h5, h6⟩ := and2 h
      have e1 := of_decide_eq_true h1
      subst e1
      have hm := g.st.bl _ (of_decide_eq_true h2)
      cases kws with
      | cons kw kws => cases h0
      | nil =>
        match xs, h5, h4, h6 with
        | [a], _, h4, h6 =>
          have n1 := (and2 h4).1
          refine PI.weak (pi_range1 (g.gl h3) hm (sndA es g h6) (star_cons n1)) fun σ H Q q => ?_
          obtain ⟨ρ, τ, h, rs, rh, o⟩ := q
          simp only [evI] at o
          refine ⟨ρ, τ, h, rs, rh, ?_⟩
          have o' := Out.bind o
          cases q : evA (den T k) es τ h with
          | bad => rw [q] at o'; exact o'
          | ex cl as h1 => rw [q] at o'; exact o'
          | ok ds h1 =>
            rw [q] at o'
            intro ρ1 H1 e1 rh1 vs rd
            have o1 := o' ρ1 H1 e1 rh1
            have hl := evA_len es h6 h4 q
            match ds, hl, o1, rd with
            | [d], _, o1, rd =>
              obtain ⟨v, rfl, rv⟩ := one_rel rd
              cases d with
              | int j =>
                have ev : v = .int j := rv
                subst ev
                dsimp only at o1
                split at o1
                · rename_i hj
                  exact ⟨j, rfl, hj.1, hj.2, Out.ok o1 (Ext.refl _ _) rh1 _ it_rng⟩
                · exact False.elim o1
              | _ => exact False.elim o1
        | [a, b], _, h4, h6 =>
          have n1 := (and2 h4).1
          have n2 := (and2 (and2 h4).2).1
          refine PI.weak (pi_range2 (g.gl h3) hm (sndA es g h6) (by rw [star_cons n1, star_cons n2]; rfl) (star_cons n2)) fun σ H Q q => ?_
          obtain ⟨ρ, τ, h, rs, rh, o⟩ := q
          simp only [evI] at o
          refine ⟨ρ, τ, h, rs, rh, ?_⟩
          have o' := Out.bind o
          cases q : evA (den T k) es τ h with
          | bad => rw [q] at o'; exact o'
          | ex cl as h1 => rw [q] at o'; exact o'
          | ok ds h1 =>
            rw [q] at o'
            intro ρ1 H1 e1 rh1 vs rd
            have o1 := o' ρ1 H1 e1 rh1
            have hl := evA_len es h6 h4 q
            match ds, hl, o1, rd with
            | [d, d2], _, o1, rd =>
              obtain ⟨v, u, rfl, rv, ru⟩ := two_rel rd
              cases d with
              | int i =>
                cases d2 with
                | int j =>
                  have ev : v = .int i := rv
                  have eu : u = .int j := ru
                  subst ev eu
                  dsimp only at o1
                  split at o1
                  · rename_i hj
                    exact ⟨i, j, rfl, hj, Out.ok o1 (Ext.refl _ _) rh1 _ it_rng⟩
                  · exact False.elim o1
                | _ => exact False.elim o1
              | _ => exact False.elim o1
        | [], h5, _, _ => cases h5
        | _ :: _ :: _ :: _, h5, _, _ => simp at h5
    · cases h
  | .enm a, N, so, sc, c, X, tg, e, g, h => by
    unfold chkI at h
    split at h
    · split at h
      · rename_i y p xs kws pos xs' z
        obtain ⟨h0, h⟩ := and2 h
        obtain ⟨h1, h⟩ := and2 h
        obtain ⟨h2, h⟩ := and2 h
        obtain ⟨h3, h⟩ := and2 h
        obtain ⟨h4, h⟩ := and2 h
        obtain ⟨h5, h6⟩ := and2 h
        have e1 := of_decide_eq_true h1
        subst e1
        have hm := g.st.bl _ (of_decide_eq_true h2)
        cases kws with
        | cons kw kws => cases h0
        | nil =>
          cases tg with
          | Tuple elts kk tpos =>
            refine PI.weak (pi_enum (g.gl h3) hm (pa_cons (sndE a g h5) pa_nil (star_cons h4)) (star_cons h4)) fun σ H Q q => ?_
            obtain ⟨ρ, τ, h, rs, rh, o⟩ := q
            simp only [evI] at o
            refine ⟨ρ, τ, h, rs, rh, (Out.bind o).imp fun d1 h1 ρ1 H1 e1 rh1 o1 v1 rd1 => ?_⟩
            split at o1
            · obtain ⟨p, rfl, e2⟩ := rd1
              split at o1
              · rename_i ys hy
                obtain ⟨us, s1, s2⟩ := rh1.get hy e2
                exact ⟨p, us, rfl, by rw [← g.hK]; exact s1, Out.ok o1 (Ext.refl _ _) rh1 _ (by rw [g.hK]; exact it_enm e2)⟩
              · exact False.elim o1
            · exact False.elim o1
          | _ => cases h6
      · cases h
    · cases h
  | .zip a b, N, so, sc, c, X, tg, e, g, h => by
    unfold chkI at h
    split at h
    · split at h
      · rename_i y p xs kws pos xs' z w
        obtain ⟨h0, h⟩ := and2 h
        obtain ⟨h1, h⟩ := and2 h
        obtain ⟨h2, h⟩ := and2 h
        obtain ⟨h3, h⟩ := and2 h
        obtain ⟨h4, h⟩ := and2 h
        obtain ⟨h5, h⟩ := and2 h
        obtain ⟨h6, h⟩ := and2 h
        obtain ⟨h7, h8⟩ := and2 h
        have e1 := of_decide_eq_true h1
        subst e1
        have hm := g.st.bl _ (of_decide_eq_true h2)
        cases kws with
        | cons kw kws => cases h0
        | nil =>
          cases tg with
          | Tuple elts kk tpos =>
            refine PI.weak (pi_zip (g.gl h3) hm (pa_cons (sndE a g h6) (pa_cons (sndE b g h7) pa_nil (star_cons h5)) (star_cons h4)) (star_cons h4) (by rw [star_cons h5]; rfl)) fun σ H Q q => ?_
            obtain ⟨ρ, τ, h, rs, rh, o⟩ := q
            simp only [evI] at o
            refine ⟨ρ, τ, h, rs, rh, (Out.bind o).imp fun d1 h1 ρ1 H1 e1 rh1 o1 v1 rd1 => ?_⟩
            refine ⟨ρ1, τ, h1, rs.mono e1, rh1, (Out.bind o1).imp fun d2 h2 ρ2 H2 e2 rh2 o2 v2 rd2 => ?_⟩
            split at o2
            · obtain ⟨p, rfl, f1⟩ := rd1
              obtain ⟨p2, rfl, f2⟩ := rd2
              split at o2
              · rename_i xs ys hx hy
                have f1' := e2.at_ _ _ f1
                obtain ⟨us, s1, s2⟩ := rh2.get hx f1'
                obtain ⟨ws, t1, t2⟩ := rh2.get hy f2
                exact ⟨p, p2, us, ws, rfl, by rw [← g.hK]; exact s1, by rw [← g.hK]; exact t1, Out.ok o2 (Ext.refl _ _) rh2 _ (by rw [g.hK]; exact it_zip f1' f2)⟩
              · exact False.elim o2
            · exact False.elim o2
          | _ => cases h8
      · cases h
    · cases h
end
end
end G4

/-! G10: statements, functions, the law's end. -/
namespace G4
open PySem PySem.Spec PyProof.Rows L2

def isComp : Expr → Bool
  | .ListComp .. => true
  | .SetComp .. => true
  | .DictComp .. => true
  | _ => false
theorem swaps_no {v : Expr} {t : Option Expr} {l : Nat} {env : Env} (h : isComp v = false) : swapsWith v t l env = pure false := by
  cases v <;> first | rfl | cases h
def isLocNm (sc : Scope) : Expr → Bool
  | .Name x _ => isLocal sc x
  | _ => false
/-- a, b = x, y where no stores are exchanged -/
def swN (ts vs : List Expr) (sc : Scope) : Bool := !(ts.length == 2 || ts.length == 3) || (vs.all (foldedForSure 8) || !(ts.all (isLocNm sc)))
theorem filterMap_len {α β : Type} {f : α → Option β} : ∀ {l : List α}, (l.filterMap f).length ≤ l.length
  | [] => Nat.le_refl _
  | a :: l => by
    rw [List.filterMap_cons]
    have := filterMap_len (f := f) (l := l)
    split <;> simp <;> omega
theorem filterMap_all {α β : Type} {f : α → Option β} {p : α → Bool} (hf : ∀ a, (f a).isSome = true → p a = true) : ∀ {l : List α}, (l.filterMap f).length = l.length → l.all p = true
  | [], _ => rfl
  | a :: l, h => by
    rw [List.filterMap_cons] at h
    have hl := filterMap_len (f := f) (l := l)
    cases q : f a with
    | none =>
      rw [q] at h
      simp only [List.length_cons] at h
      omega
    | some b =>
      rw [q] at h
      simp only [List.length_cons] at h
      rw [List.all_cons, hf a (by rw [q]; rfl), filterMap_all hf (l := l) (by omega)]; rfl
theorem swN_ok {ts vs : List Expr} {sc : Scope} {env : Env} {k1 k2 : Nat} {p1 p2 : Pos} (hs : env.scope = sc) (h : swN ts vs sc = true) : swappedStores [.Tuple ts k1 p1] (.Tuple vs k2 p2) env = pure none := by
  unfold swappedStores
  dsimp only
  split
  · rfl
  · split
    · rfl
    · split
      · rfl
      · rename_i h1 h2 h3
        split
        · rfl
        · rename_i h4
          exfalso
          unfold swN at h
          rw [Bool.or_eq_true, Bool.or_eq_true] at h
          simp only [Bool.or_eq_true, not_or] at h1 h3
          rcases h with h | h | h
          · exact h1.1.1 h
          · exact h4 h
          · have hall : ts.all (isLocNm sc) = true := by
              have this := h3.1
              simp at this
              rw [List.all_eq_true]
              intro a ha
              have q := this a ha
              cases a with
              | Name x p =>
                simp only [isLocNm]
                unfold isLocal
                have kk : env.kindOf x = some .local := by
                  apply Classical.byContradiction
                  intro hk
                  apply q
                  simp [hk]
                have e : sc.names.lookup x = some .local := by rw [← hs]; exact kk
                rw [e]
              | _ => exact absurd rfl q
            rw [hall] at h
            cases h
/-- two names, stored from the right -/
def swS2 (ts vs : List Expr) (sc : Scope) : Bool := match ts, vs with
  | [.Name x px, .Name y py], [a, b] => isLocal sc x && (isLocal sc y && (!decide (x = y) && (decide (py.line = px.line) && (noStar a && (noStar b && (!([a, b].all (foldedForSure 8)) && !([a, b].all (constantsAlone 8))))))))
  | _, _ => false
def swS3 (ts vs : List Expr) (sc : Scope) : Bool := match ts, vs with
  | [.Name x px, .Name y py, .Name z pz], [a, b, c] => isLocal sc x && (isLocal sc y && (isLocal sc z && (!decide (x = y) && (!decide (x = z) && (!decide (y = z) && (decide (py.line = px.line) && (decide (pz.line = px.line) && (noStar a && (noStar b && (noStar c && (!([a, b, c].all (foldedForSure 8)) && !([a, b, c].all (constantsAlone 8)))))))))))))
  | _, _ => false
theorem isLocal_kind {sc : Scope} {env : Env} {x : Str} (hs : env.scope = sc) (h : isLocal sc x = true) : env.kindOf x = some .local := by
  show env.scope.names.lookup x = _
  rw [hs]; exact local_ok h
theorem block_fn {env : Env} (h : env.scope.kind = .function) : env.blockKind = .function := by
  unfold Env.blockKind
  rw [h]; rfl
theorem swS2_ok {x y : Str} {px py p1 p2 : Pos} {a b : Expr} {env : Env} {k1 k2 : Nat} (hk : env.scope.kind = .function) (hx : env.kindOf x = some .local) (hy : env.kindOf y = some .local) (hne : x ≠ y) (hl : py.line = px.line) (na : noStar a = true) (nb : noStar b = true)
    (hf : [a, b].all (foldedForSure 8) = false) (hc : [a, b].all (constantsAlone 8) = false) : swappedStores [.Tuple [.Name x px, .Name y py] k1 p1] (.Tuple [a, b] k2 p2) env = pure (some [x, y]) := by
  have hb := block_fn hk
  unfold swappedStores
  simp [hb, hx, hy, hne, hl, hf, hc, Expr.pos, List.eraseDups_cons, Ne.symm hne]
  intro h
  exfalso
  rcases h with h | h
  · cases a <;> first | (cases na; done) | (cases h; done)
  · cases b <;> first | (cases nb; done) | (cases h; done)
theorem swS3_ok {x y z : Str} {px py pz p1 p2 : Pos} {a b c : Expr} {env : Env} {k1 k2 : Nat} (hk : env.scope.kind = .function) (hx : env.kindOf x = some .local) (hy : env.kindOf y = some .local) (hz : env.kindOf z = some .local) (hne : x ≠ y) (hne2 : x ≠ z) (hne3 : y ≠ z) (hl : py.line = px.line) (hl2 : pz.line = px.line) (na : noStar a = true) (nb : noStar b = true) (nc : noStar c = true)
    (hf : [a, b, c].all (foldedForSure 8) = false) (hc : [a, b, c].all (constantsAlone 8) = false) : swappedStores [.Tuple [.Name x px, .Name y py, .Name z pz] k1 p1] (.Tuple [a, b, c] k2 p2) env = pure (some [x, y, z]) := by
  have hb := block_fn hk
  unfold swappedStores
  simp [hb, hx, hy, hz, hne, hne2, hne3, hl, hl2, hf, hc, Expr.pos, List.eraseDups_cons, Ne.symm hne, Ne.symm hne2, Ne.symm hne3]
  intro h
  exfalso
  rcases h with h | h | h
  · cases a <;> first | (cases na; done) | (cases h; done)
  · cases b <;> first | (cases nb; done) | (cases h; done)
  · cases c <;> first | (cases nc; done) | (cases h; done)
end G4

/-! G11: statements, functions, the law's end. -/
namespace G4
open PySem PySem.Spec PyProof.Rows L2

/-- name = [..] on one line: the new list's name is stored before the block's names go -/
def swLc (sc : Scope) (tg v : Expr) : Bool := match tg, v with
  | .Name y py, .ListComp _ _ scope lp => isLocal sc y && (py.line == lp.line && !(scope.names.any fun (n, k) => n == y && (k == .local || k == .cell)))
  | _, _ => false
def okAsg (sc : Scope) (tg v : Expr) : Bool := match isComp v with
  | true => (match tg, v with
    | .Name _ _, .ListComp _ _ _ _ => true
    | _, _ => false)
  | false => (match tg, v with
    | .Tuple ts _ _, .Tuple vs _ _ => swN ts vs sc || (swS2 ts vs sc || swS3 ts vs sc)
    | _, _ => true)
section
variable (T : Tab) (cc : Cc) (N : List Str) (sc : Scope)
mutual
def chkS : IS → Stmt → Bool
  | .asg g e, s => match s with
    | .Assign ts v _ => match ts with
      | [tg] => chkG N sc sc g tg && (chkE T cc N sc sc e v && okAsg sc tg v)
      | _ => false
    | _ => false
  | .par _ _, _ => false
  | .setl o i e, s => match s with
    | .Assign ts v _ => match ts with
      | [.Subscript a b _] => !isComp v && (noSlice b && (chkE T cc N sc sc o a && (chkE T cc N sc sc i b && chkE T cc N sc sc e v)))
      | _ => false
    | _ => false
  | .aug i o e, s => match s with
    | .AugAssign (.Name x _) op v _ => decide (N[i]? = some x) && (loc sc x && (decide (o.py = op) && chkE T cc N sc sc e v))
    | _ => false
  | .ex e, s => match s with
    | .Expr v _ => !isComp v && chkE T cc N sc sc e v
    | _ => false
  | .ret e, s => match s with
    | .Return (some v) _ => chkE T cc N sc sc e v
    | _ => false
  | .retn, s => match s with
    | .Return none _ => true
    | _ => false
  | .iff t a b, s => match s with
    | .If x y z _ => chkT T cc N sc sc t x && (chkSs a y && chkSs b z)
    | _ => false
  | .wh t b, s => match s with
    | .While x y z _ => z.isEmpty && (chkT T cc N sc sc t x && chkSs b y)
    | _ => false
  | .fr g it b, s => match s with
    | .For tg iter y z _ => z.isEmpty && (noSet iter && (chkG N sc sc g tg && (chkI T cc N sc sc (isTup tg) it iter && chkSs b y)))
    | _ => false
  | .br, s => match s with
    | .Break _ => true
    | _ => false
  | .ct, s => match s with
    | .Continue _ => true
    | _ => false
  | .ps, s => match s with
    | .Pass _ => true
    | _ => false
  | .nev, _ => true
def chkSs : ISs → List Stmt → Bool
  | .nil, ss => ss.isEmpty
  | .cons s r, ss => match ss with
    | x :: xs => chkS s x && chkSs r xs
    | [] => false
end
end
section
variable {T : Tab} {cc : Cc} {k : Nat} {N : List Str} {sc : Scope} {c : Ck} {X : Cx}
theorem asg_weak {ig : IG} {me : Sl → Hv → R D} (hK : c.K = X.K) {D : Ends} {σ : L2.St} {H : Hp} (q : tSs c (fun τ h => (me τ h).stm τ fun x h => match asG ig x τ with
    | some τ' => .nx τ' h
    | none => .bad) D σ H) : tAsg (tD c me) (gOf X.K ig) D σ H := by
  obtain ⟨ρ, τ, h, rs, rh, o⟩ := q
  refine ⟨ρ, τ, h, rs, rh, (OutS.stm o rs).imp fun d h1 ρ1 H1 e1 rh1 o1 v rd => ?_⟩
  cases qa : asG ig d τ with
  | none => rw [qa] at o1; exact False.elim o1
  | some τ' =>
    rw [qa] at o1
    refine gOf_ok ig rd qa (rs.mono e1) fun σ' rs' _ => ?_
    exact o1 ρ1 H1 σ' (Ext.refl _ _) rh1 rs'
theorem swp_one {g : IG} {tg v : Expr} {so : Scope} {env : Env} (h : chkG N so sc g tg = true) (ht : (isTup tg && isTup v) = false) : swappedStores [tg] v env = pure none := by
  cases tg <;> first
    | rfl
    | (cases v <;> first | rfl | (cases ht; done))
    | (cases g <;> cases h)
theorem assign_one {g : IG} {tg : Expr} {so : Scope} {env : Env} (h : chkG N so sc g tg = true) : (assignEach [tg] env).map (·.2) = [assign tg env] := by
  rw [assign_star h]; rfl
theorem swaps_lc {elt : Expr} {gs : List Comprehension} {scope : Scope} {lp py : Pos} {y : Str} {l : Nat} {env : Env} (hk : env.scope.kind = .function) (hs : env.scope = sc) : swapsWith (.ListComp elt gs scope lp) (some (.Name y py)) l env = pure (swLc sc (.Name y py) (.ListComp elt gs scope lp)) := by
  have hb := block_fn hk
  unfold swapsWith swLc isLocal
  dsimp only
  have e : env.kindOf y = sc.names.lookup y := by rw [← hs]; rfl
  rw [hb, e]
  cases sc.names.lookup y with
  | none => rfl
  | some kd =>
    cases kd <;> first
      | rfl
      | (simp [Expr.pos]; rfl)
      | simp [Expr.pos]
theorem nm_form {g : IG} {x : Str} {p : Pos} {so : Scope} (h : chkG N so sc g (.Name x p) = true) : ∃ i, g = .nm i ∧ N[i]? = some x := by
  cases g with
  | nm i => exact ⟨i, rfl, of_decide_eq_true (and2 h).1⟩
  | tp gs => cases h
theorem cons_form {gs : List IG} {e : Expr} {es : List Expr} {so : Scope} (h : chkGs N so sc gs (e :: es) = true) : ∃ g gs', gs = g :: gs' ∧ chkG N so sc g e = true ∧ chkGs N so sc gs' es = true := by
  cases gs with
  | nil => cases h
  | cons g gs => exact ⟨g, gs, rfl, (and2 h).1, (and2 h).2⟩
theorem nil_form {gs : List IG} {so : Scope} (h : chkGs N so sc gs [] = true) : gs = [] := by
  cases gs with
  | nil => rfl
  | cons g gs => cases h
theorem tgt_form {g : IG} {es : List Expr} {kk : Nat} {p : Pos} {so : Scope} (h : chkG N so sc g (.Tuple es kk p) = true) : ∃ gs, g = .tp gs ∧ chkGs N so sc gs es = true := by
  cases g with
  | nm i => cases h
  | tp gs => exact ⟨gs, rfl, h⟩
theorem two_names {g : IG} {x y : Str} {px py p : Pos} {kk : Nat} {so : Scope} (h : chkG N so sc g (.Tuple [.Name x px, .Name y py] kk p) = true) : ∃ i j, g = .tp [.nm i, .nm j] ∧ N[i]? = some x ∧ N[j]? = some y := by
  obtain ⟨gs, rfl, h⟩ := tgt_form h
  obtain ⟨g1, gs, rfl, h1, h⟩ := cons_form h
  obtain ⟨g2, gs, rfl, h2, h⟩ := cons_form h
  obtain rfl := nil_form h
  obtain ⟨i, rfl, hi⟩ := nm_form h1
  obtain ⟨j, rfl, hj⟩ := nm_form h2
  exact ⟨i, j, rfl, hi, hj⟩
theorem three_names {g : IG} {x y z : Str} {px py pz p : Pos} {kk : Nat} {so : Scope} (h : chkG N so sc g (.Tuple [.Name x px, .Name y py, .Name z pz] kk p) = true) : ∃ i j l, g = .tp [.nm i, .nm j, .nm l] ∧ N[i]? = some x ∧ N[j]? = some y ∧ N[l]? = some z := by
  obtain ⟨gs, rfl, h⟩ := tgt_form h
  obtain ⟨g1, gs, rfl, h1, h⟩ := cons_form h
  obtain ⟨g2, gs, rfl, h2, h⟩ := cons_form h
  obtain ⟨g3, gs, rfl, h3, h⟩ := cons_form h
  obtain rfl := nil_form h
  obtain ⟨i, rfl, hi⟩ := nm_form h1
  obtain ⟨j, rfl, hj⟩ := nm_form h2
  obtain ⟨l, rfl, hl⟩ := nm_form h3
  exact ⟨i, j, l, rfl, hi, hj, hl⟩
theorem stm_bind {α β : Type} (r : R α) (f : α → Hv → R β) (τ : Sl) (F : β → Hv → RS) : (r.bind f).stm τ F = r.stm τ fun a h => (f a h).stm τ F := by
  cases r <;> rfl
theorem tup_form {so : Scope} {e : IE} {vs : List Expr} {kk : Nat} {p : Pos} (h : chkE T cc N so sc e (.Tuple vs kk p) = true) : ∃ es, e = .tp es ∧ chkA T cc N so sc es vs = true := by
  cases e with
  | tp es => exact ⟨es, rfl, h⟩
  | sl a lo hi => cases h
  | _ => first | (cases h; done) | (unfold chkE at h; cases h)
theorem asg_ok (g : Gd T cc k N sc sc c X) {ig : IG} {e : IE} {tg v : Expr} {pos : Pos} (h1 : chkG N sc sc ig tg = true) (h2 : chkE T cc N sc sc e v = true) (h3 : okAsg sc tg v = true) : PS X (.Assign [tg] v pos) (tSs c (exS (den T k) (.asg ig e))) := by
  have hgk := pg_ok ig g h1
  have hek := sndE e g h2
  have hkd : X.env.scope.kind = .function := by rw [g.hs]; exact g.kd
  have fin : ∀ D σ H, tSs c (exS (den T k) (.asg ig e)) D σ H → tAsg (tD c (evE (den T k) e)) (gOf X.K ig) D σ H := fun D σ H q => by
    obtain ⟨ρ, τ, h, rs, rh, o⟩ := q
    simp only [exS] at o
    exact asg_weak g.hK ⟨ρ, τ, h, rs, rh, o⟩
  unfold okAsg at h3
  split at h3
  · split at h3
    · rename_i y py elt gens scope lp hc
      have sw := swaps_lc (l := pos.line) (elt := elt) (gs := gens) (scope := scope) (lp := lp) (py := py) (y := y) hkd g.hs
      cases hsw : swLc sc (.Name y py) (.ListComp elt gens scope lp) with
      | false =>
        rw [hsw] at sw
        exact PS.weak (ps_asg hek hgk sw rfl rfl) fin
      | true =>
        rw [hsw] at sw
        have hl : isLocal sc y = true := (and2 hsw).1
        have hyl : X.env.scope.names.lookup y = some .local := by rw [g.hs]; exact local_ok hl
        cases ig with
        | tp gs => cases h1
        | nm i =>
          have hi : N[i]? = some y := of_decide_eq_true (and2 h1).1
          cases e with
          | lc own g2 it t0 tt elt' =>
            have h := h2
            unfold chkE at h
            dsimp only at h
            split at h
            · rename_i tg iter ifs as
              obtain ⟨c1, h⟩ := and2 h
              obtain ⟨c2, h⟩ := and2 h
              obtain ⟨c3, h⟩ := and2 h
              obtain ⟨c4, h⟩ := and2 h
              obtain ⟨c5, h⟩ := and2 h
              obtain ⟨c6, h⟩ := and2 h
              obtain ⟨c7, c8⟩ := and2 h
              have e1 := of_decide_eq_true c1
              subst e1
              have bk := (blkOk_by c2).kind
              have hts : ∀ (s : Shared) (H : Hp) (C : Addr) (cl : List (Str × Addr)) (fp : List Addr), PTs (X.blk s H scope (compEnvC scope cl C X.env) fp) ifs (tDb c.no (evT (den T k) tt)) := by
                intro s H C cl fp
                cases ifs with
                | nil =>
                  cases tt <;> first
                    | (cases c7; done)
                    | exact ⟨fun pins s σ H Q I q => by
                        obtain ⟨ρ, τ, h, rs, rh, o⟩ := q
                        simp only [evT] at o
                        exact pts_nil.run pins s σ H Q I (Out.ok o (Ext.refl _ _) rh)⟩
                | cons t ts =>
                  cases ts with
                  | nil => exact pts_one (sndT tt (g.blk bk s H C cl fp) c7)
                  | cons t2 ts => cases c7
              refine PS.weak (ps_setLc g.calm (by rw [g.hN]; exact g.nd) (by rw [g.hN]; exact hi) hyl sw (sndI it g c6) (blkOk_by (by rw [g.hN, g.hs]; exact c2)) (fun s H C cl fp => show PG (X.blk s H scope (compEnvC scope cl C X.env) fp) tg (gOf X.K g2) from pg_ok g2 (g.blk bk s H C cl fp) c3) hts (fun s H C cl fp => sndE elt' (g.blk bk s H C cl fp) c8) (noSet_for c5)) fun D σ H q => ?_
              have w := fin D σ H q
              obtain ⟨ρ, τ, h, rs, rh, o⟩ := w
              simp only [evE] at o
              have := lc_weak (X := X) (c := c) (ig := g2) (own := own) (mi := evI (den T k) it) (mt := evT (den T k) tt) (me := evE (den T k) elt') g.hK (fun i hi => of_decide_eq_true (List.all_eq_true.mp c4 i hi)) (σ := σ) (H := H) ⟨ρ, τ, h, rs, rh, o⟩
              rw [g.hK] at this
              exact this
            · cases h
          | _ => first | (cases h2; done) | (unfold chkE at h2; cases h2)
    · cases h3
  · rename_i hc
    have sw : swapsWithSole [tg] v pos.line X.env = pure false := swaps_no hc
    split at h3
    · rename_i ts k1 p1 vs k2 p2
      rcases Bool.or_eq_true_iff.mp h3 with h4 | h4
      · exact PS.weak (ps_asg hek hgk sw (swN_ok g.hs h4) (assign_one h1)) fin
      · obtain ⟨es, rfl, h5⟩ := tup_form h2
        have hA := sndA es g h5
        rcases Bool.or_eq_true_iff.mp h4 with h6 | h6
        · unfold swS2 at h6
          split at h6
          · rename_i x px y py a b
            obtain ⟨q1, h6⟩ := and2 h6
            obtain ⟨q2, h6⟩ := and2 h6
            obtain ⟨q3, h6⟩ := and2 h6
            obtain ⟨q4, h6⟩ := and2 h6
            obtain ⟨q5, h6⟩ := and2 h6
            obtain ⟨q6, h6⟩ := and2 h6
            obtain ⟨q7, q8⟩ := and2 h6
            obtain ⟨i, j, rfl, hi, hj⟩ := two_names h1
            have hne : x ≠ y := by simpa using q3
            have hij : i ≠ j := fun z => hne (by subst z; rw [hi] at hj; exact Option.some.inj hj)
            refine PS.weak (ps_par g.calm (by rw [g.hN]; exact g.nd) (by rw [g.hN]; exact hi) (by rw [g.hN]; exact hj) hij (by rw [g.hs]; exact local_ok q1) (by rw [g.hs]; exact local_ok q2) hA
              (swS2_ok hkd (isLocal_kind g.hs q1) (isLocal_kind g.hs q2) hne (of_decide_eq_true q4) q5 q6 ((Bool.not_eq_true' _).mp q7) ((Bool.not_eq_true' _).mp q8)) sw) fun D σ H q => ?_
            obtain ⟨ρ, τ, h, rs, rh, o⟩ := q
            simp only [exS, evE] at o
            rw [stm_bind] at o
            refine ⟨ρ, τ, h, rs, rh, (OutS.stm o rs).imp fun ds h1 ρ1 H1 e1 rh1 o1 us rd => ?_⟩
            split at o1
            · cases qa : asG (.tp [.nm i, .nm j]) (.tup ds) τ with
              | none =>
                simp only [R.stm, qa] at o1
                exact False.elim o1
              | some τ' =>
                simp only [R.stm, qa] at o1
                match ds, qa, rd with
                | [], qa, _ => simp [asG, asGs] at qa
                | [_], qa, _ => simp [asG, asGs] at qa
                | _ :: _ :: _ :: _, qa, _ => simp [asG, asGs] at qa
                | [d1, d2], qa, rd =>
                  obtain ⟨v, w, rfl, r1, r2⟩ := two_rel rd
                  simp only [asG, asGs] at qa
                  cases qa
                  exact ⟨v, w, rfl, o1 ρ1 H1 _ (Ext.refl _ _) rh1 (((rs.mono e1).set r1).set r2)⟩
            · exact False.elim o1
          · cases h6
        · unfold swS3 at h6
          split at h6
          · rename_i x px y py z pz a b d
            obtain ⟨q1, h6⟩ := and2 h6
            obtain ⟨q2, h6⟩ := and2 h6
            obtain ⟨q3, h6⟩ := and2 h6
            obtain ⟨q4, h6⟩ := and2 h6
            obtain ⟨q5, h6⟩ := and2 h6
            obtain ⟨q6, h6⟩ := and2 h6
            obtain ⟨q7, h6⟩ := and2 h6
            obtain ⟨q8, h6⟩ := and2 h6
            obtain ⟨q9, h6⟩ := and2 h6
            obtain ⟨q10, h6⟩ := and2 h6
            obtain ⟨q11, h6⟩ := and2 h6
            obtain ⟨q12, q13⟩ := and2 h6
            obtain ⟨i, j, l, rfl, hi, hj, hl⟩ := three_names h1
            have hne : x ≠ y := by simpa using q4
            have hne2 : x ≠ z := by simpa using q5
            have hne3 : y ≠ z := by simpa using q6
            have hij : i ≠ j := fun w => hne (by subst w; rw [hi] at hj; exact Option.some.inj hj)
            have hil : i ≠ l := fun w => hne2 (by subst w; rw [hi] at hl; exact Option.some.inj hl)
            have hjl : j ≠ l := fun w => hne3 (by subst w; rw [hj] at hl; exact Option.some.inj hl)
            refine PS.weak (ps_par3 g.calm (by rw [g.hN]; exact g.nd) (by rw [g.hN]; exact hi) (by rw [g.hN]; exact hj) (by rw [g.hN]; exact hl) hij hil hjl (by rw [g.hs]; exact local_ok q1) (by rw [g.hs]; exact local_ok q2) (by rw [g.hs]; exact local_ok q3) hA
              (swS3_ok hkd (isLocal_kind g.hs q1) (isLocal_kind g.hs q2) (isLocal_kind g.hs q3) hne hne2 hne3 (of_decide_eq_true q7) (of_decide_eq_true q8) q9 q10 q11 ((Bool.not_eq_true' _).mp q12) ((Bool.not_eq_true' _).mp q13)) sw) fun D σ H q => ?_
            obtain ⟨ρ, τ, h, rs, rh, o⟩ := q
            simp only [exS, evE] at o
            rw [stm_bind] at o
            refine ⟨ρ, τ, h, rs, rh, (OutS.stm o rs).imp fun ds h1 ρ1 H1 e1 rh1 o1 us rd => ?_⟩
            split at o1
            · cases qa : asG (.tp [.nm i, .nm j, .nm l]) (.tup ds) τ with
              | none =>
                simp only [R.stm, qa] at o1
                exact False.elim o1
              | some τ' =>
                simp only [R.stm, qa] at o1
                match ds, qa, rd with
                | [], qa, _ => simp [asG, asGs] at qa
                | [_], qa, _ => simp [asG, asGs] at qa
                | [_, _], qa, _ => simp [asG, asGs] at qa
                | _ :: _ :: _ :: _ :: _, qa, _ => simp [asG, asGs] at qa
                | [d1, d2, d3], qa, rd =>
                  obtain ⟨u, us', rfl, r1, rd⟩ := rd
                  obtain ⟨v, w, rfl, r2, r3⟩ := two_rel rd
                  simp only [asG, asGs] at qa
                  cases qa
                  exact ⟨u, v, w, rfl, o1 ρ1 H1 _ (Ext.refl _ _) rh1 ((((rs.mono e1).set r1).set r2).set r3)⟩
            · exact False.elim o1
          · cases h6
    · rename_i hnt
      refine PS.weak (ps_asg hek hgk sw (swp_one h1 ?_) (assign_one h1)) fin
      cases tg <;> cases v <;> first | rfl | exact absurd rfl (hnt _ _ _ _ _ _ rfl)
end
end G4

/-! G12: blocks, functions, the law's end. -/
namespace G4
open PySem PySem.Spec PyProof.Rows L2

section
variable {T : Tab} {cc : Cc} {k : Nat} {N : List Str} {sc : Scope} {c : Ck} {X : Cx}
theorem noSlice_set {o i : Expr} {pos : Pos} {env : Env} (h : noSlice i = true) (v : Value) : assign (.Subscript o i pos) env v = (do
      let ov ← holding [v] (eval o env)
      let iv ← holding [v, ov] (eval i env)
      standAt pos
      holding [v, ov, iv] (setItem ov iv v)
      release [v, ov, iv] []) := by
  cases i <;> first | rfl | cases h
theorem swapsSole {t v : Expr} {l : Nat} {env : Env} (h : isComp v = false) : swapsWithSole [t] v l env = pure false := swaps_no (t := some t) (l := l) (env := env) h
mutual
theorem sndS : ∀ (is : IS) {st : Stmt}, Gd T cc k N sc sc c X → chkS T cc N sc is st = true → PS X st (tSs c (exS (den T k) is))
  | .asg ig e, st, g, h => by
    unfold chkS at h
    split at h
    · split at h
      · obtain ⟨h1, h⟩ := and2 h
        obtain ⟨h2, h3⟩ := and2 h
        exact asg_ok g h1 h2 h3
      · cases h
    · cases h
  | .par _ _, st, g, h => by
    unfold chkS at h
    cases h
  | .setl o i e, st, g, h => by
    unfold chkS at h
    split at h
    · split at h
      · rename_i v pos ts a b tp
        obtain ⟨h1, h⟩ := and2 h
        obtain ⟨h2, h⟩ := and2 h
        obtain ⟨h3, h⟩ := and2 h
        obtain ⟨h4, h5⟩ := and2 h
        have nc : isComp v = false := (Bool.not_eq_true' _).mp h1
        refine PS.weak (ps_asg (sndE e g h5) (pg_sub (sndE o g h3) (sndE i g h4) set_list (noSlice_set h2)) (swapsSole nc) rfl rfl) fun D σ H q => ?_
        obtain ⟨ρ, τ, h, rs, rh, o1⟩ := q
        simp only [exS] at o1
        refine ⟨ρ, τ, h, rs, rh, (OutS.stm o1 rs).imp fun d1 h1 ρ1 H1 e1 rh1 o1 v1 rd1 => ?_⟩
        refine ⟨ρ1, τ, h1, rs.mono e1, rh1, (OutS.stm o1 (rs.mono e1)).imp fun d2 h2 ρ2 H2 e2 rh2 o2 v2 rd2 => ?_⟩
        refine ⟨ρ2, τ, h2, (rs.mono e1).mono e2, rh2, (OutS.stm o2 ((rs.mono e1).mono e2)).imp fun d3 h3 ρ3 H3 e3 rh3 o3 v3 rd3 => ?_⟩
        split at o3
        · have r2 := rd2.mono e3
          obtain ⟨p, rfl, ep⟩ := r2
          have e3' : v3 = .int _ := rd3
          subst e3'
          split at o3
          · rename_i xs hx
            split at o3
            · rename_i j hj
              obtain ⟨us, u1, u2⟩ := rh3.lst hx ep
              refine ⟨p, us, _, j, rfl, rfl, u1, by rw [ixN_idx, ← u2.len]; exact hj, ?_⟩
              have exs : Ext ρ3 H3 ρ3 (upd H3 p (.lst (us.set j v1))) := ext_set u1
              exact o3 ρ3 _ σ exs (rh3.set hx ep (u2.set j ((rd1.mono e2).mono e3))) ((((rs.mono e1).mono e2).mono e3).mono exs)
            · exact False.elim o3
          · exact False.elim o3
        · exact False.elim o3
      · cases h
    · cases h
  | .aug i o e, st, g, h => by
    unfold chkS at h
    split at h
    · rename_i x xp op v pos
      obtain ⟨h1, h⟩ := and2 h
      obtain ⟨h2, h⟩ := and2 h
      obtain ⟨h3, h4⟩ := and2 h
      have e1 := of_decide_eq_true h3
      subst e1
      have hl : Loc sc x := loc_ok h2
      have hf : X.fn x = true ∨ X.env.scope.names.lookup x = some .local := by
        rcases hl with z | z
        · exact .inr (by rw [g.hs]; exact z)
        · exact .inl (g.fnl _ z)
      refine PS.weak (ps_aug (by rw [g.hN]; exact g.nd) (by rw [g.hN]; exact of_decide_eq_true h1) (by rw [g.hs]; exact hl) (sndE e g h4) (ip_all2 o) hf) fun D σ H q => ?_
      obtain ⟨ρ, τ, h, rs, rh, o1⟩ := q
      simp only [exS] at o1
      split at o1
      · rename_i d hd
        obtain ⟨w, w1, w2⟩ := rs.get hd
        refine ⟨w, w1, ρ, τ, h, rs, rh, (OutS.stm o1 rs).imp fun d1 h1 ρ1 H1 e1 rh1 o2 v1 rd1 => ?_⟩
        have o3 := OutS.stm o2 (rs.mono e1)
        have w3 := w2.mono e1
        rw [g.hK] at rh1
        refine ip_ok o (XI := c.XI) (E := c.E σ) rh1 w3 rd1 ?_
        rw [g.hK] at o3
        exact o3.imp fun z h2 ρ2 H2 e2 rh2 o4 vz rz => o4 ρ2 H2 _ (Ext.refl _ _) (by rw [g.hK]; exact rh2) (((rs.mono e1).mono e2).set rz)
      · exact False.elim o1
    · cases h
  | .ex e, st, g, h => by
    unfold chkS at h
    split at h
    · obtain ⟨h1, h2⟩ := and2 h
      refine PS.weak (ps_expr (sndE e g h2) (swaps_no ((Bool.not_eq_true' _).mp h1))) fun D σ H q => ?_
      obtain ⟨ρ, τ, h, rs, rh, o1⟩ := q
      simp only [exS] at o1
      exact ⟨ρ, τ, h, rs, rh, (OutS.stm o1 rs).imp fun d1 h1 ρ1 H1 e1 rh1 o2 v1 rd1 => o2 ρ1 H1 σ (Ext.refl _ _) rh1 (rs.mono e1)⟩
    · cases h
  | .ret e, st, g, h => by
    unfold chkS at h
    split at h
    · refine PS.weak (ps_ret (sndE e g h)) fun D σ H q => ?_
      obtain ⟨ρ, τ, h, rs, rh, o1⟩ := q
      simp only [exS] at o1
      exact ⟨ρ, τ, h, rs, rh, (OutS.stm o1 rs).imp fun d1 h1 ρ1 H1 e1 rh1 o2 v1 rd1 => o2 ρ1 H1 v1 (Ext.refl _ _) rh1 rd1⟩
    · cases h
  | .retn, st, g, h => by
    unfold chkS at h
    split at h
    · refine PS.weak ps_retN fun D σ H q => ?_
      obtain ⟨ρ, τ, h, rs, rh, o1⟩ := q
      simp only [exS] at o1
      exact o1 ρ H _ (Ext.refl _ _) rh rfl
    · cases h
  | .iff t a b, st, g, h => by
    unfold chkS at h
    split at h
    · obtain ⟨h1, h⟩ := and2 h
      obtain ⟨h2, h3⟩ := and2 h
      refine PS.weak (ps_if (sndT t g h1) (sndSs a g h2) (sndSs b g h3)) fun D σ H q => ?_
      obtain ⟨ρ, τ, h, rs, rh, o1⟩ := q
      simp only [exS] at o1
      refine ⟨ρ, τ, h, rs, rh, (OutS.stm o1 rs).imp fun kk h1 ρ1 H1 e1 rh1 o2 => ?_⟩
      cases kk with
      | true => rw [if_pos rfl]; exact ⟨ρ1, τ, h1, rs.mono e1, rh1, o2⟩
      | false => rw [if_neg Bool.false_ne_true]; exact ⟨ρ1, τ, h1, rs.mono e1, rh1, o2⟩
    · cases h
  | .wh t b, st, g, h => by
    unfold chkS at h
    split at h
    · rename_i x y z pos
      obtain ⟨h0, h⟩ := and2 h
      obtain ⟨h1, h2⟩ := and2 h
      cases z with
      | cons s r => cases h0
      | nil =>
        refine PS.weak (ps_whileG g.own (sndT t g h1) (sndSs b g h2)) fun D σ H q => ?_
        obtain ⟨ρ, τ, h, rs, rh, o1⟩ := q
        simp only [exS] at o1
        exact ⟨ρ, τ, h, rs, rh, o1⟩
    · cases h
  | .fr ig it b, st, g, h => by
    unfold chkS at h
    split at h
    · rename_i tg iter y z pos
      obtain ⟨h0, h⟩ := and2 h
      obtain ⟨h1, h⟩ := and2 h
      obtain ⟨h2, h⟩ := and2 h
      obtain ⟨h3, h4⟩ := and2 h
      cases z with
      | cons s r => cases h0
      | nil =>
        refine PS.weak (ps_forG g.own g.calm (sndI it g h3) (by rw [g.hK]; exact pg_ok ig g h2) (sndSs b g h4) (noSet_for h1)) fun D σ H q => ?_
        obtain ⟨ρ, τ, h, rs, rh, o1⟩ := q
        simp only [exS] at o1
        exact ⟨ρ, τ, h, rs, rh, o1⟩
    · cases h
  | .br, st, g, h => by
    unfold chkS at h
    split at h
    · refine PS.weak ps_break fun D σ H q => ?_
      obtain ⟨ρ, τ, h, rs, rh, o1⟩ := q
      simp only [exS] at o1
      exact o1 ρ H σ (Ext.refl _ _) rh rs
    · cases h
  | .ct, st, g, h => by
    unfold chkS at h
    split at h
    · refine PS.weak ps_continue fun D σ H q => ?_
      obtain ⟨ρ, τ, h, rs, rh, o1⟩ := q
      simp only [exS] at o1
      exact o1 ρ H σ (Ext.refl _ _) rh rs
    · cases h
  | .ps, st, g, h => by
    unfold chkS at h
    split at h
    · refine PS.weak ps_pass fun D σ H q => ?_
      obtain ⟨ρ, τ, h, rs, rh, o1⟩ := q
      simp only [exS] at o1
      exact o1 ρ H σ (Ext.refl _ _) rh rs
    · cases h
  | .nev, st, g, h => PS.weak ps_never fun D σ H q => by
      obtain ⟨ρ, τ, h, rs, rh, o1⟩ := q
      simp only [exS] at o1
      exact o1
theorem sndSs : ∀ (is : ISs) {ss : List Stmt}, Gd T cc k N sc sc c X → chkSs T cc N sc is ss = true → PSs X ss (tSs c (exSs (den T k) is))
  | .nil, ss, g, h => by
    unfold chkSs at h
    cases ss with
    | cons s r => cases h
    | nil =>
      refine PSs.weak pss_nil fun D σ H q => ?_
      obtain ⟨ρ, τ, h, rs, rh, o1⟩ := q
      simp only [exSs] at o1
      exact o1 ρ H σ (Ext.refl _ _) rh rs
  | .cons s r, ss, g, h => by
    unfold chkSs at h
    cases ss with
    | nil => cases h
    | cons x xs =>
      obtain ⟨h1, h2⟩ := and2 h
      refine PSs.weak (pss_cons (sndS s g h1) (sndSs r g h2)) fun D σ H q => ?_
      obtain ⟨ρ, τ, h, rs, rh, o1⟩ := q
      simp only [exSs] at o1
      refine ⟨ρ, τ, h, rs, rh, ?_⟩
      cases q : exS (den T k) s τ h with
      | nx τ' h' =>
        rw [q] at o1
        exact fun ρ' H' σ' e rh' rs' => ⟨ρ', τ', h', rs', rh', o1.later e⟩
      | rt d h' => rw [q] at o1; exact o1
      | bk τ' h' => rw [q] at o1; exact o1
      | ct τ' h' => rw [q] at o1; exact o1
      | ex cl as τ' h' => rw [q] at o1; exact o1
      | bad => rw [q] at o1; exact o1
end
end

/-! ### functions -/
def scB (N ps : List Str) (sc : Scope) : Bool := (match sc.kind with
  | .function => true
  | _ => false) && (!sc.isCoroutine && (!sc.isGenerator && (decide N.Nodup && (decide (N.take ps.length = ps) && ((ps.all fun x => isLocal sc x || isCell sc x) && sc.names.all fun y => !decide (y.2 = .free))))))
theorem scB_ok {N ps : List Str} {sc : Scope} (h : scB N ps sc = true) : FnScope N ps sc := by
  obtain ⟨h1, h⟩ := and2 h
  obtain ⟨h2, h⟩ := and2 h
  obtain ⟨h3, h⟩ := and2 h
  obtain ⟨h4, h⟩ := and2 h
  obtain ⟨h5, h⟩ := and2 h
  obtain ⟨h6, h7⟩ := and2 h
  refine ⟨?_, (Bool.not_eq_true' _).mp h2, (Bool.not_eq_true' _).mp h3, of_decide_eq_true h4, of_decide_eq_true h5, fun x hx => ?_, fun y hy => ?_⟩
  · split at h1
    · assumption
    · cases h1
  · rcases Bool.or_eq_true_iff.mp (List.all_eq_true.mp h6 x hx) with z | z
    · exact .inl (local_ok z)
    · exact .inr (cell_ok z)
  · have := List.all_eq_true.mp h7 y hy
    simpa using this
/-- a def of the text: its function object, its names, its form -/
structure DefAt (T : Tab) (cc : Cc) (K : PySem.W.Frag) (mg : Str → Option Value) (f : Nat) (fn : Fn) : Prop where
  ex : ∃ (a : Addr) (oc : Value) (od : Option Addr) (name qual : Str) (params : Arguments) (body : List Stmt) (scope : Scope) (dV kV doc pm : Value) (an : Option Addr) (cdv ct : Value) (osl : Array (Option Value)) (N ps : List Str),
    mg (cc.nm f) = some (.ref a) ∧ PySem.W.keepIn K (.ref a) = true ∧ K.lookup a = some ⟨oc, od, .func (PySem.W.fnOf name qual params body scope dV kV doc pm an cdv ct), osl⟩ ∧ PySem.W.codeIn K cdv qual = true ∧
    ps.length = fn.np ∧ N.length = fn.ns ∧ scB N ps scope = true ∧ chkSs T cc N scope fn.body body = true ∧
    (∀ us : List Value, us.length = ps.length → bindArgs (PySem.W.fnOf name qual params body scope dV kV doc pm an cdv ct) ⟨us, []⟩ = pure (ps.zip us)) ∧
    (∀ n ks pl, cc.kw f n ks = some pl → KwOk (PySem.W.fnOf name qual params body scope dV kV doc pm an cdv ct) ps n ks pl)
theorem fnG_at {T : Tab} {cc : Cc} {P : Program} {w : World} {K : PySem.W.Frag} {XI : XInfo} {mg : Str → Option Value} {base : Heap} {k f : Nat} {fn : Fn} {a : Addr} {oc : Value} {od : Option Addr} {name qual : Str} {params : Arguments} {body : List Stmt} {scope : Scope} {dV kV doc pm : Value} {an : Option Addr} {cdv ct : Value} {osl : Array (Option Value)} {N ps : List Str}
    (st : ∀ j, k = j + 1 → Stat T cc j P w K XI mg base) (hf : T f = some fn) (h3 : K.lookup a = some ⟨oc, od, .func (PySem.W.fnOf name qual params body scope dV kV doc pm an cdv ct), osl⟩) (h4 : PySem.W.codeIn K cdv qual = true)
    (h5 : ps.length = fn.np) (h6 : N.length = fn.ns) (h7 : scB N ps scope = true) (h8 : chkSs T cc N scope fn.body body = true) :
    FnG P w K XI mg base k a (PySem.W.fnOf name qual params body scope dV kV doc pm an cdv ct) ps (den T k f) := by
  cases k with
  | zero => exact ⟨fun A outer s H args us vs ds ρ h Q E hr hg e0 hbd hl r rd rh o => False.elim o⟩
  | succ k =>
    have S := scB_ok h7
    refine fnG_of (N := N) (b := exSs (den T k) fn.body) h3 h4 S (fun A outer s H E hr hgd => ?_) (fun ds h => ?_)
    · exact sndSs fn.body ⟨st k rfl, rfl, rfl, S.nd, rfl, S.kind, rfl, fun _ _ => rfl, hr, hgd, fun σ => passAt (takes_of rfl rfl rfl rfl) σ, passes_of rfl⟩ h8
    · simp only [den, hf]
      unfold runFn
      rw [h5, h6]
      all_goals rfl
theorem stat_all {T : Tab} {cc : Cc} {P : Program} {w : World} {K : PySem.W.Frag} {XI : XInfo} {mg : Str → Option Value} {base : Heap} (hd : ∀ f fn, T f = some fn → DefAt T cc K mg f fn) (hb : ∀ x ∈ cc.bl, mg x = none)
    (hg : ∀ x d, cc.gl x = some d → ∃ u v, mg x = some u ∧ RelV v u ∧ ∀ ρ H, RelD ρ H d v) : ∀ k, Stat T cc k P w K XI mg base
  | 0 => ⟨fun f fn hf => by
      obtain ⟨a, oc, od, name, qual, params, body, scope, dV, kV, doc, pm, an, cdv, ct, osl, N, ps, h1, h2, h3, h4, h5, h6, h7, h8, h9, h10⟩ := (hd f fn hf).ex
      exact ⟨a, _, ps, h1, h2, h5, h9, h10, fnG_at (fun j e => Nat.noConfusion e) hf h3 h4 h5 h6 h7 h8⟩, hb, hg⟩
  | k + 1 => ⟨fun f fn hf => by
      have st := stat_all (P := P) (w := w) (XI := XI) (base := base) hd hb hg k
      obtain ⟨a, oc, od, name, qual, params, body, scope, dV, kV, doc, pm, an, cdv, ct, osl, N, ps, h1, h2, h3, h4, h5, h6, h7, h8, h9, h10⟩ := (hd f fn hf).ex
      exact ⟨a, _, ps, h1, h2, h5, h9, h10, fnG_at (fun j e => by cases e; exact st) hf h3 h4 h5 h6 h7 h8⟩, hb, hg⟩

/-! ### the law's end -/
theorem law_G {P : Program} {w : World} {K : PySem.W.Frag} {XI : XInfo} {mg mb : Str → Option Value} {k : Nat} {fa a : Addr} {fd : FuncData} {x : Str} {m : List D → Hv → R D} {s₁ : Shared} {vs : List Value} {ns : List Int}
    (KX : K.In s₁.heap) (hns : s₁.heap.Ns mainGlobals mg) (hb : s₁.heap.Ns builtinsNs mb) (hbb : ∀ y : Str, y ≠ "__name__" → mb y = bootBuiltins y) (hlim : s₁.heap.NoLimit) (hg : s₁.gens = #[])
    (ha : s₁.heap.get? a = some { cls := .type "list", data := .seq vs.toArray }) (hi : IntsAre vs ns) (hl : ns.length ≤ sizeLine) (hr : Room k callerA)
    (F : ∀ base : Heap, FnG P w K XI mg base k fa fd [x] m) (hbind : ∀ u : Value, bindArgs fd ⟨[u], []⟩ = pure [(x, u)])
    (hm : ∃ h', m [.ref 0] [.scr (ns.map D.int)] = .ok (.bl true) h') :
    codeAny (model P w) callerA (.call (.ref fa) ⟨[.ref a], []⟩) (fun r s' => r = .ok (.ret (.bool true)) ∧ OldK s₁.heap s'.heap ∧ s'.os = s₁.os ∧ AllBare s'.gens) s₁ := by
  obtain ⟨hv, hm⟩ := hm
  have rv := vals_ints hi
  have lv : vs.length = ns.length := hi.length
  have relI : ∀ (ρ : List Addr) (H : Hp) (l : List Int), RelDs ρ H (l.map D.int) (l.map V.int) := fun ρ H l => by
    induction l with
    | nil => rfl
    | cons n l ih => exact ⟨_, _, rfl, rfl, ih⟩
  -- whatever stands for the script: an abstract heap that holds it alone, or nothing
  have run : ∀ H : Hp, (∀ b, H b = none ∨ ∃ o xs, H b = some (.frz o (.lst xs))) → SqR K H a (ns.map V.int) → HOk P w H s₁.heap → (∀ b, H b ≠ none → b = a) → (H a ≠ none → K.lookup a = none) →
      codeAny (model P w) callerA (.call (.ref fa) ⟨[.ref a], []⟩) (fun r s' => r = .ok (.ret (.bool true)) ∧ OldK s₁.heap s'.heap ∧ s'.os = s₁.os ∧ AllBare s'.gens) s₁ := by
    intro H hO hS hok hA hK
    have tr : ∀ {b : Addr} {u : HO}, H b = some u → b = a := fun {b u} q => hA b (by rw [q]; exact Option.some_ne_none u)
    have dictN : ∀ {b : Addr} {o : Obj} {es : Array DictEntry} {ep : Nat}, s₁.heap.get? b = some o → o.data = .dict es ep → H b = none := by
      intro b o es ep e d
      cases q : H b with
      | none => rfl
      | some u =>
        have eb := tr q
        rw [eb, ha] at e
        cases e
        exact Data.noConfusion d
    have hN : ∀ {b : Addr} {m : Str → Option Value}, s₁.heap.Ns b m → (hidT s₁.heap H).Ns b m := by
      intro b m hh
      obtain ⟨o, es, ep, e, d, r⟩ := hh
      exact ⟨o, es, ep, hidT_get e (dictN e d), d, r⟩
    have kIn : K.In (hidT s₁.heap H) := by
      intro b o e
      refine hidT_get (KX b o e) ?_
      cases q : H b with
      | none => rfl
      | some u =>
        have eb := tr q
        rw [eb] at q e
        rw [hK (by rw [q]; exact Option.some_ne_none u)] at e
        cases e
    have lim2 : (hidT s₁.heap H).NoLimit := by
      obtain ⟨mc, l1, l2⟩ := hlim
      exact ⟨mc, hN l1, l2⟩
    have env : Env0 P w K mg (hidT s₁.heap H) callerA [] s₁ H :=
      { frames := rfl, mod := ⟨kIn, hN hns, ⟨mb, hN hb, hbb⟩, lim2⟩, bs := fun b o e => of_hidT e, bsz := Nat.le_of_eq (hidT_size _ _), funs := trivial, frf := fun b z => (List.not_mem_nil z).elim, hok := hok, bare := .of_eq hg }
    have rh : RelH K [a] [.scr (ns.map D.int)] H := by
      refine ⟨rfl, fun i o p hi hp => ?_, fun i j p xs ys hi hj _ _ => ?_⟩
      · cases i with
        | zero =>
          cases hi
          cases hp
          exact ⟨_, hS, relI _ _ _⟩
        | succ i => simp at hi
      · cases i with
        | zero => cases hi
        | succ i => simp at hi
    refine codeAny_mono ((F _).run callerA [] s₁ H ⟨[.ref a], []⟩ [.ref a] [.ref a] [.ref 0] [a] [.scr (ns.map D.int)] (fun v _ => v = .bl true) (fun _ _ _ => False) hr rfl env (.of_eq (hbind _)) rfl (.cons rfl .nil) (RelDs.one ⟨a, rfl, rfl⟩) rh (by
      rw [hm]
      exact fun ρ' H' _ _ v rv => rv)) fun r s' h => ?_
    cases r with
    | error e =>
      obtain ⟨_, _, _, _, _, _, _, _, _, _, _, _, z⟩ := h
      exact z.elim
    | ok fl =>
      cases fl with
      | next => exact False.elim h
      | brk => exact False.elim h
      | cont => exact False.elim h
      | ret u =>
        obtain ⟨v, H', os, bare, un, hok', r', q⟩ := h
        have ev : v = .bl true := q
        rw [ev] at r'
        have eu : u = Value.bool true := r'
        refine ⟨by rw [eu], OldK.of_keep fun b o e => ?_, os, bare⟩
        rcases hO b with z | ⟨ob, xs, z⟩
        · exact un.keep b o e z List.not_mem_nil List.not_mem_nil
        · have z2 := un.frzs b ob _ z
          obtain ⟨e1, _⟩ := hok b _ z
          obtain ⟨e2, _⟩ := hok' b _ z2
          rw [e] at e1
          cases e1
          exact e2
  cases hk : K.lookup a with
  | some o =>
    have e := KX a o hk
    rw [ha] at e
    cases e
    refine run (fun _ => none) (fun _ => .inl rfl) (.inr ⟨_, vs.toArray, _, hk, rfl, rfl, rfl, by simpa [lv] using hl, by simpa using rv⟩) (fun b u z => ?_) (fun b z => (z rfl).elim) fun z => (z rfl).elim
    have z' : (none : Option HO) = some u := z
    cases z'
  | none =>
    refine run (fun b => if b = a then some (.frz { cls := .type "list", data := .seq vs.toArray } (.lst (ns.map V.int))) else none) (fun b => ?_) (.inl ⟨{ cls := .type "list", data := .seq vs.toArray }, if_pos rfl⟩) (fun b u z => ?_) (fun b z => ?_) fun _ => hk
    · by_cases hb : b = a
      · exact .inr ⟨_, _, if_pos hb⟩
      · exact .inl (if_neg hb)
    · by_cases hb : b = a
      · subst hb
        have z' := (if_pos rfl).symm.trans z
        cases z'
        exact ⟨ha, by simpa using hl, vs, _, rv, ha⟩
      · have z' := (if_neg hb).symm.trans z
        cases z'
    · by_cases hb : b = a
      · exact hb
      · exact (z (if_neg hb)).elim
/-- a law by its evaluator -/
theorem walk_G {l : PySem.W.OpenLaw} {n k lw : Nat} {q : Program} {loose : List Str} {XP : (Str → Option Value) → Heap → Prop} {YP : World → Heap → Prop} {d : DefRec} {T : Tab} {cc : Cc} {fn : Fn} {XI : World → XInfo}
    (hn : l.most = some n) (hn2 : n ≤ sizeLine) (hdf : d.params.defaults = []) (hr : Room k callerA) (hT : T lw = some fn) (h1 : fn.np = 1) (hnm : cc.nm lw = d.name)
    (F : ∀ (w : World) (mg : Str → Option Value) (h : Heap), YP w h → h.Ns mainGlobals mg →
      ∃ K : PySem.W.Frag, K.In h ∧ (∀ f fn, T f = some fn → DefAt T cc K mg f fn) ∧ (∀ x ∈ cc.bl, mg x = none) ∧ ∀ x d, cc.gl x = some d → ∃ u v, mg x = some u ∧ RelV v u ∧ ∀ ρ H, RelD ρ H d v)
    (hm : ∀ ns : List Int, ns.length ≤ n → ∃ h', den T k lw [.ref 0] [.scr (ns.map D.int)] = .ok (.bl true) h') :
    PySem.W.WalkO q loose XP YP l.row.toRowW d [] (fun f vs => PySem.call f vs) := by
  refine Att.attach_call hn hdf fun w s₀ s₁ mg mb fa o pm cd doc a vs ns G Y ho hd hcd hmg hobj hints hlen hg => ?_
  obtain ⟨K, KX, hD, hb, hgl⟩ := F w mg _ Y G.T.g
  have st : ∀ base, Stat T cc k l.prog w K (XI w) mg base := fun base => stat_all hD hb hgl k
  obtain ⟨a0, oc, od, name, qual, params, body, scope, dV, kV, doc', pm', an, cdv, ct, osl, N, ps, g1, g2, g3, g4, g5, g6, g7, g8, g9, g10⟩ := (hD lw fn hT).ex
  have ea : a0 = fa := by
    rw [hnm, hmg] at g1
    cases g1
    rfl
  subst ea
  have ep : ∃ x, ps = [x] := by
    rw [h1] at g5
    match ps, g5 with
    | [x], _ => exact ⟨x, rfl⟩
  obtain ⟨x, rfl⟩ := ep
  refine law_G (fd := PySem.W.fnOf name qual params body scope dV kV doc' pm' an cdv ct) (x := x) (m := den T k lw) (XI := XI w) (K := K) (ns := ns) KX G.T.g G.T.b G.T.builtins G.T.nolimit hg hobj hints (Nat.le_trans hlen hn2) hr (fun base => ?_) (fun u => g9 [u] rfl) (hm ns hlen)
  exact fnG_at (fun j _ => stat_all hD hb hgl j) hT g3 g4 g5 g6 g7 g8
end G4

/-! G13: a law's text packed. -/
namespace G4
open PySem PySem.Spec PyProof.Rows L2

def KwAll (fd : FuncData) (ps : List Str) : List (Nat × List Str × List Nat) → Prop
  | [] => True
  | e :: r => KwOk fd ps e.1 e.2.1 e.2.2 ∧ KwAll fd ps r
theorem KwAll.get {fd : FuncData} {ps : List Str} : ∀ {l : List (Nat × List Str × List Nat)}, KwAll fd ps l → ∀ e ∈ l, KwOk fd ps e.1 e.2.1 e.2.2
  | [], _, e, h => by cases h
  | a :: r, ⟨h1, h2⟩, e, h => by
    cases h with
    | head => exact h1
    | tail _ h => exact KwAll.get h2 e h
def kwF (l : Nat → List (Nat × List Str × List Nat)) (f n : Nat) (ks : List Str) : Option (List Nat) := ((l f).find? fun e => decide (e.1 = n) && decide (e.2.1 = ks)).map (·.2.2)
def glF (l : List (Str × D)) (x : Str) : Option D := l.lookup x
/-- one def of the row's top -/
theorem defAt_of {T : Tab} {cc : Cc} {K : PySem.W.Frag} {mg : Str → Option Value} {f : Nat} {fn : Fn} {kl : Nat → List (Nat × List Str × List Nat)} {x qual : Str} {params : Arguments} {body : List Stmt} {scope : Scope} {a : Addr} {fd : FuncData} (N ps : List Str)
    (F : FunD K x qual params body scope [] [] a fd) (gl : mg (cc.nm f) = some (.ref a)) (hc : cc.kw = kwF kl) (h5 : ps.length = fn.np) (h6 : N.length = fn.ns) (h7 : scB N ps scope = true) (h8 : chkSs T cc N scope fn.body body = true)
    (hb : ∀ (kV doc pm : Value) (an : Option Addr) (cdv ct : Value) (us : List Value), us.length = ps.length → bindArgs (PySem.W.fnOf x qual params body scope .none kV doc pm an cdv ct) ⟨us, []⟩ = pure (ps.zip us))
    (hk : ∀ (kV doc pm : Value) (an : Option Addr) (cdv ct : Value), KwAll (PySem.W.fnOf x qual params body scope .none kV doc pm an cdv ct) ps (kl f)) : DefAt T cc K mg f fn := by
  obtain ⟨oc, od, dV, kV, doc, pm, an, cdv, ct, osl, rfl, lk, hcd, hD, hK⟩ := F.ex
  rcases hD with ⟨_, rfl⟩ | ⟨e, _⟩
  · refine ⟨⟨a, oc, od, x, qual, params, body, scope, .none, kV, doc, pm, an, cdv, ct, osl, N, ps, gl, F.kp, lk, hcd, h5, h6, h7, h8, hb kV doc pm an cdv ct, fun n ks pl e => ?_⟩⟩
    rw [hc] at e
    unfold kwF at e
    cases q : (kl f).find? fun e => decide (e.1 = n) && decide (e.2.1 = ks) with
    | none => rw [q] at e; cases e
    | some z =>
      rw [q] at e
      cases e
      have m := List.mem_of_find?_eq_some q
      have t := List.find?_some q
      obtain ⟨t1, t2⟩ := and2 t
      have t3 := of_decide_eq_true t1
      have t4 := of_decide_eq_true t2
      subst t3
      subst t4
      exact KwAll.get (hk kV doc pm an cdv ct) z m
  · exact absurd rfl e
/-- constants -/
def faG : List (Str × D) → List He.Fa
  | [] => []
  | (x, .int i) :: r => .int x i :: faG r
  | (x, .str z) :: r => .str x z :: faG r
  | _ :: r => faG r
def okG : List (Str × D) → Bool
  | [] => true
  | (_, .int _) :: r => okG r
  | (_, .str _) :: r => okG r
  | _ :: _ => false
theorem gl_of {K : PySem.W.Frag} {h : Heap} {mg : Str → Option Value} (X : K.In h) (G : h.Ns mainGlobals mg) : ∀ {l : List (Str × D)}, okG l = true → (∀ f ∈ faG l, f.ok K = true) →
    ∀ x d, glF l x = some d → ∃ u v, mg x = some u ∧ RelV v u ∧ ∀ ρ H, RelD ρ H d v
  | [], _, _, x, d, e => by cases e
  | (y, .int i) :: r, h1, h2, x, d, e => by
    unfold glF at e
    rw [List.lookup_cons] at e
    split at e
    · rename_i q
      have := eq_of_beq q
      subst this
      cases e
      obtain ⟨t, e1⟩ := He.int_ok X G (h2 _ (List.mem_cons_self ..))
      exact ⟨_, .int i, e1, ⟨t, rfl⟩, fun ρ H => rfl⟩
    · exact gl_of X G (l := r) h1 (fun f hf => h2 f (List.mem_cons_of_mem _ hf)) x d e
  | (y, .str z) :: r, h1, h2, x, d, e => by
    unfold glF at e
    rw [List.lookup_cons] at e
    split at e
    · rename_i q
      have := eq_of_beq q
      subst this
      cases e
      obtain ⟨t, e1⟩ := He.str_ok X G (h2 _ (List.mem_cons_self ..))
      exact ⟨_, .str z, e1, ⟨t, rfl⟩, fun ρ H => rfl⟩
    · exact gl_of X G (l := r) h1 (fun f hf => h2 f (List.mem_cons_of_mem _ hf)) x d e
  | (y, .non) :: r, h1, _, _, _, _ => by cases h1
  | (y, .bl _) :: r, h1, _, _, _, _ => by cases h1
  | (y, .tup _) :: r, h1, _, _, _, _ => by cases h1
  | (y, .ref _) :: r, h1, _, _, _, _ => by cases h1
/-! ### tables -/
def tabF (l : List (Nat × Fn)) : Tab := fun f => l.lookup f
def nmF (l : List (Nat × Str)) (f : Nat) : Str := (l.lookup f).getD "?"
def kwL (l : List (Nat × List (Nat × List Str × List Nat))) (f : Nat) : List (Nat × List Str × List Nat) := (l.lookup f).getD []
def DefAll (T : Tab) (cc : Cc) (K : PySem.W.Frag) (mg : Str → Option Value) : List (Nat × Fn) → Prop
  | [] => True
  | e :: r => DefAt T cc K mg e.1 e.2 ∧ DefAll T cc K mg r
theorem DefAll.get {T : Tab} {cc : Cc} {K : PySem.W.Frag} {mg : Str → Option Value} : ∀ {l : List (Nat × Fn)}, DefAll T cc K mg l → ∀ f fn, tabF l f = some fn → DefAt T cc K mg f fn
  | [], _, f, fn, h => by cases h
  | (g, fg) :: r, ⟨h1, h2⟩, f, fn, h => by
    unfold tabF at h
    rw [List.lookup_cons] at h
    split at h
    · rename_i q
      have := eq_of_beq q
      subst this
      cases h
      exact h1
    · exact DefAll.get h2 f fn h
end G4

/-! S1: how the evaluator's answers are worked out by rewriting. -/
namespace G4
open PySem

/-! ### glue: what follows an answer is named, so that nothing is worked out ahead of its turn -/
theorem bind_ok {α β : Type} {a : α} {h : Hv} {f : α → Hv → R β} : (R.ok a h).bind f = f a h := rfl
theorem bind_bad {α β : Type} {f : α → Hv → R β} : (R.bad : R α).bind f = .bad := rfl
theorem stm_ok {α : Type} {a : α} {h : Hv} {τ : Sl} {f : α → Hv → RS} : (R.ok a h).stm τ f = f a h := rfl
theorem stm_bad {α : Type} {τ : Sl} {f : α → Hv → RS} : (R.bad : R α).stm τ f = .bad := rfl
def RS.seq (r : RS) (f : Sl → Hv → RS) : RS := match r with
  | .nx τ h => f τ h
  | x => x
theorem seq_nx {τ : Sl} {h : Hv} {f : Sl → Hv → RS} : (RS.nx τ h).seq f = f τ h := rfl
theorem seq_rt {d : D} {h : Hv} {f : Sl → Hv → RS} : (RS.rt d h).seq f = .rt d h := rfl
theorem seq_bk {τ : Sl} {h : Hv} {f : Sl → Hv → RS} : (RS.bk τ h).seq f = .bk τ h := rfl
theorem seq_ct {τ : Sl} {h : Hv} {f : Sl → Hv → RS} : (RS.ct τ h).seq f = .ct τ h := rfl
def fin (r : RS) : R D := match r with
  | .nx _ h' => .ok .non h'
  | .rt d h' => .ok d h'
  | .ex c as _ h' => .ex c as h'
  | _ => .bad
theorem fin_nx {τ : Sl} {h : Hv} : fin (.nx τ h) = .ok .non h := rfl
theorem fin_rt {d : D} {h : Hv} : fin (.rt d h) = .ok d h := rfl
theorem getS_0 {x : Option D} {τ : Sl} : getS (x :: τ) 0 = x := by cases x <;> rfl
theorem getS_s {x : Option D} {τ : Sl} {n : Nat} : getS (x :: τ) (n + 1) = getS τ n := rfl
def ofO (o : Option D) (h : Hv) : R D := match o with
  | some d => .ok d h
  | none => .bad
theorem ofO_s {d : D} {h : Hv} : ofO (some d) h = .ok d h := rfl
def ofB (o : Option Bool) (h : Hv) : R D := match o with
  | some k => .ok (.bl k) h
  | none => .bad
theorem ofB_s {k : Bool} {h : Hv} : ofB (some k) h = .ok (.bl k) h := rfl
def ofT (o : Option Bool) (h : Hv) : R Bool := match o with
  | some k => .ok k h
  | none => .bad
theorem ofT_s {k : Bool} {h : Hv} : ofT (some k) h = .ok k h := rfl
def negD (x : D) (h : Hv) : R D := match x with
  | .int i => .ok (.int (-i)) h
  | _ => .bad
theorem negD_i {i : Int} {h : Hv} : negD (.int i) h = .ok (.int (-i)) h := rfl
def isN (n : Bool) (x : D) : Bool := match x with
  | .non => !n
  | _ => n
theorem isN_n {n : Bool} : isN n .non = !n := rfl
theorem isN_i {n : Bool} {i : Int} : isN n (.int i) = n := rfl
theorem isN_t {n : Bool} {i : List D} : isN n (.tup i) = n := rfl
theorem isN_r {n : Bool} {i : Nat} : isN n (.ref i) = n := rfl
theorem isN_s {n : Bool} {i : Str} : isN n (.str i) = n := rfl
theorem isN_b {n : Bool} {i : Bool} : isN n (.bl i) = n := rfl
def notD (x : D) (h : Hv) : R D := match x with
  | .bl k => .ok (.bl (!k)) h
  | _ => .bad
theorem notD_b {k : Bool} {h : Hv} : notD (.bl k) h = .ok (.bl (!k)) h := rfl
def tupR (ds : List D) (h : Hv) : R D := if ds.length ≤ lim then .ok (.tup ds) h else .bad
theorem tupR_le {ds : List D} {h : Hv} (e : ds.length ≤ lim) : tupR ds h = .ok (.tup ds) h := if_pos e
theorem mk_le {ds : List D} {h : Hv} (e : ds.length ≤ lim) : mk ds h = .ok (.ref h.length) (h ++ [.lst ds]) := if_pos e
def ooR (x : D) (h : Hv) : R (Option Int) := match x with
  | .int i => .ok (some i) h
  | _ => .bad
theorem ooR_i {i : Int} {h : Hv} : ooR (.int i) h = .ok (some i) h := rfl
def lcB (Φ : Den) (own : List (Str × Nat)) (g : IG) (tt : IT) (e : IE) (τ : Sl) (d : D) (h : Hv) : R (Option D) := match asG g d (wipeS τ (own.map (·.2))) with
  | some τ2 => (evT Φ tt τ2 h).bind fun k h => match k with
    | true => (evE Φ e τ2 h).bind fun y h => .ok (some y) h
    | false => .ok none h
  | none => .bad
def frB (Φ : Den) (g : IG) (b : ISs) (d : D) (τ : Sl) (h : Hv) : RS := match asG g d τ with
  | some τ' => exSs Φ b τ' h
  | none => .bad
def asgR (o : Option Sl) (h : Hv) : RS := match o with
  | some τ' => .nx τ' h
  | none => .bad
theorem asgR_s {τ : Sl} {h : Hv} : asgR (some τ) h = .nx τ h := rfl
def seqI (x : D) (h : Hv) : R It := match x with
  | .tup xs => .ok (.fix xs) h
  | .ref a => match h.get a with
    | some _ => .ok (.lst a) h
    | none => .bad
  | .str z => .ok (.fix (z.cps.toList.map fun c => D.str ⟨#[c]⟩)) h
  | _ => .bad
theorem seqI_s {z : Str} {h : Hv} : seqI (.str z) h = .ok (.fix (z.cps.toList.map fun c => D.str ⟨#[c]⟩)) h := rfl
theorem seqI_t {xs : List D} {h : Hv} : seqI (.tup xs) h = .ok (.fix xs) h := rfl
theorem seqI_r {a : Nat} {xs : List D} {h : Hv} (e : h.get a = some xs) : seqI (.ref a) h = .ok (.lst a) h := by simp only [seqI, e]
def enmI (x : D) (h : Hv) : R It := match x with
  | .ref a => match h.get a with
    | some _ => .ok (.enm a) h
    | none => .bad
  | _ => .bad
theorem enmI_r {a : Nat} {xs : List D} {h : Hv} (e : h.get a = some xs) : enmI (.ref a) h = .ok (.enm a) h := by simp only [enmI, e]
def rngI (ds : List D) (h : Hv) : R It := match ds with
  | [.int j] => if -(2 ^ 62) ≤ j ∧ j < 2 ^ 62 then .ok (.rng 0 j.toNat) h else .bad
  | [.int i, .int j] => if -(2 ^ 62) ≤ i ∧ i < 2 ^ 62 ∧ -(2 ^ 62) ≤ j ∧ j < 2 ^ 62 then .ok (.rng i (j - i).toNat) h else .bad
  | _ => .bad
theorem rngI_1 {j : Int} {h : Hv} (e : -(2 ^ 62) ≤ j ∧ j < 2 ^ 62) : rngI [.int j] h = .ok (.rng 0 j.toNat) h := if_pos e
theorem rngI_2 {i j : Int} {h : Hv} (e : -(2 ^ 62) ≤ i ∧ i < 2 ^ 62 ∧ -(2 ^ 62) ≤ j ∧ j < 2 ^ 62) : rngI [.int i, .int j] h = .ok (.rng i (j - i).toNat) h := if_pos e
def zipI (x y : D) (h : Hv) : R It := match x, y with
  | .ref a, .ref b => match h.get a, h.get b with
    | some _, some _ => .ok (.zip a b) h
    | _, _ => .bad
  | _, _ => .bad
theorem zipI_r {a b : Nat} {xs ys : List D} {h : Hv} (e : h.get a = some xs) (e2 : h.get b = some ys) : zipI (.ref a) (.ref b) h = .ok (.zip a b) h := by simp only [zipI, e, e2]
def setR (τ : Sl) (v x y : D) (h : Hv) : RS := match x, y with
  | .ref a, .int k => match h.lst a with
    | some xs => match idx xs.length k with
      | some j => .nx τ (h.set a (.lst (xs.set j v)))
      | none => .bad
    | none => .bad
  | _, _ => .bad
theorem setR_r {a j : Nat} {k : Int} {xs : List D} {v : D} {τ : Sl} {h : Hv} (e : h.lst a = some xs) (e2 : idx xs.length k = some j) : setR τ v (.ref a) (.int k) h = .nx τ (h.set a (.lst (xs.set j v))) := by
  unfold setR; dsimp only; rw [e]; dsimp only; rw [e2]
section
variable (Φ : Den)
def kb2 (o : O2) (b : IE) (τ : Sl) (x : D) (h : Hv) : R D := (evE Φ b τ h).bind (O2.ev o x)
def kcm' (o : Oc) (x y : D) (h : Hv) : R D := ofB (o.ev x y h) h
def kcm (o : Oc) (b : IE) (τ : Sl) (x : D) (h : Hv) : R D := (evE Φ b τ h).bind (kcm' o x)
def kcmN (n : Bool) (x : D) (h : Hv) : R D := .ok (.bl (isN n x)) h
def chE (o' : Oc) (c : IE) (τ : Sl) (y : D) (r : Option Bool) (h : Hv) : R D := match r with
  | some true => (evE Φ c τ h).bind (kcm' o' y)
  | some false => .ok (.bl false) h
  | none => .bad
def kch2 (o o' : Oc) (c : IE) (τ : Sl) (x y : D) (h : Hv) : R D := chE Φ o' c τ y (o.ev x y h) h
def kch (o o' : Oc) (b c : IE) (τ : Sl) (x : D) (h : Hv) : R D := (evE Φ b τ h).bind (kch2 Φ o o' c τ x)
def boC (k c : Bool) (r : IA) (τ : Sl) (h : Hv) : R D := if c = k then evB Φ k r τ h else .ok (.bl c) h
def kbo (k : Bool) (r : IA) (τ : Sl) (x : D) (h : Hv) : R D := match x with
  | .bl c => boC Φ k c r τ h
  | _ => .bad
def kie (a b : IE) (τ : Sl) (k : Bool) (h : Hv) : R D := match k with
  | true => evE Φ a τ h
  | false => evE Φ b τ h
def kix (b : IE) (τ : Sl) (x : D) (h : Hv) : R D := (evE Φ b τ h).bind (itemD x)
def ksl2 (hi : IO) (τ : Sl) (x : D) (l : Option Int) (h : Hv) : R D := (evO Φ hi τ h).bind (sliceD x l)
def ksl (lo hi : IO) (τ : Sl) (x : D) (h : Hv) : R D := (evO Φ lo τ h).bind (ksl2 Φ hi τ x)
def kck2 (f : Nat) (pm : List Nat) (ds zs : List D) (h : Hv) : R D := Φ f (permV (ds ++ zs) pm) h
def kck (f : Nat) (ks : IA) (pm : List Nat) (τ : Sl) (ds : List D) (h : Hv) : R D := (evA Φ ks τ h).bind (kck2 Φ f pm ds)
def kmt (m : Me) (es : IA) (τ : Sl) (x : D) (h : Hv) : R D := match x with
  | .ref a => (evA Φ es τ h).bind (m.ev (.ref a))
  | _ => .bad
def kisi (t : Ty) (x : D) (h : Hv) : R D := .ok (.bl (t.has x)) h
def klc (own : List (Str × Nat)) (g : IG) (tt : IT) (e : IE) (τ : Sl) (J : It) (h : Hv) : R D := lcL J.nxt (lcB Φ own g tt e τ) h.length turns 0 (h ++ [.lst []])
def kA2 (x : D) (xs : List D) (h : Hv) : R (List D) := .ok (x :: xs) h
def kA (r : IA) (τ : Sl) (x : D) (h : Hv) : R (List D) := (evA Φ r τ h).bind (kA2 x)
def kst2 (ys xs : List D) (h : Hv) : R (List D) := .ok (ys ++ xs) h
def kst (r : IA) (τ : Sl) (x : D) (h : Hv) : R (List D) := match x with
  | .tup ys => (evA Φ r τ h).bind (kst2 ys)
  | .ref a => match h.get a with
    | some ys => (evA Φ r τ h).bind (kst2 ys)
    | none => .bad
  | _ => .bad
def kT (x : D) (h : Hv) : R Bool := ofT (tru x h) h
def kcmT' (o : Oc) (x y : D) (h : Hv) : R Bool := ofT (o.ev x y h) h
def kcmT (o : Oc) (b : IE) (τ : Sl) (x : D) (h : Hv) : R Bool := (evE Φ b τ h).bind (kcmT' o x)
def kcmNT (n : Bool) (x : D) (h : Hv) : R Bool := .ok (isN n x) h
def chT (o' : Oc) (c : IE) (τ : Sl) (y : D) (r : Option Bool) (h : Hv) : R Bool := match r with
  | some true => (evE Φ c τ h).bind (kcmT' o' y)
  | some false => .ok false h
  | none => .bad
def kchT2 (o o' : Oc) (c : IE) (τ : Sl) (x y : D) (h : Hv) : R Bool := chT Φ o' c τ y (o.ev x y h) h
def kchT (o o' : Oc) (b c : IE) (τ : Sl) (x : D) (h : Hv) : R Bool := (evE Φ b τ h).bind (kchT2 Φ o o' c τ x)
def kTs (k : Bool) (r : ITs) (τ : Sl) (c : Bool) (h : Hv) : R Bool := if c = k then evTs Φ k r τ h else .ok c h
def kntT (k : Bool) (h : Hv) : R Bool := .ok (!k) h
def kzip (b : IE) (τ : Sl) (x : D) (h : Hv) : R It := (evE Φ b τ h).bind (zipI x)
def kasg (g : IG) (τ : Sl) (x : D) (h : Hv) : RS := asgR (asG g x τ) h
def kset2 (i : IE) (τ : Sl) (v x : D) (h : Hv) : RS := (evE Φ i τ h).stm τ (setR τ v x)
def kset (o i : IE) (τ : Sl) (v : D) (h : Hv) : RS := (evE Φ o τ h).stm τ (kset2 Φ i τ v)
def kaug3 (i : Nat) (τ : Sl) (z : D) (h : Hv) : RS := .nx (τ.set i (some z)) h
def kaug2 (i : Nat) (o : O2) (τ : Sl) (x y : D) (h : Hv) : RS := (o.ip x y h).stm τ (kaug3 i τ)
def kaug (i : Nat) (o : O2) (e : IE) (x : Option D) (τ : Sl) (h : Hv) : RS := match x with
  | some x => (evE Φ e τ h).stm τ (kaug2 i o τ x)
  | none => .bad
def kex (τ : Sl) (_ : D) (h : Hv) : RS := .nx τ h
def kret (x : D) (h : Hv) : RS := .rt x h
def kiff (a b : ISs) (τ : Sl) (k : Bool) (h : Hv) : RS := match k with
  | true => exSs Φ a τ h
  | false => exSs Φ b τ h
def kfr (g : IG) (b : ISs) (τ : Sl) (J : It) (h : Hv) : RS := forL J.nxt (frB Φ g b) turns 0 τ h
end
section
variable {Φ : Den} {τ : Sl} {h : Hv}
theorem kb2_ {o : O2} {b : IE} {x : D} : kb2 Φ o b τ x h = (evE Φ b τ h).bind (O2.ev o x) := rfl
theorem kcm'_ {o : Oc} {x y : D} : kcm' o x y h = ofB (o.ev x y h) h := rfl
theorem kcm_ {o : Oc} {b : IE} {x : D} : kcm Φ o b τ x h = (evE Φ b τ h).bind (kcm' o x) := rfl
theorem kcmN_ {n : Bool} {x : D} : kcmN n x h = .ok (.bl (isN n x)) h := rfl
theorem chE_t {o' : Oc} {c : IE} {y : D} : chE Φ o' c τ y (some true) h = (evE Φ c τ h).bind (kcm' o' y) := rfl
theorem chE_f {o' : Oc} {c : IE} {y : D} : chE Φ o' c τ y (some false) h = .ok (.bl false) h := rfl
theorem kch2_ {o o' : Oc} {c : IE} {x y : D} : kch2 Φ o o' c τ x y h = chE Φ o' c τ y (o.ev x y h) h := rfl
theorem kch_ {o o' : Oc} {b c : IE} {x : D} : kch Φ o o' b c τ x h = (evE Φ b τ h).bind (kch2 Φ o o' c τ x) := rfl
theorem boC_tt {r : IA} : boC Φ true true r τ h = evB Φ true r τ h := rfl
theorem boC_tf {r : IA} : boC Φ true false r τ h = .ok (.bl false) h := rfl
theorem boC_ft {r : IA} : boC Φ false true r τ h = .ok (.bl true) h := rfl
theorem boC_ff {r : IA} : boC Φ false false r τ h = evB Φ false r τ h := rfl
theorem kbo_ {k c : Bool} {r : IA} : kbo Φ k r τ (.bl c) h = boC Φ k c r τ h := rfl
theorem kie_t {a b : IE} : kie Φ a b τ true h = evE Φ a τ h := rfl
theorem kie_f {a b : IE} : kie Φ a b τ false h = evE Φ b τ h := rfl
theorem kix_ {b : IE} {x : D} : kix Φ b τ x h = (evE Φ b τ h).bind (itemD x) := rfl
theorem ksl2_ {hi : IO} {x : D} {l : Option Int} : ksl2 Φ hi τ x l h = (evO Φ hi τ h).bind (sliceD x l) := rfl
theorem ksl_ {lo hi : IO} {x : D} : ksl Φ lo hi τ x h = (evO Φ lo τ h).bind (ksl2 Φ hi τ x) := rfl
theorem kck2_ {f : Nat} {pm : List Nat} {ds zs : List D} : kck2 Φ f pm ds zs h = Φ f (permV (ds ++ zs) pm) h := rfl
theorem kck_ {f : Nat} {ks : IA} {pm : List Nat} {ds : List D} : kck Φ f ks pm τ ds h = (evA Φ ks τ h).bind (kck2 Φ f pm ds) := rfl
theorem kmt_ {m : Me} {es : IA} {a : Nat} : kmt Φ m es τ (.ref a) h = (evA Φ es τ h).bind (m.ev (.ref a)) := rfl
theorem kisi_ {t : Ty} {x : D} : kisi t x h = .ok (.bl (t.has x)) h := rfl
theorem klc_ {own : List (Str × Nat)} {g : IG} {tt : IT} {e : IE} {J : It} : klc Φ own g tt e τ J h = lcL J.nxt (lcB Φ own g tt e τ) h.length turns 0 (h ++ [.lst []]) := rfl
theorem kA2_ {x : D} {xs : List D} : kA2 x xs h = .ok (x :: xs) h := rfl
theorem kA_ {r : IA} {x : D} : kA Φ r τ x h = (evA Φ r τ h).bind (kA2 x) := rfl
theorem kst2_ {xs ys : List D} : kst2 ys xs h = .ok (ys ++ xs) h := rfl
theorem kst_t {r : IA} {ys : List D} : kst Φ r τ (.tup ys) h = (evA Φ r τ h).bind (kst2 ys) := rfl
theorem kst_r {r : IA} {a : Nat} {ys : List D} (e : h.get a = some ys) : kst Φ r τ (.ref a) h = (evA Φ r τ h).bind (kst2 ys) := by simp only [kst, e]
theorem kT_ {x : D} : kT x h = ofT (tru x h) h := rfl
theorem kcmT'_ {o : Oc} {x y : D} : kcmT' o x y h = ofT (o.ev x y h) h := rfl
theorem kcmT_ {o : Oc} {b : IE} {x : D} : kcmT Φ o b τ x h = (evE Φ b τ h).bind (kcmT' o x) := rfl
theorem kcmNT_ {n : Bool} {x : D} : kcmNT n x h = .ok (isN n x) h := rfl
theorem chT_t {o' : Oc} {c : IE} {y : D} : chT Φ o' c τ y (some true) h = (evE Φ c τ h).bind (kcmT' o' y) := rfl
theorem chT_f {o' : Oc} {c : IE} {y : D} : chT Φ o' c τ y (some false) h = .ok false h := rfl
theorem kchT2_ {o o' : Oc} {c : IE} {x y : D} : kchT2 Φ o o' c τ x y h = chT Φ o' c τ y (o.ev x y h) h := rfl
theorem kchT_ {o o' : Oc} {b c : IE} {x : D} : kchT Φ o o' b c τ x h = (evE Φ b τ h).bind (kchT2 Φ o o' c τ x) := rfl
theorem kTs_tt {r : ITs} : kTs Φ true r τ true h = evTs Φ true r τ h := rfl
theorem kTs_tf {r : ITs} : kTs Φ true r τ false h = .ok false h := rfl
theorem kTs_ft {r : ITs} : kTs Φ false r τ true h = .ok true h := rfl
theorem kTs_ff {r : ITs} : kTs Φ false r τ false h = evTs Φ false r τ h := rfl
theorem kntT_ {k : Bool} : kntT k h = .ok (!k) h := rfl
theorem kzip_ {b : IE} {x : D} : kzip Φ b τ x h = (evE Φ b τ h).bind (zipI x) := rfl
theorem kasg_ {g : IG} {x : D} : kasg g τ x h = asgR (asG g x τ) h := rfl
theorem kset2_ {i : IE} {v x : D} : kset2 Φ i τ v x h = (evE Φ i τ h).stm τ (setR τ v x) := rfl
theorem kset_ {o i : IE} {v : D} : kset Φ o i τ v h = (evE Φ o τ h).stm τ (kset2 Φ i τ v) := rfl
theorem kaug3_ {i : Nat} {z : D} : kaug3 i τ z h = .nx (τ.set i (some z)) h := rfl
theorem kaug2_ {i : Nat} {o : O2} {x y : D} : kaug2 i o τ x y h = (o.ip x y h).stm τ (kaug3 i τ) := rfl
theorem kaug_s {i : Nat} {o : O2} {e : IE} {x : D} : kaug Φ i o e (some x) τ h = (evE Φ e τ h).stm τ (kaug2 i o τ x) := rfl
theorem kex_ {x : D} : kex τ x h = .nx τ h := rfl
theorem kret_ {x : D} : kret x h = .rt x h := rfl
theorem kiff_t {a b : ISs} : kiff Φ a b τ true h = exSs Φ a τ h := rfl
theorem kiff_f {a b : ISs} : kiff Φ a b τ false h = exSs Φ b τ h := rfl
theorem kfr_ {g : IG} {b : ISs} {J : It} : kfr Φ g b τ J h = forL J.nxt (frB Φ g b) turns 0 τ h := rfl

/-! ### expressions -/
theorem ev_var {i : Nat} : evE Φ (.var i) τ h = ofO (getS τ i) h := by simp only [evE]; cases getS τ i <;> rfl
theorem ev_con {d : D} : evE Φ (.con d) τ h = .ok d h := by simp only [evE]
theorem ev_glo {x : Str} {d : D} : evE Φ (.glo x d) τ h = .ok d h := by simp only [evE]
theorem ev_b2 {o : O2} {a b : IE} : evE Φ (.b2 o a b) τ h = (evE Φ a τ h).bind (kb2 Φ o b τ) := by simp only [evE]; rfl
theorem ev_neg {a : IE} : evE Φ (.neg a) τ h = (evE Φ a τ h).bind negD := by simp only [evE]; rfl
theorem ev_cm {o : Oc} {a b : IE} : evE Φ (.cm o a b) τ h = (evE Φ a τ h).bind (kcm Φ o b τ) := by simp only [evE]; rfl
theorem ev_cmN {n : Bool} {a : IE} : evE Φ (.cmN n a) τ h = (evE Φ a τ h).bind (kcmN n) := by
  simp only [evE]; congr 1; funext x h; cases x <;> rfl
theorem ev_ch {o o' : Oc} {a b c : IE} : evE Φ (.ch o o' a b c) τ h = (evE Φ a τ h).bind (kch Φ o o' b c τ) := by
  simp only [evE]; congr 1
theorem ev_bo {k : Bool} {es : IA} : evE Φ (.bo k es) τ h = evB Φ k es τ h := by simp only [evE]
theorem evB_1 {k : Bool} {e : IE} : evB Φ k (.cons e .nil) τ h = evE Φ e τ h := by simp only [evB]
theorem evB_2 {k : Bool} {e e2 : IE} {r : IA} : evB Φ k (.cons e (.cons e2 r)) τ h = (evE Φ e τ h).bind (kbo Φ k (.cons e2 r) τ) := by
  rw [evB] <;> first | rfl | (intros; contradiction)
theorem ev_nt {a : IE} : evE Φ (.nt a) τ h = (evE Φ a τ h).bind notD := by simp only [evE]; rfl
theorem ev_ie {t : IT} {a b : IE} : evE Φ (.ie t a b) τ h = (evT Φ t τ h).bind (kie Φ a b τ) := by simp only [evE]; rfl
theorem ev_tp {es : IA} : evE Φ (.tp es) τ h = (evA Φ es τ h).bind tupR := by simp only [evE]; rfl
theorem ev_ls {es : IA} : evE Φ (.ls es) τ h = (evA Φ es τ h).bind mk := by simp only [evE]
theorem ev_ix {a b : IE} : evE Φ (.ix a b) τ h = (evE Φ a τ h).bind (kix Φ b τ) := by simp only [evE]; rfl
theorem ev_sl {a : IE} {lo hi : IO} : evE Φ (.sl a lo hi) τ h = (evE Φ a τ h).bind (ksl Φ lo hi τ) := by simp only [evE]; rfl
theorem ev_cf {f : Nat} {es : IA} : evE Φ (.cf f es) τ h = (evA Φ es τ h).bind (Φ f) := by simp only [evE]
theorem ev_ck {f : Nat} {es ks : IA} {pm : List Nat} : evE Φ (.ck f es ks pm) τ h = (evA Φ es τ h).bind (kck Φ f ks pm τ) := by simp only [evE]; rfl
theorem ev_cb {b : Bu} {es : IA} : evE Φ (.cb b es) τ h = (evA Φ es τ h).bind b.ev := by simp only [evE]
theorem ev_mt {m : Me} {o : IE} {es : IA} : evE Φ (.mt m o es) τ h = (evE Φ o τ h).bind (kmt Φ m es τ) := by simp only [evE]; rfl
theorem ev_isi {a : IE} {t : Ty} : evE Φ (.isi a t) τ h = (evE Φ a τ h).bind (kisi t) := by simp only [evE]; rfl
theorem ev_lc {own : List (Str × Nat)} {g : IG} {it : II} {o : IO} {tt : IT} {e : IE} : evE Φ (.lc own g it o tt e) τ h = (evI Φ it τ h).bind (klc Φ own g tt e τ) := by
  simp only [evE]; rfl
theorem evA_n : evA Φ .nil τ h = .ok [] h := by simp only [evA]
theorem evA_c {e : IE} {r : IA} : evA Φ (.cons e r) τ h = (evE Φ e τ h).bind (kA Φ r τ) := by simp only [evA]; rfl
theorem evA_s {e : IE} {r : IA} : evA Φ (.star e r) τ h = (evE Φ e τ h).bind (kst Φ r τ) := by simp only [evA]; rfl
theorem evO_n : evO Φ .no τ h = .ok none h := by simp only [evO]
theorem evO_s {e : IE} : evO Φ (.so e) τ h = (evE Φ e τ h).bind ooR := by simp only [evO]; rfl
theorem evT_v {e : IE} : evT Φ (.v e) τ h = (evE Φ e τ h).bind kT := by simp only [evT]; rfl
theorem evT_cm {o : Oc} {a b : IE} : evT Φ (.cm o a b) τ h = (evE Φ a τ h).bind (kcmT Φ o b τ) := by simp only [evT]; rfl
theorem evT_cmN {n : Bool} {a : IE} : evT Φ (.cmN n a) τ h = (evE Φ a τ h).bind (kcmNT n) := by
  simp only [evT]; congr 1; funext x h; cases x <;> rfl
theorem evT_ch {o o' : Oc} {a b c : IE} : evT Φ (.ch o o' a b c) τ h = (evE Φ a τ h).bind (kchT Φ o o' b c τ) := by simp only [evT]; rfl
theorem evT_bo {k : Bool} {ts : ITs} : evT Φ (.bo k ts) τ h = evTs Φ k ts τ h := by simp only [evT]
theorem evT_nt {t : IT} : evT Φ (.nt t) τ h = (evT Φ t τ h).bind kntT := by simp only [evT]; rfl
theorem evT_y : evT Φ .yes τ h = .ok true h := by simp only [evT]
theorem evTs_1 {k : Bool} {t : IT} : evTs Φ k (.cons t .nil) τ h = evT Φ t τ h := by simp only [evTs]
theorem evTs_2 {k : Bool} {t t2 : IT} {r : ITs} : evTs Φ k (.cons t (.cons t2 r)) τ h = (evT Φ t τ h).bind (kTs Φ k (.cons t2 r) τ) := by
  rw [evTs] <;> first | rfl | (intros; contradiction)
theorem evI_s {e : IE} : evI Φ (.seq e) τ h = (evE Φ e τ h).bind seqI := by simp only [evI]; rfl
theorem evI_r {es : IA} : evI Φ (.rng es) τ h = (evA Φ es τ h).bind rngI := by simp only [evI]; rfl
theorem evI_e {e : IE} : evI Φ (.enm e) τ h = (evE Φ e τ h).bind enmI := by simp only [evI]; rfl
theorem evI_z {a b : IE} : evI Φ (.zip a b) τ h = (evE Φ a τ h).bind (kzip Φ b τ) := by simp only [evI]; rfl

/-! ### statements -/
theorem ex_asg {g : IG} {e : IE} : exS Φ (.asg g e) τ h = (evE Φ e τ h).stm τ (kasg g τ) := by simp only [exS]; rfl
theorem ex_setl {o i e : IE} : exS Φ (.setl o i e) τ h = (evE Φ e τ h).stm τ (kset Φ o i τ) := by simp only [exS]; rfl
theorem ex_aug {i : Nat} {o : O2} {e : IE} : exS Φ (.aug i o e) τ h = kaug Φ i o e (getS τ i) τ h := by simp only [exS]; rfl
theorem ex_ex {e : IE} : exS Φ (.ex e) τ h = (evE Φ e τ h).stm τ (kex τ) := by simp only [exS]; rfl
theorem ex_ret {e : IE} : exS Φ (.ret e) τ h = (evE Φ e τ h).stm τ kret := by simp only [exS]; rfl
theorem ex_retn : exS Φ .retn τ h = .rt .non h := by simp only [exS]
theorem ex_iff {t : IT} {a b : ISs} : exS Φ (.iff t a b) τ h = (evT Φ t τ h).stm τ (kiff Φ a b τ) := by simp only [exS]; rfl
theorem ex_wh {t : IT} {b : ISs} : exS Φ (.wh t b) τ h = whL (evT Φ t) (exSs Φ b) turns τ h := by simp only [exS]
theorem ex_fr {g : IG} {it : II} {b : ISs} : exS Φ (.fr g it b) τ h = (evI Φ it τ h).stm τ (kfr Φ g b τ) := by simp only [exS]; rfl
theorem ex_br : exS Φ .br τ h = .bk τ h := by simp only [exS]
theorem ex_ct : exS Φ .ct τ h = .ct τ h := by simp only [exS]
theorem ex_ps : exS Φ .ps τ h = .nx τ h := by simp only [exS]
theorem ex_n : exSs Φ .nil τ h = .nx τ h := by simp only [exSs]
theorem ex_c {s : IS} {r : ISs} : exSs Φ (.cons s r) τ h = (exS Φ s τ h).seq (exSs Φ r) := by
  simp only [exSs]; unfold RS.seq; rfl
end
theorem asG_n {i : Nat} {d : D} {τ : Sl} : asG (.nm i) d τ = some (τ.set i (some d)) := by simp only [asG]
theorem asG_t {gs : List IG} {ds : List D} {τ : Sl} : asG (.tp gs) (.tup ds) τ = asGs gs ds τ := by simp only [asG]
def obs (o : Option Sl) (f : Sl → Option Sl) : Option Sl := match o with
  | some τ => f τ
  | none => none
theorem obs_s {τ : Sl} {f : Sl → Option Sl} : obs (some τ) f = f τ := rfl
theorem asGs_n {τ : Sl} : asGs [] [] τ = some τ := by simp only [asGs]
theorem asGs_c {g : IG} {gs : List IG} {d : D} {ds : List D} {τ : Sl} : asGs (g :: gs) (d :: ds) τ = obs (asG g d τ) (asGs gs ds) := by simp only [asGs]; rfl
theorem den_fn {T : Tab} {f k : Nat} {fn : Fn} {as : List D} {h : Hv} (t : T f = some fn) (e : as.length = fn.np) : den T (k + 1) f as h = fin (exSs (den T k) fn.body (as.map some ++ List.replicate (fn.ns - fn.np) none) h) := by
  simp only [den, t]
  unfold runFn
  rw [if_pos e]
  rfl
theorem frB_s {Φ : Den} {g : IG} {b : ISs} {d : D} {τ τ' : Sl} {h : Hv} (e : asG g d τ = some τ') : frB Φ g b d τ h = exSs Φ b τ' h := by unfold frB; rw [e]
def frR (Φ : Den) (b : ISs) (o : Option Sl) (h : Hv) : RS := match o with
  | some τ' => exSs Φ b τ' h
  | none => .bad
theorem frB_ {Φ : Den} {g : IG} {b : ISs} {d : D} {τ : Sl} {h : Hv} : frB Φ g b d τ h = frR Φ b (asG g d τ) h := rfl
theorem frR_s {Φ : Den} {b : ISs} {τ : Sl} {h : Hv} : frR Φ b (some τ) h = exSs Φ b τ h := rfl
def klB2 (y : D) (h : Hv) : R (Option D) := .ok (some y) h
def klB (Φ : Den) (e : IE) (τ : Sl) (k : Bool) (h : Hv) : R (Option D) := match k with
  | true => (evE Φ e τ h).bind klB2
  | false => .ok none h
theorem klB2_ {y : D} {h : Hv} : klB2 y h = .ok (some y) h := rfl
theorem klB_t {Φ : Den} {e : IE} {τ : Sl} {h : Hv} : klB Φ e τ true h = (evE Φ e τ h).bind klB2 := rfl
theorem klB_f {Φ : Den} {e : IE} {τ : Sl} {h : Hv} : klB Φ e τ false h = .ok none h := rfl
theorem lcB_s {Φ : Den} {own : List (Str × Nat)} {g : IG} {tt : IT} {e : IE} {τ τ2 : Sl} {d : D} {h : Hv} (q : asG g d (wipeS τ (own.map (·.2))) = some τ2) : lcB Φ own g tt e τ d h = (evT Φ tt τ2 h).bind (klB Φ e τ2) := by
  unfold lcB; rw [q]; rfl
def lcR (Φ : Den) (tt : IT) (e : IE) (o : Option Sl) (h : Hv) : R (Option D) := match o with
  | some τ2 => (evT Φ tt τ2 h).bind (klB Φ e τ2)
  | none => .bad
theorem lcB_ {Φ : Den} {own : List (Str × Nat)} {g : IG} {tt : IT} {e : IE} {τ : Sl} {d : D} {h : Hv} : lcB Φ own g tt e τ d h = lcR Φ tt e (asG g d (wipeS τ (own.map (·.2)))) h := rfl
theorem lcR_s {Φ : Den} {tt : IT} {e : IE} {τ : Sl} {h : Hv} : lcR Φ tt e (some τ) h = (evT Φ tt τ h).bind (klB Φ e τ) := rfl
theorem wipeS_n {τ : Sl} : wipeS τ [] = τ := rfl
theorem wipeS_c {τ : Sl} {v : Nat} {vs : List Nat} : wipeS τ (v :: vs) = (wipeS τ vs).set v none := rfl

/-! ### values -/
theorem add_i {i j : Int} {h : Hv} : O2.ev .add (.int i) (.int j) h = .ok (.int (i + j)) h := rfl
theorem sub_i {i j : Int} {h : Hv} : O2.ev .sub (.int i) (.int j) h = .ok (.int (i - j)) h := rfl
theorem mul_i {i j : Int} {h : Hv} (e : sm i = true) (e2 : sm j = true) : O2.ev .mul (.int i) (.int j) h = .ok (.int (i * j)) h := if_pos ⟨e, e2⟩
theorem fdiv_i {i j : Int} {h : Hv} (e : 0 < j) (e2 : sm j = true) : O2.ev .fdiv (.int i) (.int j) h = .ok (.int (i / j)) h := if_pos ⟨e, e2⟩
theorem mod_i {i j : Int} {h : Hv} (e : 0 < j) : O2.ev .mod (.int i) (.int j) h = .ok (.int (i % j)) h := if_pos e
theorem pow_i {i j : Int} {h : Hv} (e : 0 ≤ j ∧ j ≤ 100 ∧ sm i = true) : O2.ev .pow (.int i) (.int j) h = .ok (.int (i ^ j.toNat)) h := if_pos e
theorem ipadd_i {i j : Int} {h : Hv} : O2.ip .add (.int i) (.int j) h = .ok (.int (i + j)) h := rfl
theorem ipsub_i {i j : Int} {h : Hv} : O2.ip .sub (.int i) (.int j) h = .ok (.int (i - j)) h := rfl
theorem eq_i {i j : Int} {h : Hv} : Oc.ev .eq (.int i) (.int j) h = some (decide (i = j)) := rfl
theorem eq_s {i j : Str} {h : Hv} : Oc.ev .eq (.str i) (.str j) h = some (decide (i = j)) := rfl
theorem eq_b {i j : Bool} {h : Hv} : Oc.ev .eq (.bl i) (.bl j) h = some (decide (i = j)) := rfl
theorem eq_ni {j : Int} {h : Hv} : Oc.ev .eq .non (.int j) h = some false := rfl
theorem eq_in {j : Int} {h : Hv} : Oc.ev .eq (.int j) .non h = some false := rfl
theorem eq_nn {h : Hv} : Oc.ev .eq .non .non h = some true := rfl
theorem ne_i {i j : Int} {h : Hv} : Oc.ev .ne (.int i) (.int j) h = some (!decide (i = j)) := rfl
theorem ne_s {i j : Str} {h : Hv} : Oc.ev .ne (.str i) (.str j) h = some (!decide (i = j)) := rfl
theorem ne_ni {j : Int} {h : Hv} : Oc.ev .ne .non (.int j) h = some true := rfl
theorem ne_in {j : Int} {h : Hv} : Oc.ev .ne (.int j) .non h = some true := rfl
theorem ne_nn {h : Hv} : Oc.ev .ne .non .non h = some false := rfl
theorem lt_i {i j : Int} {h : Hv} : Oc.ev .lt (.int i) (.int j) h = some (decide (i < j)) := rfl
theorem le_i {i j : Int} {h : Hv} : Oc.ev .le (.int i) (.int j) h = some (decide (i ≤ j)) := rfl
theorem gt_i {i j : Int} {h : Hv} : Oc.ev .gt (.int i) (.int j) h = some (decide (j < i)) := rfl
theorem ge_i {i j : Int} {h : Hv} : Oc.ev .ge (.int i) (.int j) h = some (decide (j ≤ i)) := rfl
theorem tru_b {k : Bool} {h : Hv} : tru (.bl k) h = some k := rfl
theorem tru_i {i : Int} {h : Hv} : tru (.int i) h = some (decide (i ≠ 0)) := rfl
theorem tru_n {h : Hv} : tru .non h = some false := rfl
theorem tru_t {xs : List D} {h : Hv} : tru (.tup xs) h = some (!xs.isEmpty) := rfl
theorem tru_r {a : Nat} {xs : List D} {h : Hv} (e : h.get a = some xs) : tru (.ref a) h = some (!xs.isEmpty) := by
  show (h.get a).map _ = _
  rw [e]; rfl
theorem it0 {x : D} {xs : List D} {h : Hv} : itemD (.tup (x :: xs)) (.int 0) h = .ok x h := by
  simp only [itemD, idx, List.length_cons]
  rw [if_pos (by omega), if_pos (by omega)]; rfl
theorem it1 {x y : D} {xs : List D} {h : Hv} : itemD (.tup (x :: y :: xs)) (.int 1) h = .ok y h := by
  simp only [itemD, idx, List.length_cons]
  rw [if_pos (by omega), if_pos (by omega)]; rfl
theorem it2 {x y z : D} {xs : List D} {h : Hv} : itemD (.tup (x :: y :: z :: xs)) (.int 2) h = .ok z h := by
  simp only [itemD, idx, List.length_cons]
  rw [if_pos (by omega), if_pos (by omega)]; rfl
theorem it3 {x y z w : D} {xs : List D} {h : Hv} : itemD (.tup (x :: y :: z :: w :: xs)) (.int 3) h = .ok w h := by
  simp only [itemD, idx, List.length_cons]
  rw [if_pos (by omega), if_pos (by omega)]; rfl
theorem itr {a j : Nat} {k : Int} {xs : List D} {d : D} {h : Hv} (e : h.get a = some xs) (e2 : idx xs.length k = some j) (e3 : xs[j]? = some d) : itemD (.ref a) (.int k) h = .ok d h := by
  simp only [itemD, e]
  rw [e2]
  simp only [Option.bind_some, e3]
theorem itt {j : Nat} {k : Int} {xs : List D} {d : D} {h : Hv} (e2 : idx xs.length k = some j) (e3 : xs[j]? = some d) : itemD (.tup xs) (.int k) h = .ok d h := by
  simp only [itemD]
  rw [e2]
  simp only [Option.bind_some, e3]
theorem idx_nn {n : Nat} {k : Int} (h1 : 0 ≤ k) (h2 : k < n) : idx n k = some k.toNat := by unfold idx; rw [if_pos h1, if_pos h2]
theorem idx_last {n : Nat} (h1 : 0 < n) : idx n (-1) = some (n - 1) := by
  unfold idx; rw [if_neg (by omega), if_pos (by omega)]; congr 1; omega
theorem abs_i {i : Int} {h : Hv} : Bu.ev .abs [.int i] h = .ok (.int (if i < 0 then -i else i)) h := rfl
theorem max_i {i j : Int} {h : Hv} : Bu.ev .max [.int i, .int j] h = .ok (.int (if j > i then j else i)) h := rfl
theorem min_i {i j : Int} {h : Hv} : Bu.ev .min [.int i, .int j] h = .ok (.int (if j < i then j else i)) h := rfl
theorem len_r {a : Nat} {xs : List D} {h : Hv} (e : h.get a = some xs) : Bu.ev .len [.ref a] h = .ok (.int xs.length) h := by
  simp only [Bu.ev, e]
theorem len_t {xs : List D} {h : Hv} : Bu.ev .len [.tup xs] h = .ok (.int xs.length) h := rfl
theorem tupR_0 {h : Hv} : tupR [] h = .ok (.tup []) h := tupR_le (by simp only [List.length_cons, List.length_nil, lim]; omega)
theorem mk_0 {h : Hv} : mk [] h = .ok (.ref h.length) (h ++ [.lst []]) := mk_le (by simp only [List.length_cons, List.length_nil, lim]; omega)
theorem len_t0 {h : Hv} : Bu.ev .len [.tup []] h = .ok (.int 0) h := rfl
theorem tupR_1 {a : D} {h : Hv} : tupR [a] h = .ok (.tup [a]) h := tupR_le (by simp only [List.length_cons, List.length_nil, lim]; omega)
theorem mk_1 {a : D} {h : Hv} : mk [a] h = .ok (.ref h.length) (h ++ [.lst [a]]) := mk_le (by simp only [List.length_cons, List.length_nil, lim]; omega)
theorem len_t1 {a : D} {h : Hv} : Bu.ev .len [.tup [a]] h = .ok (.int 1) h := rfl
theorem tupR_2 {a b : D} {h : Hv} : tupR [a, b] h = .ok (.tup [a, b]) h := tupR_le (by simp only [List.length_cons, List.length_nil, lim]; omega)
theorem mk_2 {a b : D} {h : Hv} : mk [a, b] h = .ok (.ref h.length) (h ++ [.lst [a, b]]) := mk_le (by simp only [List.length_cons, List.length_nil, lim]; omega)
theorem len_t2 {a b : D} {h : Hv} : Bu.ev .len [.tup [a, b]] h = .ok (.int 2) h := rfl
theorem tupR_3 {a b c : D} {h : Hv} : tupR [a, b, c] h = .ok (.tup [a, b, c]) h := tupR_le (by simp only [List.length_cons, List.length_nil, lim]; omega)
theorem mk_3 {a b c : D} {h : Hv} : mk [a, b, c] h = .ok (.ref h.length) (h ++ [.lst [a, b, c]]) := mk_le (by simp only [List.length_cons, List.length_nil, lim]; omega)
theorem len_t3 {a b c : D} {h : Hv} : Bu.ev .len [.tup [a, b, c]] h = .ok (.int 3) h := rfl
theorem tupR_4 {a b c d : D} {h : Hv} : tupR [a, b, c, d] h = .ok (.tup [a, b, c, d]) h := tupR_le (by simp only [List.length_cons, List.length_nil, lim]; omega)
theorem mk_4 {a b c d : D} {h : Hv} : mk [a, b, c, d] h = .ok (.ref h.length) (h ++ [.lst [a, b, c, d]]) := mk_le (by simp only [List.length_cons, List.length_nil, lim]; omega)
theorem len_t4 {a b c d : D} {h : Hv} : Bu.ev .len [.tup [a, b, c, d]] h = .ok (.int 4) h := rfl
theorem tupR_5 {a b c d e : D} {h : Hv} : tupR [a, b, c, d, e] h = .ok (.tup [a, b, c, d, e]) h := tupR_le (by simp only [List.length_cons, List.length_nil, lim]; omega)
theorem mk_5 {a b c d e : D} {h : Hv} : mk [a, b, c, d, e] h = .ok (.ref h.length) (h ++ [.lst [a, b, c, d, e]]) := mk_le (by simp only [List.length_cons, List.length_nil, lim]; omega)
theorem len_t5 {a b c d e : D} {h : Hv} : Bu.ev .len [.tup [a, b, c, d, e]] h = .ok (.int 5) h := rfl
theorem tupR_6 {a b c d e f : D} {h : Hv} : tupR [a, b, c, d, e, f] h = .ok (.tup [a, b, c, d, e, f]) h := tupR_le (by simp only [List.length_cons, List.length_nil, lim]; omega)
theorem mk_6 {a b c d e f : D} {h : Hv} : mk [a, b, c, d, e, f] h = .ok (.ref h.length) (h ++ [.lst [a, b, c, d, e, f]]) := mk_le (by simp only [List.length_cons, List.length_nil, lim]; omega)
theorem len_t6 {a b c d e f : D} {h : Hv} : Bu.ev .len [.tup [a, b, c, d, e, f]] h = .ok (.int 6) h := rfl
theorem tupR_8 {a b c d e f g i : D} {h : Hv} : tupR [a, b, c, d, e, f, g, i] h = .ok (.tup [a, b, c, d, e, f, g, i]) h := tupR_le (by simp only [List.length_cons, List.length_nil, lim]; omega)
theorem mk_8 {a b c d e f g i : D} {h : Hv} : mk [a, b, c, d, e, f, g, i] h = .ok (.ref h.length) (h ++ [.lst [a, b, c, d, e, f, g, i]]) := mk_le (by simp only [List.length_cons, List.length_nil, lim]; omega)
theorem len_t8 {a b c d e f g i : D} {h : Hv} : Bu.ev .len [.tup [a, b, c, d, e, f, g, i]] h = .ok (.int 8) h := rfl
theorem int_i {i : Int} {h : Hv} : Bu.ev .int [.int i] h = .ok (.int i) h := rfl
theorem int_b {k : Bool} {h : Hv} : Bu.ev .int [.bl k] h = .ok (.int (if k then 1 else 0)) h := rfl
theorem list_r {a : Nat} {xs : List D} {h : Hv} (e : h.get a = some xs) : Bu.ev .list [.ref a] h = .ok (.ref h.length) (h ++ [.lst xs]) := by simp only [Bu.ev, e]
theorem list_t {xs : List D} {h : Hv} : Bu.ev .list [.tup xs] h = .ok (.ref h.length) (h ++ [.lst xs]) := rfl
theorem tuple_r {a : Nat} {xs : List D} {h : Hv} (e : h.get a = some xs) : Bu.ev .tuple [.ref a] h = .ok (.tup xs) h := by simp only [Bu.ev, e]
theorem append_r {a : Nat} {xs : List D} {y : D} {h : Hv} (e : h.lst a = some xs) (e2 : xs.length < lim) : Me.ev .append (.ref a) [y] h = .ok .non (h.set a (.lst (xs ++ [y]))) := by
  simp only [Me.ev, e]; rw [if_pos e2]
theorem cat_r {a b : Nat} {xs ys : List D} {h : Hv} (e : h.lst a = some xs) (e1 : h.lst b = some ys) (e2 : (xs ++ ys).length ≤ lim) : O2.ev .add (.ref a) (.ref b) h = .ok (.ref h.length) (h ++ [.lst (xs ++ ys)]) := by
  simp only [O2.ev, e, e1]; exact mk_le e2

/-! ### what holds of an answer -/
def R.Sat {α : Type} (r : R α) (P : α → Hv → Prop) : Prop := match r with
  | .ok a h => P a h
  | _ => False
def RS.Sat (r : RS) (N : Sl → Hv → Prop) (Q : D → Hv → Prop) : Prop := match r with
  | .nx τ h => N τ h
  | .rt d h => Q d h
  | _ => False
def RS.SatB (r : RS) (N B : Sl → Hv → Prop) (Q : D → Hv → Prop) : Prop := match r with
  | .nx τ h => N τ h
  | .ct τ h => N τ h
  | .bk τ h => B τ h
  | .rt d h => Q d h
  | _ => False
theorem R.Sat.get {α : Type} {r : R α} {P : α → Hv → Prop} (s : r.Sat P) : ∃ a h, r = .ok a h ∧ P a h := by
  cases r with
  | ok a h => exact ⟨a, h, rfl, s⟩
  | ex c as h => exact False.elim s
  | bad => exact False.elim s
theorem sat_ok {α : Type} {a : α} {h : Hv} {P : α → Hv → Prop} : (R.ok a h).Sat P = P a h := rfl
theorem sat_of {α : Type} {r : R α} {a : α} {h : Hv} {P : α → Hv → Prop} (e : r = .ok a h) (p : P a h) : r.Sat P := by rw [e]; exact p
theorem R.Sat.imp {α : Type} {r : R α} {P P' : α → Hv → Prop} (s : r.Sat P) (f : ∀ a h, P a h → P' a h) : r.Sat P' := by
  cases r with
  | ok a h => exact f a h s
  | ex c as h => exact False.elim s
  | bad => exact False.elim s
theorem R.Sat.bind {α β : Type} {r : R α} {P : α → Hv → Prop} {P' : β → Hv → Prop} {f : α → Hv → R β} (s : r.Sat P) (g : ∀ a h, P a h → (f a h).Sat P') : (r.bind f).Sat P' := by
  cases r with
  | ok a h => exact g a h s
  | ex c as h => exact False.elim s
  | bad => exact False.elim s
theorem R.Sat.stm {α : Type} {r : R α} {P : α → Hv → Prop} {τ : Sl} {f : α → Hv → RS} {N : Sl → Hv → Prop} {Q : D → Hv → Prop} (s : r.Sat P) (g : ∀ a h, P a h → (f a h).Sat N Q) : (r.stm τ f).Sat N Q := by
  cases r with
  | ok a h => exact g a h s
  | ex c as h => exact False.elim s
  | bad => exact False.elim s
theorem R.Sat.stmB {α : Type} {r : R α} {P : α → Hv → Prop} {τ : Sl} {f : α → Hv → RS} {N B : Sl → Hv → Prop} {Q : D → Hv → Prop} (s : r.Sat P) (g : ∀ a h, P a h → (f a h).SatB N B Q) : (r.stm τ f).SatB N B Q := by
  cases r with
  | ok a h => exact g a h s
  | ex c as h => exact False.elim s
  | bad => exact False.elim s
theorem RS.Sat.seq {r : RS} {N N' : Sl → Hv → Prop} {Q : D → Hv → Prop} {f : Sl → Hv → RS} (s : r.Sat N' Q) (g : ∀ τ h, N' τ h → (f τ h).Sat N Q) : (r.seq f).Sat N Q := by
  cases r <;> first | exact g _ _ s | exact s | exact False.elim s
theorem RS.Sat.seqB {r : RS} {N B N' : Sl → Hv → Prop} {Q : D → Hv → Prop} {f : Sl → Hv → RS} (s : r.Sat N' Q) (g : ∀ τ h, N' τ h → (f τ h).SatB N B Q) : (r.seq f).SatB N B Q := by
  cases r <;> first | exact g _ _ s | exact s | exact False.elim s
theorem RS.SatB.seqB {r : RS} {N B N' : Sl → Hv → Prop} {Q : D → Hv → Prop} {f : Sl → Hv → RS} (s : r.SatB N' B Q) (hc : ∀ τ h, r = .ct τ h → N τ h) (g : ∀ τ h, N' τ h → (f τ h).SatB N B Q) : (r.seq f).SatB N B Q := by
  cases r <;> first | exact g _ _ s | exact hc _ _ rfl | exact s | exact False.elim s
theorem RS.Sat.fin {r : RS} {P : D → Hv → Prop} {N : Sl → Hv → Prop} (s : r.Sat N P) (g : ∀ τ h, N τ h → P .non h) : (G4.fin r).Sat P := by
  cases r <;> first | exact g _ _ s | exact s | exact False.elim s
theorem RS.Sat.imp {r : RS} {N N' : Sl → Hv → Prop} {Q Q' : D → Hv → Prop} (s : r.Sat N Q) (f : ∀ τ h, N τ h → N' τ h) (g : ∀ d h, Q d h → Q' d h) : r.Sat N' Q' := by
  cases r <;> first | exact f _ _ s | exact g _ _ s | exact False.elim s
theorem satN {τ : Sl} {h : Hv} {N : Sl → Hv → Prop} {Q : D → Hv → Prop} : (RS.nx τ h).Sat N Q = N τ h := rfl
theorem satR {d : D} {h : Hv} {N : Sl → Hv → Prop} {Q : D → Hv → Prop} : (RS.rt d h).Sat N Q = Q d h := rfl
theorem satbN {τ : Sl} {h : Hv} {N B : Sl → Hv → Prop} {Q : D → Hv → Prop} : (RS.nx τ h).SatB N B Q = N τ h := rfl
theorem satbC {τ : Sl} {h : Hv} {N B : Sl → Hv → Prop} {Q : D → Hv → Prop} : (RS.ct τ h).SatB N B Q = N τ h := rfl
theorem satbB {τ : Sl} {h : Hv} {N B : Sl → Hv → Prop} {Q : D → Hv → Prop} : (RS.bk τ h).SatB N B Q = B τ h := rfl
theorem satbR {d : D} {h : Hv} {N B : Sl → Hv → Prop} {Q : D → Hv → Prop} : (RS.rt d h).SatB N B Q = Q d h := rfl

/-! ### loops -/
theorem forL_inv {nxt : Nat → Hv → Option (Option D)} {bod : D → Sl → Hv → RS} {B : Sl → Hv → Prop} {Q : D → Hv → Prop} (xs : List D) (I : Nat → Sl → Hv → Prop) (hn : ∀ i τ h, I i τ h → nxt i h = some xs[i]?)
    (step : ∀ i d τ h, xs[i]? = some d → I i τ h → (bod d τ h).SatB (I (i + 1)) B Q) (fi : ∀ τ h, I xs.length τ h → B τ h) : ∀ n i τ h, I i τ h → i ≤ xs.length → xs.length < n + i → (forL nxt bod n i τ h).Sat B Q
  | 0, i, τ, h, hI, h1, h2 => by omega
  | n + 1, i, τ, h, hI, h1, h2 => by
    unfold forL
    rw [hn i τ h hI]
    cases q : xs[i]? with
    | none =>
      have : i = xs.length := Nat.le_antisymm h1 (List.getElem?_eq_none_iff.mp q)
      subst this
      exact fi τ h hI
    | some d =>
      have s := step i d τ h q hI
      have hi : i < xs.length := (List.getElem?_eq_some_iff.mp q).1
      dsimp only
      cases r : bod d τ h with
      | nx τ' h' => rw [r] at s; exact forL_inv xs I hn step fi n (i + 1) τ' h' s (by omega) (by omega)
      | ct τ' h' => rw [r] at s; exact forL_inv xs I hn step fi n (i + 1) τ' h' s (by omega) (by omega)
      | bk τ' h' => rw [r] at s; exact s
      | rt d' h' => rw [r] at s; exact s
      | ex c as τ' h' => rw [r] at s; exact False.elim s
      | bad => rw [r] at s; exact False.elim s
/-- a loop as a fold, no heap changed -/
theorem forL_fold {α σ : Type} {nxt : Nat → Hv → Option (Option D)} {bod : D → Sl → Hv → RS} {h : Hv} (enc : α → D) (st : σ → Sl) (f : σ → α → σ) : ∀ (xs ys : List α) (s : σ) (n : Nat), (∀ i, nxt i h = some (((ys ++ xs).map enc)[i]?)) →
    (∀ a ∈ xs, ∀ s, bod (enc a) (st s) h = .nx (st (f s a)) h) → xs.length < n → forL nxt bod n ys.length (st s) h = .nx (st (xs.foldl f s)) h
  | [], ys, s, 0, _, _, hl => by simp at hl
  | [], ys, s, n + 1, hn, _, _ => by
    unfold forL
    rw [hn, List.getElem?_eq_none (by simp)]
    rfl
  | x :: xs, ys, s, 0, _, _, hl => by simp at hl
  | x :: xs, ys, s, n + 1, hn, hb, hl => by
    unfold forL
    have e : ((ys ++ x :: xs).map enc)[ys.length]? = some (enc x) := by simp
    rw [hn, e]
    dsimp only
    rw [hb x (List.mem_cons_self ..) s]
    dsimp only
    have := forL_fold (h := h) enc st f xs (ys ++ [x]) (f s x) n (by simpa using hn) (fun a ha => hb a (List.mem_cons_of_mem _ ha)) (by simpa using hl)
    rw [List.length_append] at this
    exact this
theorem forL_fold0 {α σ : Type} {nxt : Nat → Hv → Option (Option D)} {bod : D → Sl → Hv → RS} {h : Hv} (enc : α → D) (st : σ → Sl) (f : σ → α → σ) (xs : List α) (s : σ) (hn : ∀ i, nxt i h = some ((xs.map enc)[i]?))
    (hb : ∀ a ∈ xs, ∀ s, bod (enc a) (st s) h = .nx (st (f s a)) h) (hl : xs.length < turns) : forL nxt bod turns 0 (st s) h = .nx (st (xs.foldl f s)) h :=
  forL_fold (h := h) enc st f xs [] s turns hn hb hl
/-- a while loop by a measure -/
theorem whL_inv {tst : Sl → Hv → R Bool} {bod : Sl → Hv → RS} {B : Sl → Hv → Prop} {Q : D → Hv → Prop} (I : Nat → Sl → Hv → Prop)
    (step : ∀ i τ h, I i τ h → (tst τ h).Sat fun k h' => (k = true ∧ ∃ j, i = j + 1 ∧ (bod τ h').SatB (fun τ' h'' => ∃ m, m ≤ j ∧ I m τ' h'') B Q) ∨ (k = false ∧ B τ h')) : ∀ n i τ h, I i τ h → i < n → (whL tst bod n τ h).Sat B Q
  | 0, i, τ, h, hI, h1 => by omega
  | n + 1, i, τ, h, hI, h1 => by
    unfold whL
    obtain ⟨k, h', e, s⟩ := (step i τ h hI).get
    rw [e]
    rcases s with ⟨rfl, j, rfl, s⟩ | ⟨rfl, s⟩
    rotate_left
    · exact s
    · skip
      show (match bod τ h' with
        | .nx τ' h' => whL tst bod n τ' h'
        | .ct τ' h' => whL tst bod n τ' h'
        | .bk τ' h' => .nx τ' h'
        | .rt d h' => .rt d h'
        | .ex c as τ' h' => .ex c as τ' h'
        | .bad => .bad : RS).Sat B Q
      cases r : bod τ h' with
      | nx τ' h' =>
        rw [r] at s
        obtain ⟨m, hm, s⟩ := s
        exact whL_inv I step n m τ' h' s (by omega)
      | ct τ' h' =>
        rw [r] at s
        obtain ⟨m, hm, s⟩ := s
        exact whL_inv I step n m τ' h' s (by omega)
      | bk τ' h' => rw [r] at s; exact s
      | rt d' h' => rw [r] at s; exact s
      | ex c as τ' h' => rw [r] at s; exact False.elim s
      | bad => rw [r] at s; exact False.elim s
/-! ### the heap -/
theorem get_of_lst {h : Hv} {a : Nat} {xs : List D} (e : h.lst a = some xs) : h.get a = some xs := by
  unfold Hv.lst at e
  unfold Hv.get
  cases q : h[a]? with
  | none => rw [q] at e; cases e
  | some o => rw [q] at e; cases o <;> first | exact e | cases e
theorem lst_new {h : Hv} {xs : List D} : Hv.lst (h ++ [.lst xs]) h.length = some xs := by simp [Hv.lst]
theorem get_new {h : Hv} {xs : List D} : Hv.get (h ++ [.lst xs]) h.length = some xs := by simp [Hv.get]
theorem lst_lt {h : Hv} {a : Nat} {xs : List D} (e : h.lst a = some xs) : a < h.length := by
  unfold Hv.lst at e
  cases q : h[a]? with
  | none => rw [q] at e; cases e
  | some o => exact (List.getElem?_eq_some_iff.mp q).1
theorem get_lt {h : Hv} {a : Nat} {xs : List D} (e : h.get a = some xs) : a < h.length := by
  unfold Hv.get at e
  cases q : h[a]? with
  | none => rw [q] at e; cases e
  | some o => exact (List.getElem?_eq_some_iff.mp q).1
theorem lst_set {h : Hv} {a : Nat} {xs : List D} (e : a < h.length) : Hv.lst (h.set a (.lst xs)) a = some xs := by simp [Hv.lst, e]
theorem get_set {h : Hv} {a : Nat} {xs : List D} (e : a < h.length) : Hv.get (h.set a (.lst xs)) a = some xs := by simp [Hv.get, e]
theorem lst_set_ne {h : Hv} {a b : Nat} {o : Ob} (e : a ≠ b) : Hv.lst (h.set a o) b = h.lst b := by simp [Hv.lst, List.getElem?_set_ne e]
theorem get_set_ne {h : Hv} {a b : Nat} {o : Ob} (e : a ≠ b) : Hv.get (h.set a o) b = h.get b := by simp [Hv.get, List.getElem?_set_ne e]
/-- what stood stands yet -/
structure Hx (h h' : Hv) : Prop where
  le : h.length ≤ h'.length
  at_ : ∀ i, i < h.length → h'[i]? = h[i]?
theorem Hx.refl (h : Hv) : Hx h h := ⟨Nat.le_refl _, fun _ _ => rfl⟩
theorem Hx.trans {h h' h'' : Hv} (a : Hx h h') (b : Hx h' h'') : Hx h h'' := ⟨Nat.le_trans a.le b.le, fun i hi => by rw [b.at_ i (Nat.lt_of_lt_of_le hi a.le), a.at_ i hi]⟩
theorem Hx.app (h g : Hv) : Hx h (h ++ g) := ⟨by simp, fun i hi => List.getElem?_append_left hi⟩
theorem Hx.push {h h' : Hv} (a : Hx h h') (g : Hv) : Hx h (h' ++ g) := a.trans (.app h' g)
theorem Hx.set {h h' : Hv} (a : Hx h h') {i : Nat} {o : Ob} (hi : h.length ≤ i) : Hx h (h'.set i o) := ⟨by simpa using a.le, fun j hj => by rw [List.getElem?_set_ne (by omega), a.at_ j hj]⟩
theorem Hx.get {h h' : Hv} (a : Hx h h') {i : Nat} {xs : List D} (e : h.get i = some xs) : h'.get i = some xs := by
  have := a.at_ i (get_lt e)
  unfold Hv.get at e ⊢
  rw [this]; exact e
theorem Hx.lst {h h' : Hv} (a : Hx h h') {i : Nat} {xs : List D} (e : h.lst i = some xs) : h'.lst i = some xs := by
  have := a.at_ i (lst_lt e)
  unfold Hv.lst at e ⊢
  rw [this]; exact e
end G4

namespace G4
open PySem
def f_stage_tone : Fn := ⟨3, 3, ((.cons (.iff (.cmN false (.var 2)) ((.cons (.ret (.con .non)) 
    .nil)) .nil) 
  (.cons (.iff (.cm .eq (.ix (.var 0) (.con (.int 0))) (.con (.str "mix"))) ((.cons (.ret (.cb .abs (.cons (.b2 .sub (.var 2) (.ix (.var 0) (.con (.int 1)))) .nil))) 
    .nil)) .nil) 
  (.cons (.iff (.cm .eq (.ix (.var 0) (.con (.int 0))) (.con (.str "dial"))) ((.cons (.ret (.cb .abs (.cons (.b2 .sub (.b2 .sub (.var 2) (.var 1)) (.ix (.var 0) (.con (.int 1)))) .nil))) 
    .nil)) .nil) 
  (.cons (.ret (.ie (.ch .le .le (.ix (.var 0) (.con (.int 1))) (.var 2) (.ix (.var 0) (.con (.int 2)))) (.var 2) (.con .non))) 
  .nil)))))⟩
def f_sampled_tone : Fn := ⟨2, 3, ((.cons (.iff (.bo false (.cons (.cmN false (.var 0)) (.cons (.cmN false (.var 1)) .nil))) ((.cons (.ret (.var 1)) 
    .nil)) .nil) 
  (.cons (.asg (.nm 2) (.b2 .mod (.var 1) (.var 0))) 
  (.cons (.ret (.cb .min (.cons (.var 2) (.cons (.b2 .sub (.var 0) (.var 2)) .nil)))) 
  .nil))))⟩
def f_tone_of : Fn := ⟨3, 7, ((.cons (.asg (.tp [.nm 3, .nm 4]) (.var 0)) 
  (.cons (.asg (.nm 5) (.var 2)) 
  (.cons (.fr (.nm 6) (.seq (.var 3)) ((.cons (.asg (.nm 5) (.cf 22 (.cons (.var 6) (.cons (.var 1) (.cons (.var 5) .nil))))) 
    .nil))) 
  (.cons (.ret (.cf 23 (.cons (.var 4) (.cons (.var 5) .nil)))) 
  .nil)))))⟩
def f_is_integer : Fn := ⟨1, 1, ((.cons (.ret (.bo true (.cons (.isi (.var 0) .int) (.cons (.nt (.isi (.var 0) .bool)) .nil)))) 
  .nil))⟩
def f_is_at_least : Fn := ⟨2, 2, ((.cons (.ret (.bo true (.cons (.cf 6 (.cons (.var 0) .nil)) (.cons (.cm .ge (.var 0) (.var 1)) .nil)))) 
  .nil))⟩
def f_is_pair : Fn := ⟨2, 2, ((.cons (.ret (.bo true (.cons (.cf 7 (.cons (.var 0) (.cons (.con (.int 0)) .nil))) (.cons (.cf 7 (.cons (.var 1) (.cons (.var 0) .nil))) .nil)))) 
  .nil))⟩
def f_is_stage : Fn := ⟨1, 1, ((.cons (.iff (.bo false (.cons (.nt (.v (.isi (.var 0) .tuple))) (.cons (.cm .nin (.cb .len (.cons (.var 0) .nil)) (.tp (.cons (.con (.int 2)) (.cons (.con (.int 3)) .nil)))) .nil))) ((.cons (.ret (.con (.bl false))) 
    .nil)) .nil) 
  (.cons (.iff (.cm .eq (.cb .len (.cons (.var 0) .nil)) (.con (.int 3))) ((.cons (.ret (.bo true (.cons (.cm .eq (.ix (.var 0) (.con (.int 0))) (.con (.str "pass"))) (.cons (.cf 8 (.cons (.ix (.var 0) (.con (.int 1))) (.cons (.ix (.var 0) (.con (.int 2))) .nil))) .nil)))) 
    .nil)) .nil) 
  (.cons (.ret (.bo false (.cons (.bo true (.cons (.cm .eq (.ix (.var 0) (.con (.int 0))) (.con (.str "mix"))) (.cons (.cf 7 (.cons (.ix (.var 0) (.con (.int 1))) (.cons (.con (.int 0)) .nil))) .nil))) (.cons (.bo true (.cons (.cm .eq (.ix (.var 0) (.con (.int 0))) (.con (.str "dial"))) (.cons (.cf 6 (.cons (.ix (.var 0) (.con (.int 1))) .nil)) .nil))) .nil)))) 
  .nil))))⟩
def f_receiver_fault : Fn := ⟨1, 6, ((.cons (.iff (.bo false (.cons (.nt (.v (.isi (.var 0) .tuple))) (.cons (.cm .ne (.cb .len (.cons (.var 0) .nil)) (.con (.int 2))) (.cons (.nt (.v (.isi (.ix (.var 0) (.con (.int 0))) .list))) .nil)))) ((.cons (.ret (.tp (.cons (.con .non) .nil))) 
    .nil)) .nil) 
  (.cons (.asg (.tp [.nm 1, .nm 2]) (.var 0)) 
  (.cons (.iff (.nt (.ch .le .le (.con (.int 1)) (.cb .len (.cons (.var 1) .nil)) (.glo "MOST_STAGES" (.int 8)))) ((.cons (.ret (.tp (.cons (.con .non) .nil))) 
    .nil)) .nil) 
  (.cons (.asg (.nm 3) (.con (.int 0))) 
  (.cons (.fr (.tp [.nm 4, .nm 5]) (.enm (.var 1)) ((.cons (.iff (.nt (.v (.cf 9 (.cons (.var 5) .nil)))) ((.cons (.ret (.tp (.cons (.var 4) .nil))) 
      .nil)) .nil) 
    (.cons (.aug 3 .add (.cb .int (.cons (.cm .eq (.ix (.var 5) (.con (.int 0))) (.con (.str "dial"))) .nil))) 
    (.cons (.iff (.cm .gt (.var 3) (.con (.int 1))) ((.cons (.ret (.tp (.cons (.var 4) .nil))) 
      .nil)) .nil) 
    .nil))))) 
  (.cons (.ret (.ie (.bo false (.cons (.cmN false (.var 2)) (.cons (.v (.cf 7 (.cons (.var 2) (.cons (.con (.int 2)) .nil)))) .nil))) (.tp .nil) (.tp (.cons (.cb .len (.cons (.var 1) .nil)) .nil)))) 
  .nil)))))))⟩
def f_require_receiver : Fn := ⟨1, 2, ((.cons (.asg (.nm 1) (.cf 10 (.cons (.var 0) .nil))) 
  (.cons (.iff (.cm .ne (.var 1) (.tp .nil)) ((.cons .nev 
    .nil)) .nil) 
  .nil)))⟩
def f_require_dial : Fn := ⟨1, 1, ((.cons (.iff (.nt (.v (.cf 6 (.cons (.var 0) .nil)))) ((.cons .nev 
    .nil)) .nil) 
  .nil))⟩
def f_require_signal : Fn := ⟨1, 1, ((.cons (.iff (.nt (.v (.cf 7 (.cons (.var 0) (.cons (.con (.int 0)) .nil))))) ((.cons .nev 
    .nil)) .nil) 
  .nil))⟩
def f_require_heard : Fn := ⟨3, 3, ((.cons (.ex (.cf 25 (.cons (.var 0) .nil))) 
  (.cons (.ex (.cf 26 (.cons (.var 1) .nil))) 
  (.cons (.ex (.cf 27 (.cons (.var 2) .nil))) 
  .nil))))⟩
def f_tone_at : Fn := ⟨3, 3, ((.cons (.ex (.cf 28 (.cons (.var 0) (.cons (.var 1) (.cons (.var 2) .nil))))) 
  (.cons (.ret (.cf 24 (.cons (.var 0) (.cons (.var 1) (.cons (.var 2) .nil))))) 
  .nil)))⟩
def f_stage_tones : Fn := ⟨3, 8, ((.cons (.ex (.cf 28 (.cons (.var 0) (.cons (.var 1) (.cons (.var 2) .nil))))) 
  (.cons (.asg (.tp [.nm 3, .nm 4]) (.var 0)) 
  (.cons (.asg (.tp [.nm 5, .nm 6]) (.tp (.cons (.ls .nil) (.cons (.var 2) .nil)))) 
  (.cons (.fr (.nm 7) (.seq (.var 3)) ((.cons (.asg (.nm 6) (.cf 22 (.cons (.var 7) (.cons (.var 1) (.cons (.var 6) .nil))))) 
    (.cons (.ex (.mt .append (.var 5) (.cons (.var 6) .nil))) 
    .nil)))) 
  (.cons (.ret (.ie (.cmN false (.var 4)) (.var 5) (.ls (.star (.var 5) (.cons (.cf 23 (.cons (.var 4) (.cons (.var 6) .nil))) .nil))))) 
  .nil))))))⟩
def f_law_jar : Fn := ⟨2, 3, ((.cons (.asg (.nm 2) (.ie (.cm .lt (.var 1) (.cb .len (.cons (.var 0) .nil))) (.ix (.var 0) (.var 1)) (.con (.int 0)))) 
  (.cons (.ret (.ls (.cons (.cb .max (.cons (.con (.int 0)) (.cons (.b2 .add (.b2 .sub (.cb .abs (.cons (.var 2) .nil)) (.b2 .pow (.con (.int 10)) (.con (.int 18)))) (.con (.int 1))) .nil))) (.cons (.b2 .add (.b2 .mod (.cb .int (.cons (.var 2) .nil)) (.b2 .add (.b2 .pow (.con (.int 10)) (.con (.int 27))) (.con (.int 103)))) (.b2 .mul (.con (.int 90017)) (.b2 .add (.var 1) (.con (.int 1))))) (.cons (.con (.int 0)) .nil))))) 
  .nil)))⟩
def f_law_pick : Fn := ⟨2, 4, ((.cons (.iff (.cm .gt (.ix (.var 0) (.con (.int 0))) (.con (.int 0))) ((.cons (.asg (.nm 2) (.b2 .mod (.cb .int (.cons (.ix (.var 0) (.con (.int 0))) .nil)) (.var 1))) 
    (.cons (.setl (.var 0) (.con (.int 0)) (.b2 .fdiv (.ix (.var 0) (.con (.int 0))) (.var 1))) 
    (.cons (.ret (.var 2)) 
    .nil)))) .nil) 
  (.cons (.setl (.var 0) (.con (.int 2)) (.b2 .add (.ix (.var 0) (.con (.int 2))) (.con (.int 1)))) 
  (.cons (.asg (.nm 3) (.b2 .mod (.cb .int (.cons (.b2 .pow (.b2 .add (.ix (.var 0) (.con (.int 1))) (.b2 .mul (.con (.int 611953)) (.ix (.var 0) (.con (.int 2))))) (.con (.int 3))) .nil)) (.b2 .add (.b2 .pow (.con (.int 10)) (.con (.int 39))) (.con (.int 3))))) 
  (.cons (.asg (.nm 3) (.b2 .mod (.cb .int (.cons (.b2 .pow (.b2 .add (.var 3) (.b2 .mul (.con (.int 86028121)) (.ix (.var 0) (.con (.int 2))))) (.con (.int 3))) .nil)) (.b2 .add (.b2 .pow (.con (.int 10)) (.con (.int 42))) (.con (.int 63))))) 
  (.cons (.ret (.b2 .mod (.cb .int (.cons (.b2 .fdiv (.var 3) (.con (.int 919393))) .nil)) (.var 1))) 
  .nil))))))⟩
def f_law_radio : Fn := ⟨3, 8, ((.cons (.asg (.tp [.nm 3, .nm 4]) (.tp (.cons (.ls .nil) (.cons (.cf 13 (.cons (.var 0) (.cons (.b2 .mul (.con (.int 2)) (.var 1)) .nil))) .nil)))) 
  (.cons (.fr (.nm 5) (.rng (.cons (.b2 .add (.con (.int 1)) (.cf 13 (.cons (.var 0) (.cons (.var 1) .nil)))) .nil)) ((.cons (.asg (.tp [.nm 6, .nm 7]) (.tp (.cons (.cf 13 (.cons (.var 0) (.cons (.con (.int 5)) .nil))) (.cons (.ix (.ls (.cons (.con (.int 0)) (.cons (.cf 13 (.cons (.var 0) (.cons (.var 2) .nil))) .nil))) (.cf 13 (.cons (.var 0) (.cons (.con (.int 2)) .nil)))) .nil)))) 
    (.cons (.iff (.cm .eq (.var 5) (.var 4)) ((.cons (.ex (.mt .append (.var 3) (.cons (.tp (.cons (.con (.str "dial")) (.cons (.b2 .sub (.cf 13 (.cons (.var 0) (.cons (.b2 .add (.b2 .mul (.con (.int 2)) (.var 2)) (.con (.int 1))) .nil))) (.var 2)) .nil))) .nil))) 
      .nil)) ((.cons (.iff (.cm .eq (.var 6) (.con (.int 0))) ((.cons (.ex (.mt .append (.var 3) (.cons (.tp (.cons (.con (.str "pass")) (.cons (.var 7) (.cons (.b2 .add (.var 7) (.ix (.ls (.cons (.con (.int 0)) (.cons (.con (.int 1)) (.cons (.cf 13 (.cons (.var 0) (.cons (.b2 .add (.var 2) (.con (.int 1))) .nil))) (.cons (.b2 .mul (.con (.int 9)) (.var 2)) .nil))))) (.cf 13 (.cons (.var 0) (.cons (.con (.int 4)) .nil))))) .nil)))) .nil))) 
        .nil)) ((.cons (.iff (.bo true (.cons (.cm .eq (.var 6) (.con (.int 1))) (.cons (.cm .ne (.var 3) (.ls .nil)) (.cons (.cm .ne (.ix (.ix (.var 3) (.neg (.con (.int 1)))) (.con (.int 0))) (.con (.str "dial"))) .nil)))) ((.cons (.ex (.mt .append (.var 3) (.cons (.ix (.var 3) (.neg (.con (.int 1)))) .nil))) 
          .nil)) ((.cons (.ex (.mt .append (.var 3) (.cons (.tp (.cons (.con (.str "mix")) (.cons (.ix (.ls (.cons (.con (.int 0)) (.cons (.con (.int 1)) (.cons (.cf 13 (.cons (.var 0) (.cons (.b2 .add (.var 2) (.con (.int 1))) .nil))) (.cons (.cf 13 (.cons (.var 0) (.cons (.b2 .add (.var 2) (.con (.int 1))) .nil))) .nil))))) (.cf 13 (.cons (.var 0) (.cons (.con (.int 4)) .nil)))) .nil))) .nil))) 
          .nil))) 
        .nil))) 
      .nil))) 
    .nil)))) 
  (.cons (.ret (.tp (.cons (.var 3) (.cons (.ix (.ls (.cons (.con .non) (.cons (.con .non) (.cons (.con (.int 2)) (.cons (.con (.int 3)) (.cons (.b2 .add (.con (.int 2)) (.cf 13 (.cons (.var 0) (.cons (.con (.int 12)) .nil)))) (.cons (.b2 .add (.con (.int 2)) (.cf 13 (.cons (.var 0) (.cons (.var 2) .nil)))) .nil))))))) (.cf 13 (.cons (.var 0) (.cons (.con (.int 6)) .nil)))) .nil)))) 
  .nil))))⟩
def f_law_parts : Fn := ⟨3, 6, ((.cons (.asg (.tp [.nm 3, .nm 4]) (.tp (.cons (.ls .nil) (.cons (.var 2) .nil)))) 
  (.cons (.fr (.nm 5) (.seq (.ix (.var 0) (.con (.int 0)))) ((.cons (.iff (.bo true (.cons (.cmN true (.var 4)) (.cons (.cm .eq (.ix (.var 5) (.con (.int 0))) (.con (.str "pass"))) .nil))) ((.cons (.asg (.nm 4) (.ie (.bo false (.cons (.cm .lt (.var 4) (.ix (.var 5) (.con (.int 1)))) (.cons (.cm .gt (.var 4) (.ix (.var 5) (.con (.int 2)))) .nil))) (.con .non) (.var 4))) 
      .nil)) ((.cons (.iff (.cmN true (.var 4)) ((.cons (.asg (.nm 4) (.b2 .sub (.b2 .sub (.b2 .mul (.cb .max (.cons (.var 4) (.cons (.b2 .add (.ix (.var 5) (.con (.int 1))) (.ie (.cm .eq (.ix (.var 5) (.con (.int 0))) (.con (.str "dial"))) (.var 1) (.con (.int 0)))) .nil))) (.con (.int 2))) (.var 4)) (.ix (.var 5) (.con (.int 1))))) 
        (.cons (.asg (.nm 4) (.b2 .sub (.var 4) (.ie (.cm .eq (.ix (.var 5) (.con (.int 0))) (.con (.str "dial"))) (.var 1) (.con (.int 0))))) 
        .nil))) .nil) 
      .nil))) 
    (.cons (.ex (.mt .append (.var 3) (.cons (.var 4) .nil))) 
    .nil)))) 
  (.cons (.iff (.cmN true (.ix (.var 0) (.con (.int 1)))) ((.cons (.ex (.mt .append (.var 3) (.cons (.ie (.cmN false (.var 4)) (.con .non) (.cb .min (.cons (.b2 .mod (.cb .int (.cons (.var 4) .nil)) (.ix (.var 0) (.con (.int 1)))) (.cons (.b2 .mod (.cb .int (.cons (.b2 .sub (.con (.int 0)) (.var 4)) .nil)) (.ix (.var 0) (.con (.int 1)))) .nil)))) .nil))) 
    .nil)) .nil) 
  (.cons (.ret (.var 3)) 
  .nil)))))⟩
def f_law_tone : Fn := ⟨3, 3, ((.cons (.ret (.ix (.cf 31 (.cons (.var 0) (.cons (.var 1) (.cons (.var 2) .nil)))) (.neg (.con (.int 1))))) 
  .nil))⟩
def f_law_right : Fn := ⟨3, 10, ((.cons (.asg (.tp [.nm 3, .nm 4]) (.tp (.cons (.cb .repr (.cons (.var 0) .nil)) (.cons (.cf 31 (.cons (.var 0) (.cons (.var 1) (.cons (.var 2) .nil)))) .nil)))) 
  (.cons (.fr (.nm 5) (.rng (.cons (.con (.int 2)) .nil)) ((.cons (.asg (.nm 6) (.ck 30 .nil (.cons (.var 2) (.cons (.var 1) (.cons (.var 0) .nil))) [2, 1, 0])) 
    (.cons (.iff (.bo false (.cons (.cm .ne (.cb .repr (.cons (.var 6) .nil)) (.cb .repr (.cons (.var 4) .nil))) (.cons (.cm .ne (.cb .repr (.cons (.var 0) .nil)) (.var 3)) .nil))) ((.cons (.ret (.con (.bl false))) 
      .nil)) .nil) 
    (.cons (.ex (.mt .append (.var 6) (.cons (.con (.int 0)) .nil))) 
    .nil))))) 
  (.cons (.iff (.cm .ne (.cb .repr (.cons (.cf 30 (.cons (.var 0) (.cons (.var 1) (.cons (.var 2) .nil)))) .nil)) (.cb .repr (.cons (.var 4) .nil))) ((.cons (.ret (.con (.bl false))) 
    .nil)) .nil) 
  (.cons (.asg (.nm 6) (.ls (.cons (.ck 29 .nil (.cons (.var 2) (.cons (.var 1) (.cons (.var 0) .nil))) [2, 1, 0]) (.cons (.cf 29 (.cons (.var 0) (.cons (.var 1) (.cons (.var 2) .nil)))) .nil)))) 
  (.cons (.iff (.bo false (.cons (.cm .ne (.cb .repr (.cons (.var 6) .nil)) (.cb .repr (.cons (.ls (.cons (.ix (.var 4) (.neg (.con (.int 1)))) (.cons (.ix (.var 4) (.neg (.con (.int 1)))) .nil))) .nil))) (.cons (.cm .ne (.cb .repr (.cons (.var 0) .nil)) (.var 3)) .nil))) ((.cons (.ret (.con (.bl false))) 
    .nil)) .nil) 
  (.cons (.asg (.nm 7) (.cb .list (.cons (.ix (.var 0) (.con (.int 0))) .nil))) 
  (.cons (.asg (.nm 8) (.tp (.cons (.var 7) (.cons (.ix (.var 0) (.con (.int 1))) .nil)))) 
  (.cons (.fr (.nm 9) (.seq (.tp (.cons (.tp (.cons (.con (.str "mix")) (.cons (.b2 .add (.b2 .fdiv (.var 2) (.con (.int 2))) (.con (.int 1))) .nil))) (.cons (.tp (.cons (.con (.str "pass")) (.cons (.con (.int 0)) (.cons (.var 2) .nil)))) (.cons (.tp (.cons (.con (.str "mix")) (.cons (.con (.int 3)) .nil))) .nil))))) ((.cons (.iff (.cm .ne (.cb .repr (.cons (.ls (.cons (.cf 30 (.cons (.var 8) (.cons (.var 1) (.cons (.var 2) .nil)))) (.cons (.cf 29 (.cons (.var 8) (.cons (.var 1) (.cons (.var 2) .nil)))) .nil))) .nil)) (.cb .repr (.cons (.ls (.cons (.var 4) (.cons (.ix (.var 4) (.neg (.con (.int 1)))) .nil))) .nil))) ((.cons (.ret (.con (.bl false))) 
      .nil)) .nil) 
    (.cons (.setl (.var 7) (.neg (.con (.int 1))) (.var 9)) 
    (.cons (.asg (.nm 4) (.cf 31 (.cons (.var 8) (.cons (.var 1) (.cons (.var 2) .nil))))) 
    .nil))))) 
  (.cons (.ret (.cm .eq (.cb .repr (.cons (.ls (.cons (.cf 30 (.cons (.var 8) (.cons (.var 1) (.cons (.var 2) .nil)))) (.cons (.cf 29 (.cons (.var 8) (.cons (.var 1) (.cons (.var 2) .nil)))) .nil))) .nil)) (.cb .repr (.cons (.ls (.cons (.var 4) (.cons (.ix (.var 4) (.neg (.con (.int 1)))) .nil))) .nil)))) 
  .nil))))))))))⟩
def f_law_zigzag : Fn := ⟨2, 5, ((.cons (.asg (.tp [.nm 2, .nm 3]) (.tp (.cons (.ls .nil) (.cons (.var 0) .nil)))) 
  (.cons (.fr (.nm 4) (.rng (.cons (.var 1) .nil)) ((.cons (.asg (.tp [.nm 2, .nm 3]) (.tp (.cons (.b2 .add (.ls (.cons (.tp (.cons (.con (.str "mix")) (.cons (.var 3) .nil))) .nil)) (.var 2)) (.cons (.b2 .mul (.con (.int 2)) (.var 3)) .nil)))) 
    .nil))) 
  (.cons (.ret (.var 2)) 
  .nil))))⟩
def f_law_3 : Fn := ⟨1, 16, ((.cons (.fr (.nm 1) (.rng (.cons (.cb .max (.cons (.con (.int 1)) (.cons (.cb .min (.cons (.con (.int 8)) (.cons (.cb .len (.cons (.var 0) .nil)) .nil))) .nil))) .nil)) ((.cons (.asg (.nm 2) (.cf 12 (.cons (.var 0) (.cons (.var 1) .nil)))) 
    (.cons (.fr (.nm 3) (.rng (.cons (.con (.int 6)) .nil)) ((.cons (.asg (.nm 4) (.ix (.ls (.cons (.con (.int 9)) (.cons (.con (.int 60)) (.cons (.b2 .pow (.con (.int 10)) (.con (.int 38))) .nil)))) (.cf 13 (.cons (.var 2) (.cons (.con (.int 3)) .nil))))) 
      (.cons (.asg (.tp [.nm 5, .nm 6]) (.tp (.cons (.cf 14 (.cons (.var 2) (.cons (.con (.int 8)) (.cons (.var 4) .nil)))) (.cons (.b2 .sub (.cf 13 (.cons (.var 2) (.cons (.b2 .add (.b2 .mul (.con (.int 2)) (.var 4)) (.con (.int 1))) .nil))) (.var 4)) .nil)))) 
      (.cons (.asg (.nm 7) (.b2 .add (.lc [("stage", 8)] (.nm 8) (.seq (.ix (.var 5) (.con (.int 0)))) .no .yes (.cb .abs (.cons (.ix (.var 8) (.con (.int 1))) .nil))) (.ls (.cons (.con (.int 0)) (.cons (.ie (.cmN true (.ix (.var 5) (.con (.int 1)))) (.ix (.var 5) (.con (.int 1))) (.var 4)) .nil))))) 
      (.cons (.asg (.nm 9) (.ls (.cons (.cf 13 (.cons (.var 2) (.cons (.b2 .mul (.con (.int 4)) (.var 4)) .nil))) (.cons (.cf 13 (.cons (.var 2) (.cons (.con (.int 9)) .nil))) (.cons (.b2 .pow (.con (.int 10)) (.con (.int 39))) .nil))))) 
      (.cons (.ex (.mt .append (.var 9) (.cons (.b2 .add (.ix (.var 7) (.cf 13 (.cons (.var 2) (.cons (.cb .len (.cons (.var 7) .nil)) .nil)))) (.cf 13 (.cons (.var 2) (.cons (.con (.int 3)) .nil)))) .nil))) 
      (.cons (.fr (.nm 10) (.seq (.b2 .add (.var 9) (.ls (.cons (.cb .max (.cons (.con (.int 0)) (.cons (.b2 .sub (.b2 .add (.var 6) (.cf 13 (.cons (.var 2) (.cons (.con (.int 9)) .nil)))) (.con (.int 4))) .nil))) .nil)))) ((.cons (.iff (.nt (.v (.cf 33 (.cons (.var 5) (.cons (.var 6) (.cons (.var 10) .nil)))))) ((.cons (.ret (.con (.bl false))) 
          .nil)) .nil) 
        .nil))) 
      .nil)))))))) 
    .nil)))) 
  (.cons (.asg (.nm 11) (.b2 .pow (.con (.int 10)) (.con (.int 30)))) 
  (.cons (.asg (.nm 12) (.lc [("size", 13)] (.nm 13) (.seq (.tp (.cons (.con (.int 128)) (.cons (.con (.int 64)) (.cons (.con (.int 32)) (.cons (.con (.int 16)) (.cons (.con (.int 8)) (.cons (.con (.int 4)) (.cons (.con (.int 2)) (.cons (.con (.int 1)) .nil)))))))))) .no .yes (.b2 .mul (.var 13) (.var 11)))) 
  (.cons (.iff (.cm .ne (.cf 30 (.cons (.tp (.cons (.cf 34 (.cons (.var 11) (.cons (.con (.int 8)) .nil))) (.cons (.con .non) .nil))) (.cons (.con (.int 0)) (.cons (.con (.int 0)) .nil)))) (.var 12)) ((.cons (.ret (.con (.bl false))) 
    .nil)) .nil) 
  (.cons (.iff (.cm .ne (.cf 29 (.cons (.tp (.cons (.cf 34 (.cons (.var 11) (.cons (.con (.int 8)) .nil))) (.cons (.b2 .mul (.con (.int 2)) (.var 11)) .nil))) (.cons (.con (.int 0)) (.cons (.b2 .add (.b2 .mul (.con (.int 257)) (.var 11)) (.con (.int 1))) .nil)))) (.con (.int 1))) ((.cons (.ret (.con (.bl false))) 
    .nil)) .nil) 
  (.cons (.asg (.nm 14) (.ls (.cons (.cf 30 (.cons (.tp (.cons (.ls (.cons (.tp (.cons (.con (.str "mix")) (.cons (.con (.int 5)) .nil))) (.cons (.tp (.cons (.con (.str "mix")) (.cons (.con (.int 2)) .nil))) .nil))) (.cons (.con (.int 4)) .nil))) (.cons (.con (.int 0)) (.cons (.con (.int 11)) .nil)))) (.cons (.cf 30 (.cons (.tp (.cons (.ls (.cons (.tp (.cons (.con (.str "dial")) (.cons (.con (.int 0)) .nil))) (.cons (.tp (.cons (.con (.str "pass")) (.cons (.con (.int 3)) (.cons (.con (.int 6)) .nil)))) .nil))) (.cons (.con (.int 7)) .nil))) (.cons (.con (.int 10)) (.cons (.con (.int 8)) .nil)))) .nil)))) 
  (.cons (.iff (.cm .ne (.var 14) (.ls (.cons (.ls (.cons (.con (.int 6)) (.cons (.con (.int 4)) (.cons (.con (.int 0)) .nil)))) (.cons (.ls (.cons (.con (.int 2)) (.cons (.con .non) (.cons (.con .non) .nil)))) .nil)))) ((.cons (.ret (.con (.bl false))) 
    .nil)) .nil) 
  (.cons (.ret (.cm .eq (.lc [("rate_here", 15)] (.nm 15) (.seq (.tp (.cons (.con (.int 7)) (.cons (.con (.int 2)) (.cons (.con .non) .nil))))) .no .yes (.cf 29 (.cons (.tp (.cons (.ls (.cons (.tp (.cons (.con (.str "mix")) (.cons (.con (.int 0)) .nil))) .nil)) (.cons (.var 15) .nil))) (.cons (.con (.int 0)) (.cons (.b2 .sub (.b2 .pow (.con (.int 10)) (.con (.int 30))) (.con (.int 1))) .nil))))) (.ls (.cons (.con (.int 0)) (.cons (.con (.int 1)) (.cons (.b2 .sub (.b2 .pow (.con (.int 10)) (.con (.int 30))) (.con (.int 1))) .nil)))))) 
  .nil)))))))))⟩
end G4
namespace G4
open PySem
theorem sm_le {i : Int} (n : Nat) (h : i.natAbs < 2 ^ n) (hn : n ≤ 5000) : sm i = true := by
  unfold sm
  rw [decide_eq_true_eq]
  by_cases z : i.natAbs = 0
  · rw [z]; decide
  · exact Nat.lt_of_lt_of_le ((Nat.log2_lt z).mpr h) hn
theorem str_md : decide (("mix" : Str) = ("dial" : Str)) = false := by decide
theorem str_mp : decide (("mix" : Str) = ("pass" : Str)) = false := by decide
theorem str_dm : decide (("dial" : Str) = ("mix" : Str)) = false := by decide
theorem str_dp : decide (("dial" : Str) = ("pass" : Str)) = false := by decide
theorem str_pm : decide (("pass" : Str) = ("mix" : Str)) = false := by decide
theorem str_pd : decide (("pass" : Str) = ("dial" : Str)) = false := by decide
theorem str_mm : decide (("mix" : Str) = ("mix" : Str)) = true := by decide
theorem str_dd : decide (("dial" : Str) = ("dial" : Str)) = true := by decide
theorem str_pp : decide (("pass" : Str) = ("pass" : Str)) = true := by decide

/-! ### receivers -/
inductive Stg where
  | mix (m : Int) | pass (l u : Int) | dial (m : Int)
def Stg.D : Stg → G4.D
  | .mix m => .tup [.str "mix", .int m]
  | .pass l u => .tup [.str "pass", .int l, .int u]
  | .dial m => .tup [.str "dial", .int m]
def oD : Option Int → D
  | none => .non
  | some i => .int i
def absI (i : Int) : Int := if i < 0 then -i else i
def stageTone (d : Int) : Stg → Option Int → Option Int
  | _, none => none
  | .mix m, some t => some (absI (t - m))
  | .dial m, some t => some (absI (t - d - m))
  | .pass l u, some t => if l ≤ t ∧ t ≤ u then some t else none
def sampled : Option Int → Option Int → Option Int
  | none, t => t
  | some _, none => none
  | some r, some t => some (if r - t % r < t % r then r - t % r else t % r)
def tones (ss : List Stg) (d : Int) (t : Option Int) : Option Int := ss.foldl (fun t s => stageTone d s t) t
def Stg.Ok : Stg → Prop
  | .mix m => 0 ≤ m
  | .pass l u => 0 ≤ l ∧ l ≤ u
  | .dial _ => True
def Stg.dl : Stg → Nat
  | .dial _ => 1
  | _ => 0
def dials (ss : List Stg) : Nat := (ss.map Stg.dl).sum
structure RcvOk (ss : List Stg) (rate : Option Int) : Prop where
  ok : ∀ s ∈ ss, s.Ok
  one : 1 ≤ ss.length
  most : ss.length ≤ 8
  dl : dials ss ≤ 1
  rt : ∀ r, rate = some r → 2 ≤ r

section
variable {T : Tab} {k : Nat} {h : Hv}
theorem S_stage_tone (t : T 22 = some f_stage_tone) (s : Stg) (d : Int) (x : Option Int) : den T (k + 1) 22 [s.D, .int d, oD x] h = .ok (oD (stageTone d s x)) h := by
  rw [den_fn t rfl]
  cases x with
  | none => simp only [f_stage_tone, bind_ok, stm_ok, seq_nx, seq_rt, seq_bk, seq_ct, fin_nx, fin_rt, getS_0, getS_s, ofO_s, ofB_s, ofT_s, negD_i, isN_n, isN_i, isN_t, isN_r, isN_s, isN_b, notD_b, ooR_i, asgR_s, seqI_t, kb2_, kcm'_, kcm_, kcmN_, chE_t, chE_f, kch2_, kch_, boC_tt, boC_tf, boC_ft, boC_ff, kbo_, kie_t, kie_f, kix_, ksl2_, ksl_, kck2_, kck_, kmt_, kisi_, klc_, kA2_, kA_, kst2_, kst_t, kT_, kcmT'_, kcmT_, kcmNT_, chT_t, chT_f, kchT2_, kchT_, kTs_tt, kTs_tf, kTs_ft, kTs_ff, kntT_, kzip_, kasg_, kset2_, kset_, kaug3_, kaug2_, kaug_s, kex_, kret_, kiff_t, kiff_f, kfr_, ev_var, ev_con, ev_glo, ev_b2, ev_neg, ev_cm, ev_cmN, ev_ch, ev_bo, evB_1, evB_2, ev_nt, ev_ie, ev_tp, ev_ls, ev_ix, ev_sl, ev_cf, ev_ck, ev_cb, ev_mt, ev_isi, ev_lc, evA_n, evA_c, evA_s, evO_n, evO_s, evT_v, evT_cm, evT_cmN, evT_ch, evT_bo, evT_nt, evT_y, evTs_1, evTs_2, evI_s, evI_r, evI_e, evI_z, ex_asg, ex_setl, ex_aug, ex_ex, ex_ret, ex_retn, ex_iff, ex_wh, ex_fr, ex_br, ex_ct, ex_ps, ex_n, ex_c, asG_n, asG_t, obs_s, asGs_n, asGs_c, frB_, frR_s, lcB_, lcR_s, klB2_, klB_t, klB_f, wipeS_n, wipeS_c, add_i, sub_i, ipadd_i, ipsub_i, eq_i, eq_s, eq_b, eq_ni, eq_in, eq_nn, ne_i, ne_s, ne_ni, ne_in, ne_nn, lt_i, le_i, gt_i, ge_i, tru_b, tru_i, tru_n, tru_t, it0, it1, it2, it3, abs_i, max_i, min_i, len_t0, len_t1, len_t2, len_t3, int_i, tupR_0, tupR_1, tupR_2, tupR_3, tupR_4, tupR_8, mk_0, mk_1, mk_2, mk_3, mk_4, mk_6, int_b, list_t, List.map_cons, List.map_nil, List.replicate_succ, List.replicate_zero, Nat.reduceSub, Nat.reduceAdd, List.cons_append, List.nil_append, List.set_cons_zero, List.set_cons_succ, Ty.has, Bool.not_true, Bool.not_false, decide_true, decide_false, oD, stageTone]
  | some x =>
    cases s with
    | mix m => simp only [f_stage_tone, bind_ok, stm_ok, seq_nx, seq_rt, seq_bk, seq_ct, fin_nx, fin_rt, getS_0, getS_s, ofO_s, ofB_s, ofT_s, negD_i, isN_n, isN_i, isN_t, isN_r, isN_s, isN_b, notD_b, ooR_i, asgR_s, seqI_t, kb2_, kcm'_, kcm_, kcmN_, chE_t, chE_f, kch2_, kch_, boC_tt, boC_tf, boC_ft, boC_ff, kbo_, kie_t, kie_f, kix_, ksl2_, ksl_, kck2_, kck_, kmt_, kisi_, klc_, kA2_, kA_, kst2_, kst_t, kT_, kcmT'_, kcmT_, kcmNT_, chT_t, chT_f, kchT2_, kchT_, kTs_tt, kTs_tf, kTs_ft, kTs_ff, kntT_, kzip_, kasg_, kset2_, kset_, kaug3_, kaug2_, kaug_s, kex_, kret_, kiff_t, kiff_f, kfr_, ev_var, ev_con, ev_glo, ev_b2, ev_neg, ev_cm, ev_cmN, ev_ch, ev_bo, evB_1, evB_2, ev_nt, ev_ie, ev_tp, ev_ls, ev_ix, ev_sl, ev_cf, ev_ck, ev_cb, ev_mt, ev_isi, ev_lc, evA_n, evA_c, evA_s, evO_n, evO_s, evT_v, evT_cm, evT_cmN, evT_ch, evT_bo, evT_nt, evT_y, evTs_1, evTs_2, evI_s, evI_r, evI_e, evI_z, ex_asg, ex_setl, ex_aug, ex_ex, ex_ret, ex_retn, ex_iff, ex_wh, ex_fr, ex_br, ex_ct, ex_ps, ex_n, ex_c, asG_n, asG_t, obs_s, asGs_n, asGs_c, frB_, frR_s, lcB_, lcR_s, klB2_, klB_t, klB_f, wipeS_n, wipeS_c, add_i, sub_i, ipadd_i, ipsub_i, eq_i, eq_s, eq_b, eq_ni, eq_in, eq_nn, ne_i, ne_s, ne_ni, ne_in, ne_nn, lt_i, le_i, gt_i, ge_i, tru_b, tru_i, tru_n, tru_t, it0, it1, it2, it3, abs_i, max_i, min_i, len_t0, len_t1, len_t2, len_t3, int_i, tupR_0, tupR_1, tupR_2, tupR_3, tupR_4, tupR_8, mk_0, mk_1, mk_2, mk_3, mk_4, mk_6, int_b, list_t, List.map_cons, List.map_nil, List.replicate_succ, List.replicate_zero, Nat.reduceSub, Nat.reduceAdd, List.cons_append, List.nil_append, List.set_cons_zero, List.set_cons_succ, Ty.has, Bool.not_true, Bool.not_false, decide_true, decide_false, oD, stageTone, Stg.D, str_mm, absI]
    | dial m => simp only [f_stage_tone, bind_ok, stm_ok, seq_nx, seq_rt, seq_bk, seq_ct, fin_nx, fin_rt, getS_0, getS_s, ofO_s, ofB_s, ofT_s, negD_i, isN_n, isN_i, isN_t, isN_r, isN_s, isN_b, notD_b, ooR_i, asgR_s, seqI_t, kb2_, kcm'_, kcm_, kcmN_, chE_t, chE_f, kch2_, kch_, boC_tt, boC_tf, boC_ft, boC_ff, kbo_, kie_t, kie_f, kix_, ksl2_, ksl_, kck2_, kck_, kmt_, kisi_, klc_, kA2_, kA_, kst2_, kst_t, kT_, kcmT'_, kcmT_, kcmNT_, chT_t, chT_f, kchT2_, kchT_, kTs_tt, kTs_tf, kTs_ft, kTs_ff, kntT_, kzip_, kasg_, kset2_, kset_, kaug3_, kaug2_, kaug_s, kex_, kret_, kiff_t, kiff_f, kfr_, ev_var, ev_con, ev_glo, ev_b2, ev_neg, ev_cm, ev_cmN, ev_ch, ev_bo, evB_1, evB_2, ev_nt, ev_ie, ev_tp, ev_ls, ev_ix, ev_sl, ev_cf, ev_ck, ev_cb, ev_mt, ev_isi, ev_lc, evA_n, evA_c, evA_s, evO_n, evO_s, evT_v, evT_cm, evT_cmN, evT_ch, evT_bo, evT_nt, evT_y, evTs_1, evTs_2, evI_s, evI_r, evI_e, evI_z, ex_asg, ex_setl, ex_aug, ex_ex, ex_ret, ex_retn, ex_iff, ex_wh, ex_fr, ex_br, ex_ct, ex_ps, ex_n, ex_c, asG_n, asG_t, obs_s, asGs_n, asGs_c, frB_, frR_s, lcB_, lcR_s, klB2_, klB_t, klB_f, wipeS_n, wipeS_c, add_i, sub_i, ipadd_i, ipsub_i, eq_i, eq_s, eq_b, eq_ni, eq_in, eq_nn, ne_i, ne_s, ne_ni, ne_in, ne_nn, lt_i, le_i, gt_i, ge_i, tru_b, tru_i, tru_n, tru_t, it0, it1, it2, it3, abs_i, max_i, min_i, len_t0, len_t1, len_t2, len_t3, int_i, tupR_0, tupR_1, tupR_2, tupR_3, tupR_4, tupR_8, mk_0, mk_1, mk_2, mk_3, mk_4, mk_6, int_b, list_t, List.map_cons, List.map_nil, List.replicate_succ, List.replicate_zero, Nat.reduceSub, Nat.reduceAdd, List.cons_append, List.nil_append, List.set_cons_zero, List.set_cons_succ, Ty.has, Bool.not_true, Bool.not_false, decide_true, decide_false, oD, stageTone, Stg.D, str_dm, str_dd, absI]
    | pass l u =>
      simp only [f_stage_tone, bind_ok, stm_ok, seq_nx, seq_rt, seq_bk, seq_ct, fin_nx, fin_rt, getS_0, getS_s, ofO_s, ofB_s, ofT_s, negD_i, isN_n, isN_i, isN_t, isN_r, isN_s, isN_b, notD_b, ooR_i, asgR_s, seqI_t, kb2_, kcm'_, kcm_, kcmN_, chE_t, chE_f, kch2_, kch_, boC_tt, boC_tf, boC_ft, boC_ff, kbo_, kie_t, kie_f, kix_, ksl2_, ksl_, kck2_, kck_, kmt_, kisi_, klc_, kA2_, kA_, kst2_, kst_t, kT_, kcmT'_, kcmT_, kcmNT_, chT_t, chT_f, kchT2_, kchT_, kTs_tt, kTs_tf, kTs_ft, kTs_ff, kntT_, kzip_, kasg_, kset2_, kset_, kaug3_, kaug2_, kaug_s, kex_, kret_, kiff_t, kiff_f, kfr_, ev_var, ev_con, ev_glo, ev_b2, ev_neg, ev_cm, ev_cmN, ev_ch, ev_bo, evB_1, evB_2, ev_nt, ev_ie, ev_tp, ev_ls, ev_ix, ev_sl, ev_cf, ev_ck, ev_cb, ev_mt, ev_isi, ev_lc, evA_n, evA_c, evA_s, evO_n, evO_s, evT_v, evT_cm, evT_cmN, evT_ch, evT_bo, evT_nt, evT_y, evTs_1, evTs_2, evI_s, evI_r, evI_e, evI_z, ex_asg, ex_setl, ex_aug, ex_ex, ex_ret, ex_retn, ex_iff, ex_wh, ex_fr, ex_br, ex_ct, ex_ps, ex_n, ex_c, asG_n, asG_t, obs_s, asGs_n, asGs_c, frB_, frR_s, lcB_, lcR_s, klB2_, klB_t, klB_f, wipeS_n, wipeS_c, add_i, sub_i, ipadd_i, ipsub_i, eq_i, eq_s, eq_b, eq_ni, eq_in, eq_nn, ne_i, ne_s, ne_ni, ne_in, ne_nn, lt_i, le_i, gt_i, ge_i, tru_b, tru_i, tru_n, tru_t, it0, it1, it2, it3, abs_i, max_i, min_i, len_t0, len_t1, len_t2, len_t3, int_i, tupR_0, tupR_1, tupR_2, tupR_3, tupR_4, tupR_8, mk_0, mk_1, mk_2, mk_3, mk_4, mk_6, int_b, list_t, List.map_cons, List.map_nil, List.replicate_succ, List.replicate_zero, Nat.reduceSub, Nat.reduceAdd, List.cons_append, List.nil_append, List.set_cons_zero, List.set_cons_succ, Ty.has, Bool.not_true, Bool.not_false, decide_true, decide_false, oD, stageTone, Stg.D, str_pm, str_pd]
      by_cases h1 : l ≤ x
      · by_cases h2 : x ≤ u
        · simp only [h1, h2, decide_true, bind_ok, stm_ok, seq_nx, seq_rt, seq_bk, seq_ct, fin_nx, fin_rt, getS_0, getS_s, ofO_s, ofB_s, ofT_s, negD_i, isN_n, isN_i, isN_t, isN_r, isN_s, isN_b, notD_b, ooR_i, asgR_s, seqI_t, kb2_, kcm'_, kcm_, kcmN_, chE_t, chE_f, kch2_, kch_, boC_tt, boC_tf, boC_ft, boC_ff, kbo_, kie_t, kie_f, kix_, ksl2_, ksl_, kck2_, kck_, kmt_, kisi_, klc_, kA2_, kA_, kst2_, kst_t, kT_, kcmT'_, kcmT_, kcmNT_, chT_t, chT_f, kchT2_, kchT_, kTs_tt, kTs_tf, kTs_ft, kTs_ff, kntT_, kzip_, kasg_, kset2_, kset_, kaug3_, kaug2_, kaug_s, kex_, kret_, kiff_t, kiff_f, kfr_, ev_var, ev_con, ev_glo, ev_b2, ev_neg, ev_cm, ev_cmN, ev_ch, ev_bo, evB_1, evB_2, ev_nt, ev_ie, ev_tp, ev_ls, ev_ix, ev_sl, ev_cf, ev_ck, ev_cb, ev_mt, ev_isi, ev_lc, evA_n, evA_c, evA_s, evO_n, evO_s, evT_v, evT_cm, evT_cmN, evT_ch, evT_bo, evT_nt, evT_y, evTs_1, evTs_2, evI_s, evI_r, evI_e, evI_z, ex_asg, ex_setl, ex_aug, ex_ex, ex_ret, ex_retn, ex_iff, ex_wh, ex_fr, ex_br, ex_ct, ex_ps, ex_n, ex_c, asG_n, asG_t, obs_s, asGs_n, asGs_c, frB_, frR_s, lcB_, lcR_s, klB2_, klB_t, klB_f, wipeS_n, wipeS_c, add_i, sub_i, ipadd_i, ipsub_i, eq_i, eq_s, eq_b, eq_ni, eq_in, eq_nn, ne_i, ne_s, ne_ni, ne_in, ne_nn, lt_i, le_i, gt_i, ge_i, tru_b, tru_i, tru_n, tru_t, it0, it1, it2, it3, abs_i, max_i, min_i, len_t0, len_t1, len_t2, len_t3, int_i, tupR_0, tupR_1, tupR_2, tupR_3, tupR_4, tupR_8, mk_0, mk_1, mk_2, mk_3, mk_4, mk_6, int_b, list_t, List.map_cons, List.map_nil, List.replicate_succ, List.replicate_zero, Nat.reduceSub, Nat.reduceAdd, List.cons_append, List.nil_append, List.set_cons_zero, List.set_cons_succ, Ty.has, Bool.not_true, Bool.not_false, decide_true, decide_false, and_self, if_true, oD]
        · simp only [h1, h2, decide_true, decide_false, bind_ok, stm_ok, seq_nx, seq_rt, seq_bk, seq_ct, fin_nx, fin_rt, getS_0, getS_s, ofO_s, ofB_s, ofT_s, negD_i, isN_n, isN_i, isN_t, isN_r, isN_s, isN_b, notD_b, ooR_i, asgR_s, seqI_t, kb2_, kcm'_, kcm_, kcmN_, chE_t, chE_f, kch2_, kch_, boC_tt, boC_tf, boC_ft, boC_ff, kbo_, kie_t, kie_f, kix_, ksl2_, ksl_, kck2_, kck_, kmt_, kisi_, klc_, kA2_, kA_, kst2_, kst_t, kT_, kcmT'_, kcmT_, kcmNT_, chT_t, chT_f, kchT2_, kchT_, kTs_tt, kTs_tf, kTs_ft, kTs_ff, kntT_, kzip_, kasg_, kset2_, kset_, kaug3_, kaug2_, kaug_s, kex_, kret_, kiff_t, kiff_f, kfr_, ev_var, ev_con, ev_glo, ev_b2, ev_neg, ev_cm, ev_cmN, ev_ch, ev_bo, evB_1, evB_2, ev_nt, ev_ie, ev_tp, ev_ls, ev_ix, ev_sl, ev_cf, ev_ck, ev_cb, ev_mt, ev_isi, ev_lc, evA_n, evA_c, evA_s, evO_n, evO_s, evT_v, evT_cm, evT_cmN, evT_ch, evT_bo, evT_nt, evT_y, evTs_1, evTs_2, evI_s, evI_r, evI_e, evI_z, ex_asg, ex_setl, ex_aug, ex_ex, ex_ret, ex_retn, ex_iff, ex_wh, ex_fr, ex_br, ex_ct, ex_ps, ex_n, ex_c, asG_n, asG_t, obs_s, asGs_n, asGs_c, frB_, frR_s, lcB_, lcR_s, klB2_, klB_t, klB_f, wipeS_n, wipeS_c, add_i, sub_i, ipadd_i, ipsub_i, eq_i, eq_s, eq_b, eq_ni, eq_in, eq_nn, ne_i, ne_s, ne_ni, ne_in, ne_nn, lt_i, le_i, gt_i, ge_i, tru_b, tru_i, tru_n, tru_t, it0, it1, it2, it3, abs_i, max_i, min_i, len_t0, len_t1, len_t2, len_t3, int_i, tupR_0, tupR_1, tupR_2, tupR_3, tupR_4, tupR_8, mk_0, mk_1, mk_2, mk_3, mk_4, mk_6, int_b, list_t, List.map_cons, List.map_nil, List.replicate_succ, List.replicate_zero, Nat.reduceSub, Nat.reduceAdd, List.cons_append, List.nil_append, List.set_cons_zero, List.set_cons_succ, Ty.has, Bool.not_true, Bool.not_false, decide_true, decide_false, and_false, if_false, oD]
      · simp only [h1, decide_false, bind_ok, stm_ok, seq_nx, seq_rt, seq_bk, seq_ct, fin_nx, fin_rt, getS_0, getS_s, ofO_s, ofB_s, ofT_s, negD_i, isN_n, isN_i, isN_t, isN_r, isN_s, isN_b, notD_b, ooR_i, asgR_s, seqI_t, kb2_, kcm'_, kcm_, kcmN_, chE_t, chE_f, kch2_, kch_, boC_tt, boC_tf, boC_ft, boC_ff, kbo_, kie_t, kie_f, kix_, ksl2_, ksl_, kck2_, kck_, kmt_, kisi_, klc_, kA2_, kA_, kst2_, kst_t, kT_, kcmT'_, kcmT_, kcmNT_, chT_t, chT_f, kchT2_, kchT_, kTs_tt, kTs_tf, kTs_ft, kTs_ff, kntT_, kzip_, kasg_, kset2_, kset_, kaug3_, kaug2_, kaug_s, kex_, kret_, kiff_t, kiff_f, kfr_, ev_var, ev_con, ev_glo, ev_b2, ev_neg, ev_cm, ev_cmN, ev_ch, ev_bo, evB_1, evB_2, ev_nt, ev_ie, ev_tp, ev_ls, ev_ix, ev_sl, ev_cf, ev_ck, ev_cb, ev_mt, ev_isi, ev_lc, evA_n, evA_c, evA_s, evO_n, evO_s, evT_v, evT_cm, evT_cmN, evT_ch, evT_bo, evT_nt, evT_y, evTs_1, evTs_2, evI_s, evI_r, evI_e, evI_z, ex_asg, ex_setl, ex_aug, ex_ex, ex_ret, ex_retn, ex_iff, ex_wh, ex_fr, ex_br, ex_ct, ex_ps, ex_n, ex_c, asG_n, asG_t, obs_s, asGs_n, asGs_c, frB_, frR_s, lcB_, lcR_s, klB2_, klB_t, klB_f, wipeS_n, wipeS_c, add_i, sub_i, ipadd_i, ipsub_i, eq_i, eq_s, eq_b, eq_ni, eq_in, eq_nn, ne_i, ne_s, ne_ni, ne_in, ne_nn, lt_i, le_i, gt_i, ge_i, tru_b, tru_i, tru_n, tru_t, it0, it1, it2, it3, abs_i, max_i, min_i, len_t0, len_t1, len_t2, len_t3, int_i, tupR_0, tupR_1, tupR_2, tupR_3, tupR_4, tupR_8, mk_0, mk_1, mk_2, mk_3, mk_4, mk_6, int_b, list_t, List.map_cons, List.map_nil, List.replicate_succ, List.replicate_zero, Nat.reduceSub, Nat.reduceAdd, List.cons_append, List.nil_append, List.set_cons_zero, List.set_cons_succ, Ty.has, Bool.not_true, Bool.not_false, decide_true, decide_false, false_and, if_false, oD]
theorem S_sampled (t : T 23 = some f_sampled_tone) (rate x : Option Int) (hr : ∀ r, rate = some r → 0 < r) : den T (k + 1) 23 [oD rate, oD x] h = .ok (oD (sampled rate x)) h := by
  rw [den_fn t rfl]
  cases rate with
  | none => simp only [f_sampled_tone, bind_ok, stm_ok, seq_nx, seq_rt, seq_bk, seq_ct, fin_nx, fin_rt, getS_0, getS_s, ofO_s, ofB_s, ofT_s, negD_i, isN_n, isN_i, isN_t, isN_r, isN_s, isN_b, notD_b, ooR_i, asgR_s, seqI_t, kb2_, kcm'_, kcm_, kcmN_, chE_t, chE_f, kch2_, kch_, boC_tt, boC_tf, boC_ft, boC_ff, kbo_, kie_t, kie_f, kix_, ksl2_, ksl_, kck2_, kck_, kmt_, kisi_, klc_, kA2_, kA_, kst2_, kst_t, kT_, kcmT'_, kcmT_, kcmNT_, chT_t, chT_f, kchT2_, kchT_, kTs_tt, kTs_tf, kTs_ft, kTs_ff, kntT_, kzip_, kasg_, kset2_, kset_, kaug3_, kaug2_, kaug_s, kex_, kret_, kiff_t, kiff_f, kfr_, ev_var, ev_con, ev_glo, ev_b2, ev_neg, ev_cm, ev_cmN, ev_ch, ev_bo, evB_1, evB_2, ev_nt, ev_ie, ev_tp, ev_ls, ev_ix, ev_sl, ev_cf, ev_ck, ev_cb, ev_mt, ev_isi, ev_lc, evA_n, evA_c, evA_s, evO_n, evO_s, evT_v, evT_cm, evT_cmN, evT_ch, evT_bo, evT_nt, evT_y, evTs_1, evTs_2, evI_s, evI_r, evI_e, evI_z, ex_asg, ex_setl, ex_aug, ex_ex, ex_ret, ex_retn, ex_iff, ex_wh, ex_fr, ex_br, ex_ct, ex_ps, ex_n, ex_c, asG_n, asG_t, obs_s, asGs_n, asGs_c, frB_, frR_s, lcB_, lcR_s, klB2_, klB_t, klB_f, wipeS_n, wipeS_c, add_i, sub_i, ipadd_i, ipsub_i, eq_i, eq_s, eq_b, eq_ni, eq_in, eq_nn, ne_i, ne_s, ne_ni, ne_in, ne_nn, lt_i, le_i, gt_i, ge_i, tru_b, tru_i, tru_n, tru_t, it0, it1, it2, it3, abs_i, max_i, min_i, len_t0, len_t1, len_t2, len_t3, int_i, tupR_0, tupR_1, tupR_2, tupR_3, tupR_4, tupR_8, mk_0, mk_1, mk_2, mk_3, mk_4, mk_6, int_b, list_t, List.map_cons, List.map_nil, List.replicate_succ, List.replicate_zero, Nat.reduceSub, Nat.reduceAdd, List.cons_append, List.nil_append, List.set_cons_zero, List.set_cons_succ, Ty.has, Bool.not_true, Bool.not_false, decide_true, decide_false, oD, sampled]
  | some r =>
    cases x with
    | none => simp only [f_sampled_tone, bind_ok, stm_ok, seq_nx, seq_rt, seq_bk, seq_ct, fin_nx, fin_rt, getS_0, getS_s, ofO_s, ofB_s, ofT_s, negD_i, isN_n, isN_i, isN_t, isN_r, isN_s, isN_b, notD_b, ooR_i, asgR_s, seqI_t, kb2_, kcm'_, kcm_, kcmN_, chE_t, chE_f, kch2_, kch_, boC_tt, boC_tf, boC_ft, boC_ff, kbo_, kie_t, kie_f, kix_, ksl2_, ksl_, kck2_, kck_, kmt_, kisi_, klc_, kA2_, kA_, kst2_, kst_t, kT_, kcmT'_, kcmT_, kcmNT_, chT_t, chT_f, kchT2_, kchT_, kTs_tt, kTs_tf, kTs_ft, kTs_ff, kntT_, kzip_, kasg_, kset2_, kset_, kaug3_, kaug2_, kaug_s, kex_, kret_, kiff_t, kiff_f, kfr_, ev_var, ev_con, ev_glo, ev_b2, ev_neg, ev_cm, ev_cmN, ev_ch, ev_bo, evB_1, evB_2, ev_nt, ev_ie, ev_tp, ev_ls, ev_ix, ev_sl, ev_cf, ev_ck, ev_cb, ev_mt, ev_isi, ev_lc, evA_n, evA_c, evA_s, evO_n, evO_s, evT_v, evT_cm, evT_cmN, evT_ch, evT_bo, evT_nt, evT_y, evTs_1, evTs_2, evI_s, evI_r, evI_e, evI_z, ex_asg, ex_setl, ex_aug, ex_ex, ex_ret, ex_retn, ex_iff, ex_wh, ex_fr, ex_br, ex_ct, ex_ps, ex_n, ex_c, asG_n, asG_t, obs_s, asGs_n, asGs_c, frB_, frR_s, lcB_, lcR_s, klB2_, klB_t, klB_f, wipeS_n, wipeS_c, add_i, sub_i, ipadd_i, ipsub_i, eq_i, eq_s, eq_b, eq_ni, eq_in, eq_nn, ne_i, ne_s, ne_ni, ne_in, ne_nn, lt_i, le_i, gt_i, ge_i, tru_b, tru_i, tru_n, tru_t, it0, it1, it2, it3, abs_i, max_i, min_i, len_t0, len_t1, len_t2, len_t3, int_i, tupR_0, tupR_1, tupR_2, tupR_3, tupR_4, tupR_8, mk_0, mk_1, mk_2, mk_3, mk_4, mk_6, int_b, list_t, List.map_cons, List.map_nil, List.replicate_succ, List.replicate_zero, Nat.reduceSub, Nat.reduceAdd, List.cons_append, List.nil_append, List.set_cons_zero, List.set_cons_succ, Ty.has, Bool.not_true, Bool.not_false, decide_true, decide_false, oD, sampled]
    | some x =>
      have := hr r rfl
      simp only [f_sampled_tone, bind_ok, stm_ok, seq_nx, seq_rt, seq_bk, seq_ct, fin_nx, fin_rt, getS_0, getS_s, ofO_s, ofB_s, ofT_s, negD_i, isN_n, isN_i, isN_t, isN_r, isN_s, isN_b, notD_b, ooR_i, asgR_s, seqI_t, kb2_, kcm'_, kcm_, kcmN_, chE_t, chE_f, kch2_, kch_, boC_tt, boC_tf, boC_ft, boC_ff, kbo_, kie_t, kie_f, kix_, ksl2_, ksl_, kck2_, kck_, kmt_, kisi_, klc_, kA2_, kA_, kst2_, kst_t, kT_, kcmT'_, kcmT_, kcmNT_, chT_t, chT_f, kchT2_, kchT_, kTs_tt, kTs_tf, kTs_ft, kTs_ff, kntT_, kzip_, kasg_, kset2_, kset_, kaug3_, kaug2_, kaug_s, kex_, kret_, kiff_t, kiff_f, kfr_, ev_var, ev_con, ev_glo, ev_b2, ev_neg, ev_cm, ev_cmN, ev_ch, ev_bo, evB_1, evB_2, ev_nt, ev_ie, ev_tp, ev_ls, ev_ix, ev_sl, ev_cf, ev_ck, ev_cb, ev_mt, ev_isi, ev_lc, evA_n, evA_c, evA_s, evO_n, evO_s, evT_v, evT_cm, evT_cmN, evT_ch, evT_bo, evT_nt, evT_y, evTs_1, evTs_2, evI_s, evI_r, evI_e, evI_z, ex_asg, ex_setl, ex_aug, ex_ex, ex_ret, ex_retn, ex_iff, ex_wh, ex_fr, ex_br, ex_ct, ex_ps, ex_n, ex_c, asG_n, asG_t, obs_s, asGs_n, asGs_c, frB_, frR_s, lcB_, lcR_s, klB2_, klB_t, klB_f, wipeS_n, wipeS_c, add_i, sub_i, ipadd_i, ipsub_i, eq_i, eq_s, eq_b, eq_ni, eq_in, eq_nn, ne_i, ne_s, ne_ni, ne_in, ne_nn, lt_i, le_i, gt_i, ge_i, tru_b, tru_i, tru_n, tru_t, it0, it1, it2, it3, abs_i, max_i, min_i, len_t0, len_t1, len_t2, len_t3, int_i, tupR_0, tupR_1, tupR_2, tupR_3, tupR_4, tupR_8, mk_0, mk_1, mk_2, mk_3, mk_4, mk_6, int_b, list_t, List.map_cons, List.map_nil, List.replicate_succ, List.replicate_zero, Nat.reduceSub, Nat.reduceAdd, List.cons_append, List.nil_append, List.set_cons_zero, List.set_cons_succ, Ty.has, Bool.not_true, Bool.not_false, decide_true, decide_false, oD, sampled, mod_i this]
theorem nxt_lst {α : Type} {a : Nat} {xs : List α} {enc : α → D} (e : h.get a = some (xs.map enc)) : ∀ i, It.nxt (.lst a) i h = some ((xs.map enc)[i]?) := fun i => by simp only [It.nxt, e]
theorem S_tone_of (t0 : T 22 = some f_stage_tone) (t1 : T 23 = some f_sampled_tone) (t : T 24 = some f_tone_of) {a : Nat} {ss : List Stg} (rate : Option Int) (d s : Int) (hs : h.get a = some (ss.map Stg.D)) (hl : ss.length ≤ 100) (hr : ∀ r, rate = some r → 0 < r) :
    den T (k + 2) 24 [.tup [.ref a, oD rate], .int d, .int s] h = .ok (oD (sampled rate (tones ss d (some s)))) h := by
  rw [den_fn t rfl]
  simp only [f_tone_of, bind_ok, stm_ok, seq_nx, seq_rt, seq_bk, seq_ct, fin_nx, fin_rt, getS_0, getS_s, ofO_s, ofB_s, ofT_s, negD_i, isN_n, isN_i, isN_t, isN_r, isN_s, isN_b, notD_b, ooR_i, asgR_s, seqI_t, kb2_, kcm'_, kcm_, kcmN_, chE_t, chE_f, kch2_, kch_, boC_tt, boC_tf, boC_ft, boC_ff, kbo_, kie_t, kie_f, kix_, ksl2_, ksl_, kck2_, kck_, kmt_, kisi_, klc_, kA2_, kA_, kst2_, kst_t, kT_, kcmT'_, kcmT_, kcmNT_, chT_t, chT_f, kchT2_, kchT_, kTs_tt, kTs_tf, kTs_ft, kTs_ff, kntT_, kzip_, kasg_, kset2_, kset_, kaug3_, kaug2_, kaug_s, kex_, kret_, kiff_t, kiff_f, kfr_, ev_var, ev_con, ev_glo, ev_b2, ev_neg, ev_cm, ev_cmN, ev_ch, ev_bo, evB_1, evB_2, ev_nt, ev_ie, ev_tp, ev_ls, ev_ix, ev_sl, ev_cf, ev_ck, ev_cb, ev_mt, ev_isi, ev_lc, evA_n, evA_c, evA_s, evO_n, evO_s, evT_v, evT_cm, evT_cmN, evT_ch, evT_bo, evT_nt, evT_y, evTs_1, evTs_2, evI_s, evI_r, evI_e, evI_z, ex_asg, ex_setl, ex_aug, ex_ex, ex_ret, ex_retn, ex_iff, ex_wh, ex_fr, ex_br, ex_ct, ex_ps, ex_n, ex_c, asG_n, asG_t, obs_s, asGs_n, asGs_c, frB_, frR_s, lcB_, lcR_s, klB2_, klB_t, klB_f, wipeS_n, wipeS_c, add_i, sub_i, ipadd_i, ipsub_i, eq_i, eq_s, eq_b, eq_ni, eq_in, eq_nn, ne_i, ne_s, ne_ni, ne_in, ne_nn, lt_i, le_i, gt_i, ge_i, tru_b, tru_i, tru_n, tru_t, it0, it1, it2, it3, abs_i, max_i, min_i, len_t0, len_t1, len_t2, len_t3, int_i, tupR_0, tupR_1, tupR_2, tupR_3, tupR_4, tupR_8, mk_0, mk_1, mk_2, mk_3, mk_4, mk_6, int_b, list_t, List.map_cons, List.map_nil, List.replicate_succ, List.replicate_zero, Nat.reduceSub, Nat.reduceAdd, List.cons_append, List.nil_append, List.set_cons_zero, List.set_cons_succ, Ty.has, Bool.not_true, Bool.not_false, decide_true, decide_false, seqI_r hs]
  have := forL_fold0 (nxt := It.nxt (.lst a)) (bod := frB (den T (k + 1)) (.nm 6) (.cons (.asg (.nm 5) (.cf 22 (.cons (.var 6) (.cons (.var 1) (.cons (.var 5) .nil))))) .nil)) (h := h) Stg.D
    (fun (p : Option Int × Option D) => [some (.tup [.ref a, oD rate]), some (.int d), some (.int s), some (.ref a), some (oD rate), some (oD p.1), p.2]) (fun p s => (stageTone d s p.1, some s.D)) ss (some s, none) (nxt_lst hs)
    (fun s _ p => by
      simp only [bind_ok, stm_ok, seq_nx, seq_rt, seq_bk, seq_ct, fin_nx, fin_rt, getS_0, getS_s, ofO_s, ofB_s, ofT_s, negD_i, isN_n, isN_i, isN_t, isN_r, isN_s, isN_b, notD_b, ooR_i, asgR_s, seqI_t, kb2_, kcm'_, kcm_, kcmN_, chE_t, chE_f, kch2_, kch_, boC_tt, boC_tf, boC_ft, boC_ff, kbo_, kie_t, kie_f, kix_, ksl2_, ksl_, kck2_, kck_, kmt_, kisi_, klc_, kA2_, kA_, kst2_, kst_t, kT_, kcmT'_, kcmT_, kcmNT_, chT_t, chT_f, kchT2_, kchT_, kTs_tt, kTs_tf, kTs_ft, kTs_ff, kntT_, kzip_, kasg_, kset2_, kset_, kaug3_, kaug2_, kaug_s, kex_, kret_, kiff_t, kiff_f, kfr_, ev_var, ev_con, ev_glo, ev_b2, ev_neg, ev_cm, ev_cmN, ev_ch, ev_bo, evB_1, evB_2, ev_nt, ev_ie, ev_tp, ev_ls, ev_ix, ev_sl, ev_cf, ev_ck, ev_cb, ev_mt, ev_isi, ev_lc, evA_n, evA_c, evA_s, evO_n, evO_s, evT_v, evT_cm, evT_cmN, evT_ch, evT_bo, evT_nt, evT_y, evTs_1, evTs_2, evI_s, evI_r, evI_e, evI_z, ex_asg, ex_setl, ex_aug, ex_ex, ex_ret, ex_retn, ex_iff, ex_wh, ex_fr, ex_br, ex_ct, ex_ps, ex_n, ex_c, asG_n, asG_t, obs_s, asGs_n, asGs_c, frB_, frR_s, lcB_, lcR_s, klB2_, klB_t, klB_f, wipeS_n, wipeS_c, add_i, sub_i, ipadd_i, ipsub_i, eq_i, eq_s, eq_b, eq_ni, eq_in, eq_nn, ne_i, ne_s, ne_ni, ne_in, ne_nn, lt_i, le_i, gt_i, ge_i, tru_b, tru_i, tru_n, tru_t, it0, it1, it2, it3, abs_i, max_i, min_i, len_t0, len_t1, len_t2, len_t3, int_i, tupR_0, tupR_1, tupR_2, tupR_3, tupR_4, tupR_8, mk_0, mk_1, mk_2, mk_3, mk_4, mk_6, int_b, list_t, List.map_cons, List.map_nil, List.replicate_succ, List.replicate_zero, Nat.reduceSub, Nat.reduceAdd, List.cons_append, List.nil_append, List.set_cons_zero, List.set_cons_succ, Ty.has, Bool.not_true, Bool.not_false, decide_true, decide_false, S_stage_tone t0]) (by unfold turns; omega)
  have e2 : ∀ (l : List Stg) (p : Option Int × Option D), (l.foldl (fun (p : Option Int × Option D) s => (stageTone d s p.1, some s.D)) p).1 = tones l d p.1 := fun l => by
    induction l with
    | nil => intro p; rfl
    | cons x l ih => intro p; exact ih _
  erw [this]
  simp only [bind_ok, stm_ok, seq_nx, seq_rt, seq_bk, seq_ct, fin_nx, fin_rt, getS_0, getS_s, ofO_s, ofB_s, ofT_s, negD_i, isN_n, isN_i, isN_t, isN_r, isN_s, isN_b, notD_b, ooR_i, asgR_s, seqI_t, kb2_, kcm'_, kcm_, kcmN_, chE_t, chE_f, kch2_, kch_, boC_tt, boC_tf, boC_ft, boC_ff, kbo_, kie_t, kie_f, kix_, ksl2_, ksl_, kck2_, kck_, kmt_, kisi_, klc_, kA2_, kA_, kst2_, kst_t, kT_, kcmT'_, kcmT_, kcmNT_, chT_t, chT_f, kchT2_, kchT_, kTs_tt, kTs_tf, kTs_ft, kTs_ff, kntT_, kzip_, kasg_, kset2_, kset_, kaug3_, kaug2_, kaug_s, kex_, kret_, kiff_t, kiff_f, kfr_, ev_var, ev_con, ev_glo, ev_b2, ev_neg, ev_cm, ev_cmN, ev_ch, ev_bo, evB_1, evB_2, ev_nt, ev_ie, ev_tp, ev_ls, ev_ix, ev_sl, ev_cf, ev_ck, ev_cb, ev_mt, ev_isi, ev_lc, evA_n, evA_c, evA_s, evO_n, evO_s, evT_v, evT_cm, evT_cmN, evT_ch, evT_bo, evT_nt, evT_y, evTs_1, evTs_2, evI_s, evI_r, evI_e, evI_z, ex_asg, ex_setl, ex_aug, ex_ex, ex_ret, ex_retn, ex_iff, ex_wh, ex_fr, ex_br, ex_ct, ex_ps, ex_n, ex_c, asG_n, asG_t, obs_s, asGs_n, asGs_c, frB_, frR_s, lcB_, lcR_s, klB2_, klB_t, klB_f, wipeS_n, wipeS_c, add_i, sub_i, ipadd_i, ipsub_i, eq_i, eq_s, eq_b, eq_ni, eq_in, eq_nn, ne_i, ne_s, ne_ni, ne_in, ne_nn, lt_i, le_i, gt_i, ge_i, tru_b, tru_i, tru_n, tru_t, it0, it1, it2, it3, abs_i, max_i, min_i, len_t0, len_t1, len_t2, len_t3, int_i, tupR_0, tupR_1, tupR_2, tupR_3, tupR_4, tupR_8, mk_0, mk_1, mk_2, mk_3, mk_4, mk_6, int_b, list_t, List.map_cons, List.map_nil, List.replicate_succ, List.replicate_zero, Nat.reduceSub, Nat.reduceAdd, List.cons_append, List.nil_append, List.set_cons_zero, List.set_cons_succ, Ty.has, Bool.not_true, Bool.not_false, decide_true, decide_false]
  rw [S_sampled t1 _ _ hr, e2]
  simp only [bind_ok, stm_ok, seq_nx, seq_rt, seq_bk, seq_ct, fin_nx, fin_rt, getS_0, getS_s, ofO_s, ofB_s, ofT_s, negD_i, isN_n, isN_i, isN_t, isN_r, isN_s, isN_b, notD_b, ooR_i, asgR_s, seqI_t, kb2_, kcm'_, kcm_, kcmN_, chE_t, chE_f, kch2_, kch_, boC_tt, boC_tf, boC_ft, boC_ff, kbo_, kie_t, kie_f, kix_, ksl2_, ksl_, kck2_, kck_, kmt_, kisi_, klc_, kA2_, kA_, kst2_, kst_t, kT_, kcmT'_, kcmT_, kcmNT_, chT_t, chT_f, kchT2_, kchT_, kTs_tt, kTs_tf, kTs_ft, kTs_ff, kntT_, kzip_, kasg_, kset2_, kset_, kaug3_, kaug2_, kaug_s, kex_, kret_, kiff_t, kiff_f, kfr_, ev_var, ev_con, ev_glo, ev_b2, ev_neg, ev_cm, ev_cmN, ev_ch, ev_bo, evB_1, evB_2, ev_nt, ev_ie, ev_tp, ev_ls, ev_ix, ev_sl, ev_cf, ev_ck, ev_cb, ev_mt, ev_isi, ev_lc, evA_n, evA_c, evA_s, evO_n, evO_s, evT_v, evT_cm, evT_cmN, evT_ch, evT_bo, evT_nt, evT_y, evTs_1, evTs_2, evI_s, evI_r, evI_e, evI_z, ex_asg, ex_setl, ex_aug, ex_ex, ex_ret, ex_retn, ex_iff, ex_wh, ex_fr, ex_br, ex_ct, ex_ps, ex_n, ex_c, asG_n, asG_t, obs_s, asGs_n, asGs_c, frB_, frR_s, lcB_, lcR_s, klB2_, klB_t, klB_f, wipeS_n, wipeS_c, add_i, sub_i, ipadd_i, ipsub_i, eq_i, eq_s, eq_b, eq_ni, eq_in, eq_nn, ne_i, ne_s, ne_ni, ne_in, ne_nn, lt_i, le_i, gt_i, ge_i, tru_b, tru_i, tru_n, tru_t, it0, it1, it2, it3, abs_i, max_i, min_i, len_t0, len_t1, len_t2, len_t3, int_i, tupR_0, tupR_1, tupR_2, tupR_3, tupR_4, tupR_8, mk_0, mk_1, mk_2, mk_3, mk_4, mk_6, int_b, list_t, List.map_cons, List.map_nil, List.replicate_succ, List.replicate_zero, Nat.reduceSub, Nat.reduceAdd, List.cons_append, List.nil_append, List.set_cons_zero, List.set_cons_succ, Ty.has, Bool.not_true, Bool.not_false, decide_true, decide_false]
theorem S_is_integer (t : T 6 = some f_is_integer) (i : Int) : den T (k + 1) 6 [.int i] h = .ok (.bl true) h := by
  rw [den_fn t rfl]
  simp only [f_is_integer, bind_ok, stm_ok, seq_nx, seq_rt, seq_bk, seq_ct, fin_nx, fin_rt, getS_0, getS_s, ofO_s, ofB_s, ofT_s, negD_i, isN_n, isN_i, isN_t, isN_r, isN_s, isN_b, notD_b, ooR_i, asgR_s, seqI_t, kb2_, kcm'_, kcm_, kcmN_, chE_t, chE_f, kch2_, kch_, boC_tt, boC_tf, boC_ft, boC_ff, kbo_, kie_t, kie_f, kix_, ksl2_, ksl_, kck2_, kck_, kmt_, kisi_, klc_, kA2_, kA_, kst2_, kst_t, kT_, kcmT'_, kcmT_, kcmNT_, chT_t, chT_f, kchT2_, kchT_, kTs_tt, kTs_tf, kTs_ft, kTs_ff, kntT_, kzip_, kasg_, kset2_, kset_, kaug3_, kaug2_, kaug_s, kex_, kret_, kiff_t, kiff_f, kfr_, ev_var, ev_con, ev_glo, ev_b2, ev_neg, ev_cm, ev_cmN, ev_ch, ev_bo, evB_1, evB_2, ev_nt, ev_ie, ev_tp, ev_ls, ev_ix, ev_sl, ev_cf, ev_ck, ev_cb, ev_mt, ev_isi, ev_lc, evA_n, evA_c, evA_s, evO_n, evO_s, evT_v, evT_cm, evT_cmN, evT_ch, evT_bo, evT_nt, evT_y, evTs_1, evTs_2, evI_s, evI_r, evI_e, evI_z, ex_asg, ex_setl, ex_aug, ex_ex, ex_ret, ex_retn, ex_iff, ex_wh, ex_fr, ex_br, ex_ct, ex_ps, ex_n, ex_c, asG_n, asG_t, obs_s, asGs_n, asGs_c, frB_, frR_s, lcB_, lcR_s, klB2_, klB_t, klB_f, wipeS_n, wipeS_c, add_i, sub_i, ipadd_i, ipsub_i, eq_i, eq_s, eq_b, eq_ni, eq_in, eq_nn, ne_i, ne_s, ne_ni, ne_in, ne_nn, lt_i, le_i, gt_i, ge_i, tru_b, tru_i, tru_n, tru_t, it0, it1, it2, it3, abs_i, max_i, min_i, len_t0, len_t1, len_t2, len_t3, int_i, tupR_0, tupR_1, tupR_2, tupR_3, tupR_4, tupR_8, mk_0, mk_1, mk_2, mk_3, mk_4, mk_6, int_b, list_t, List.map_cons, List.map_nil, List.replicate_succ, List.replicate_zero, Nat.reduceSub, Nat.reduceAdd, List.cons_append, List.nil_append, List.set_cons_zero, List.set_cons_succ, Ty.has, Bool.not_true, Bool.not_false, decide_true, decide_false]
theorem S_is_at_least (t0 : T 6 = some f_is_integer) (t : T 7 = some f_is_at_least) (i j : Int) : den T (k + 2) 7 [.int i, .int j] h = .ok (.bl (decide (j ≤ i))) h := by
  rw [den_fn t rfl]
  simp only [f_is_at_least, bind_ok, stm_ok, seq_nx, seq_rt, seq_bk, seq_ct, fin_nx, fin_rt, getS_0, getS_s, ofO_s, ofB_s, ofT_s, negD_i, isN_n, isN_i, isN_t, isN_r, isN_s, isN_b, notD_b, ooR_i, asgR_s, seqI_t, kb2_, kcm'_, kcm_, kcmN_, chE_t, chE_f, kch2_, kch_, boC_tt, boC_tf, boC_ft, boC_ff, kbo_, kie_t, kie_f, kix_, ksl2_, ksl_, kck2_, kck_, kmt_, kisi_, klc_, kA2_, kA_, kst2_, kst_t, kT_, kcmT'_, kcmT_, kcmNT_, chT_t, chT_f, kchT2_, kchT_, kTs_tt, kTs_tf, kTs_ft, kTs_ff, kntT_, kzip_, kasg_, kset2_, kset_, kaug3_, kaug2_, kaug_s, kex_, kret_, kiff_t, kiff_f, kfr_, ev_var, ev_con, ev_glo, ev_b2, ev_neg, ev_cm, ev_cmN, ev_ch, ev_bo, evB_1, evB_2, ev_nt, ev_ie, ev_tp, ev_ls, ev_ix, ev_sl, ev_cf, ev_ck, ev_cb, ev_mt, ev_isi, ev_lc, evA_n, evA_c, evA_s, evO_n, evO_s, evT_v, evT_cm, evT_cmN, evT_ch, evT_bo, evT_nt, evT_y, evTs_1, evTs_2, evI_s, evI_r, evI_e, evI_z, ex_asg, ex_setl, ex_aug, ex_ex, ex_ret, ex_retn, ex_iff, ex_wh, ex_fr, ex_br, ex_ct, ex_ps, ex_n, ex_c, asG_n, asG_t, obs_s, asGs_n, asGs_c, frB_, frR_s, lcB_, lcR_s, klB2_, klB_t, klB_f, wipeS_n, wipeS_c, add_i, sub_i, ipadd_i, ipsub_i, eq_i, eq_s, eq_b, eq_ni, eq_in, eq_nn, ne_i, ne_s, ne_ni, ne_in, ne_nn, lt_i, le_i, gt_i, ge_i, tru_b, tru_i, tru_n, tru_t, it0, it1, it2, it3, abs_i, max_i, min_i, len_t0, len_t1, len_t2, len_t3, int_i, tupR_0, tupR_1, tupR_2, tupR_3, tupR_4, tupR_8, mk_0, mk_1, mk_2, mk_3, mk_4, mk_6, int_b, list_t, List.map_cons, List.map_nil, List.replicate_succ, List.replicate_zero, Nat.reduceSub, Nat.reduceAdd, List.cons_append, List.nil_append, List.set_cons_zero, List.set_cons_succ, Ty.has, Bool.not_true, Bool.not_false, decide_true, decide_false, S_is_integer t0]
theorem S_is_pair (t0 : T 6 = some f_is_integer) (t1 : T 7 = some f_is_at_least) (t : T 8 = some f_is_pair) (i j : Int) : den T (k + 3) 8 [.int i, .int j] h = .ok (.bl (decide (0 ≤ i) && decide (i ≤ j))) h := by
  rw [den_fn t rfl]
  simp only [f_is_pair, bind_ok, stm_ok, seq_nx, seq_rt, seq_bk, seq_ct, fin_nx, fin_rt, getS_0, getS_s, ofO_s, ofB_s, ofT_s, negD_i, isN_n, isN_i, isN_t, isN_r, isN_s, isN_b, notD_b, ooR_i, asgR_s, seqI_t, kb2_, kcm'_, kcm_, kcmN_, chE_t, chE_f, kch2_, kch_, boC_tt, boC_tf, boC_ft, boC_ff, kbo_, kie_t, kie_f, kix_, ksl2_, ksl_, kck2_, kck_, kmt_, kisi_, klc_, kA2_, kA_, kst2_, kst_t, kT_, kcmT'_, kcmT_, kcmNT_, chT_t, chT_f, kchT2_, kchT_, kTs_tt, kTs_tf, kTs_ft, kTs_ff, kntT_, kzip_, kasg_, kset2_, kset_, kaug3_, kaug2_, kaug_s, kex_, kret_, kiff_t, kiff_f, kfr_, ev_var, ev_con, ev_glo, ev_b2, ev_neg, ev_cm, ev_cmN, ev_ch, ev_bo, evB_1, evB_2, ev_nt, ev_ie, ev_tp, ev_ls, ev_ix, ev_sl, ev_cf, ev_ck, ev_cb, ev_mt, ev_isi, ev_lc, evA_n, evA_c, evA_s, evO_n, evO_s, evT_v, evT_cm, evT_cmN, evT_ch, evT_bo, evT_nt, evT_y, evTs_1, evTs_2, evI_s, evI_r, evI_e, evI_z, ex_asg, ex_setl, ex_aug, ex_ex, ex_ret, ex_retn, ex_iff, ex_wh, ex_fr, ex_br, ex_ct, ex_ps, ex_n, ex_c, asG_n, asG_t, obs_s, asGs_n, asGs_c, frB_, frR_s, lcB_, lcR_s, klB2_, klB_t, klB_f, wipeS_n, wipeS_c, add_i, sub_i, ipadd_i, ipsub_i, eq_i, eq_s, eq_b, eq_ni, eq_in, eq_nn, ne_i, ne_s, ne_ni, ne_in, ne_nn, lt_i, le_i, gt_i, ge_i, tru_b, tru_i, tru_n, tru_t, it0, it1, it2, it3, abs_i, max_i, min_i, len_t0, len_t1, len_t2, len_t3, int_i, tupR_0, tupR_1, tupR_2, tupR_3, tupR_4, tupR_8, mk_0, mk_1, mk_2, mk_3, mk_4, mk_6, int_b, list_t, List.map_cons, List.map_nil, List.replicate_succ, List.replicate_zero, Nat.reduceSub, Nat.reduceAdd, List.cons_append, List.nil_append, List.set_cons_zero, List.set_cons_succ, Ty.has, Bool.not_true, Bool.not_false, decide_true, decide_false, S_is_at_least t0 t1]
  by_cases e : 0 ≤ i
  · simp only [e, decide_true, bind_ok, stm_ok, seq_nx, seq_rt, seq_bk, seq_ct, fin_nx, fin_rt, getS_0, getS_s, ofO_s, ofB_s, ofT_s, negD_i, isN_n, isN_i, isN_t, isN_r, isN_s, isN_b, notD_b, ooR_i, asgR_s, seqI_t, kb2_, kcm'_, kcm_, kcmN_, chE_t, chE_f, kch2_, kch_, boC_tt, boC_tf, boC_ft, boC_ff, kbo_, kie_t, kie_f, kix_, ksl2_, ksl_, kck2_, kck_, kmt_, kisi_, klc_, kA2_, kA_, kst2_, kst_t, kT_, kcmT'_, kcmT_, kcmNT_, chT_t, chT_f, kchT2_, kchT_, kTs_tt, kTs_tf, kTs_ft, kTs_ff, kntT_, kzip_, kasg_, kset2_, kset_, kaug3_, kaug2_, kaug_s, kex_, kret_, kiff_t, kiff_f, kfr_, ev_var, ev_con, ev_glo, ev_b2, ev_neg, ev_cm, ev_cmN, ev_ch, ev_bo, evB_1, evB_2, ev_nt, ev_ie, ev_tp, ev_ls, ev_ix, ev_sl, ev_cf, ev_ck, ev_cb, ev_mt, ev_isi, ev_lc, evA_n, evA_c, evA_s, evO_n, evO_s, evT_v, evT_cm, evT_cmN, evT_ch, evT_bo, evT_nt, evT_y, evTs_1, evTs_2, evI_s, evI_r, evI_e, evI_z, ex_asg, ex_setl, ex_aug, ex_ex, ex_ret, ex_retn, ex_iff, ex_wh, ex_fr, ex_br, ex_ct, ex_ps, ex_n, ex_c, asG_n, asG_t, obs_s, asGs_n, asGs_c, frB_, frR_s, lcB_, lcR_s, klB2_, klB_t, klB_f, wipeS_n, wipeS_c, add_i, sub_i, ipadd_i, ipsub_i, eq_i, eq_s, eq_b, eq_ni, eq_in, eq_nn, ne_i, ne_s, ne_ni, ne_in, ne_nn, lt_i, le_i, gt_i, ge_i, tru_b, tru_i, tru_n, tru_t, it0, it1, it2, it3, abs_i, max_i, min_i, len_t0, len_t1, len_t2, len_t3, int_i, tupR_0, tupR_1, tupR_2, tupR_3, tupR_4, tupR_8, mk_0, mk_1, mk_2, mk_3, mk_4, mk_6, int_b, list_t, List.map_cons, List.map_nil, List.replicate_succ, List.replicate_zero, Nat.reduceSub, Nat.reduceAdd, List.cons_append, List.nil_append, List.set_cons_zero, List.set_cons_succ, Ty.has, Bool.not_true, Bool.not_false, decide_true, decide_false, S_is_at_least t0 t1, Bool.true_and]
  · simp only [e, decide_false, bind_ok, stm_ok, seq_nx, seq_rt, seq_bk, seq_ct, fin_nx, fin_rt, getS_0, getS_s, ofO_s, ofB_s, ofT_s, negD_i, isN_n, isN_i, isN_t, isN_r, isN_s, isN_b, notD_b, ooR_i, asgR_s, seqI_t, kb2_, kcm'_, kcm_, kcmN_, chE_t, chE_f, kch2_, kch_, boC_tt, boC_tf, boC_ft, boC_ff, kbo_, kie_t, kie_f, kix_, ksl2_, ksl_, kck2_, kck_, kmt_, kisi_, klc_, kA2_, kA_, kst2_, kst_t, kT_, kcmT'_, kcmT_, kcmNT_, chT_t, chT_f, kchT2_, kchT_, kTs_tt, kTs_tf, kTs_ft, kTs_ff, kntT_, kzip_, kasg_, kset2_, kset_, kaug3_, kaug2_, kaug_s, kex_, kret_, kiff_t, kiff_f, kfr_, ev_var, ev_con, ev_glo, ev_b2, ev_neg, ev_cm, ev_cmN, ev_ch, ev_bo, evB_1, evB_2, ev_nt, ev_ie, ev_tp, ev_ls, ev_ix, ev_sl, ev_cf, ev_ck, ev_cb, ev_mt, ev_isi, ev_lc, evA_n, evA_c, evA_s, evO_n, evO_s, evT_v, evT_cm, evT_cmN, evT_ch, evT_bo, evT_nt, evT_y, evTs_1, evTs_2, evI_s, evI_r, evI_e, evI_z, ex_asg, ex_setl, ex_aug, ex_ex, ex_ret, ex_retn, ex_iff, ex_wh, ex_fr, ex_br, ex_ct, ex_ps, ex_n, ex_c, asG_n, asG_t, obs_s, asGs_n, asGs_c, frB_, frR_s, lcB_, lcR_s, klB2_, klB_t, klB_f, wipeS_n, wipeS_c, add_i, sub_i, ipadd_i, ipsub_i, eq_i, eq_s, eq_b, eq_ni, eq_in, eq_nn, ne_i, ne_s, ne_ni, ne_in, ne_nn, lt_i, le_i, gt_i, ge_i, tru_b, tru_i, tru_n, tru_t, it0, it1, it2, it3, abs_i, max_i, min_i, len_t0, len_t1, len_t2, len_t3, int_i, tupR_0, tupR_1, tupR_2, tupR_3, tupR_4, tupR_8, mk_0, mk_1, mk_2, mk_3, mk_4, mk_6, int_b, list_t, List.map_cons, List.map_nil, List.replicate_succ, List.replicate_zero, Nat.reduceSub, Nat.reduceAdd, List.cons_append, List.nil_append, List.set_cons_zero, List.set_cons_succ, Ty.has, Bool.not_true, Bool.not_false, decide_true, decide_false, Bool.false_and]
theorem nin_2 : Oc.ev .nin (.int 2) (.tup [.int 2, .int 3]) h = some false := rfl
theorem nin_3 : Oc.ev .nin (.int 3) (.tup [.int 2, .int 3]) h = some false := rfl
theorem ne_t0 : Oc.ev .ne (.tup []) (.tup []) h = some false := rfl
theorem eq_32 : decide ((3 : Int) = 3) = true := rfl
theorem eq_23 : decide ((2 : Int) = 3) = false := rfl
theorem S_is_stage (t0 : T 6 = some f_is_integer) (t1 : T 7 = some f_is_at_least) (t2 : T 8 = some f_is_pair) (t : T 9 = some f_is_stage) (s : Stg) (hs : s.Ok) : den T (k + 4) 9 [s.D] h = .ok (.bl true) h := by
  rw [den_fn t rfl]
  cases s with
  | mix m =>
    have : 0 ≤ m := hs
    simp only [f_is_stage, bind_ok, stm_ok, seq_nx, seq_rt, seq_bk, seq_ct, fin_nx, fin_rt, getS_0, getS_s, ofO_s, ofB_s, ofT_s, negD_i, isN_n, isN_i, isN_t, isN_r, isN_s, isN_b, notD_b, ooR_i, asgR_s, seqI_t, kb2_, kcm'_, kcm_, kcmN_, chE_t, chE_f, kch2_, kch_, boC_tt, boC_tf, boC_ft, boC_ff, kbo_, kie_t, kie_f, kix_, ksl2_, ksl_, kck2_, kck_, kmt_, kisi_, klc_, kA2_, kA_, kst2_, kst_t, kT_, kcmT'_, kcmT_, kcmNT_, chT_t, chT_f, kchT2_, kchT_, kTs_tt, kTs_tf, kTs_ft, kTs_ff, kntT_, kzip_, kasg_, kset2_, kset_, kaug3_, kaug2_, kaug_s, kex_, kret_, kiff_t, kiff_f, kfr_, ev_var, ev_con, ev_glo, ev_b2, ev_neg, ev_cm, ev_cmN, ev_ch, ev_bo, evB_1, evB_2, ev_nt, ev_ie, ev_tp, ev_ls, ev_ix, ev_sl, ev_cf, ev_ck, ev_cb, ev_mt, ev_isi, ev_lc, evA_n, evA_c, evA_s, evO_n, evO_s, evT_v, evT_cm, evT_cmN, evT_ch, evT_bo, evT_nt, evT_y, evTs_1, evTs_2, evI_s, evI_r, evI_e, evI_z, ex_asg, ex_setl, ex_aug, ex_ex, ex_ret, ex_retn, ex_iff, ex_wh, ex_fr, ex_br, ex_ct, ex_ps, ex_n, ex_c, asG_n, asG_t, obs_s, asGs_n, asGs_c, frB_, frR_s, lcB_, lcR_s, klB2_, klB_t, klB_f, wipeS_n, wipeS_c, add_i, sub_i, ipadd_i, ipsub_i, eq_i, eq_s, eq_b, eq_ni, eq_in, eq_nn, ne_i, ne_s, ne_ni, ne_in, ne_nn, lt_i, le_i, gt_i, ge_i, tru_b, tru_i, tru_n, tru_t, it0, it1, it2, it3, abs_i, max_i, min_i, len_t0, len_t1, len_t2, len_t3, int_i, tupR_0, tupR_1, tupR_2, tupR_3, tupR_4, tupR_8, mk_0, mk_1, mk_2, mk_3, mk_4, mk_6, int_b, list_t, List.map_cons, List.map_nil, List.replicate_succ, List.replicate_zero, Nat.reduceSub, Nat.reduceAdd, List.cons_append, List.nil_append, List.set_cons_zero, List.set_cons_succ, Ty.has, Bool.not_true, Bool.not_false, decide_true, decide_false, Stg.D, nin_2, eq_23, S_is_at_least t0 t1, this]
  | dial m => simp only [f_is_stage, bind_ok, stm_ok, seq_nx, seq_rt, seq_bk, seq_ct, fin_nx, fin_rt, getS_0, getS_s, ofO_s, ofB_s, ofT_s, negD_i, isN_n, isN_i, isN_t, isN_r, isN_s, isN_b, notD_b, ooR_i, asgR_s, seqI_t, kb2_, kcm'_, kcm_, kcmN_, chE_t, chE_f, kch2_, kch_, boC_tt, boC_tf, boC_ft, boC_ff, kbo_, kie_t, kie_f, kix_, ksl2_, ksl_, kck2_, kck_, kmt_, kisi_, klc_, kA2_, kA_, kst2_, kst_t, kT_, kcmT'_, kcmT_, kcmNT_, chT_t, chT_f, kchT2_, kchT_, kTs_tt, kTs_tf, kTs_ft, kTs_ff, kntT_, kzip_, kasg_, kset2_, kset_, kaug3_, kaug2_, kaug_s, kex_, kret_, kiff_t, kiff_f, kfr_, ev_var, ev_con, ev_glo, ev_b2, ev_neg, ev_cm, ev_cmN, ev_ch, ev_bo, evB_1, evB_2, ev_nt, ev_ie, ev_tp, ev_ls, ev_ix, ev_sl, ev_cf, ev_ck, ev_cb, ev_mt, ev_isi, ev_lc, evA_n, evA_c, evA_s, evO_n, evO_s, evT_v, evT_cm, evT_cmN, evT_ch, evT_bo, evT_nt, evT_y, evTs_1, evTs_2, evI_s, evI_r, evI_e, evI_z, ex_asg, ex_setl, ex_aug, ex_ex, ex_ret, ex_retn, ex_iff, ex_wh, ex_fr, ex_br, ex_ct, ex_ps, ex_n, ex_c, asG_n, asG_t, obs_s, asGs_n, asGs_c, frB_, frR_s, lcB_, lcR_s, klB2_, klB_t, klB_f, wipeS_n, wipeS_c, add_i, sub_i, ipadd_i, ipsub_i, eq_i, eq_s, eq_b, eq_ni, eq_in, eq_nn, ne_i, ne_s, ne_ni, ne_in, ne_nn, lt_i, le_i, gt_i, ge_i, tru_b, tru_i, tru_n, tru_t, it0, it1, it2, it3, abs_i, max_i, min_i, len_t0, len_t1, len_t2, len_t3, int_i, tupR_0, tupR_1, tupR_2, tupR_3, tupR_4, tupR_8, mk_0, mk_1, mk_2, mk_3, mk_4, mk_6, int_b, list_t, List.map_cons, List.map_nil, List.replicate_succ, List.replicate_zero, Nat.reduceSub, Nat.reduceAdd, List.cons_append, List.nil_append, List.set_cons_zero, List.set_cons_succ, Ty.has, Bool.not_true, Bool.not_false, decide_true, decide_false, Stg.D, nin_2, eq_23, str_dm, S_is_integer t0]
  | pass l u =>
    have e1 : 0 ≤ l := hs.1
    have e2 : l ≤ u := hs.2
    simp only [f_is_stage, bind_ok, stm_ok, seq_nx, seq_rt, seq_bk, seq_ct, fin_nx, fin_rt, getS_0, getS_s, ofO_s, ofB_s, ofT_s, negD_i, isN_n, isN_i, isN_t, isN_r, isN_s, isN_b, notD_b, ooR_i, asgR_s, seqI_t, kb2_, kcm'_, kcm_, kcmN_, chE_t, chE_f, kch2_, kch_, boC_tt, boC_tf, boC_ft, boC_ff, kbo_, kie_t, kie_f, kix_, ksl2_, ksl_, kck2_, kck_, kmt_, kisi_, klc_, kA2_, kA_, kst2_, kst_t, kT_, kcmT'_, kcmT_, kcmNT_, chT_t, chT_f, kchT2_, kchT_, kTs_tt, kTs_tf, kTs_ft, kTs_ff, kntT_, kzip_, kasg_, kset2_, kset_, kaug3_, kaug2_, kaug_s, kex_, kret_, kiff_t, kiff_f, kfr_, ev_var, ev_con, ev_glo, ev_b2, ev_neg, ev_cm, ev_cmN, ev_ch, ev_bo, evB_1, evB_2, ev_nt, ev_ie, ev_tp, ev_ls, ev_ix, ev_sl, ev_cf, ev_ck, ev_cb, ev_mt, ev_isi, ev_lc, evA_n, evA_c, evA_s, evO_n, evO_s, evT_v, evT_cm, evT_cmN, evT_ch, evT_bo, evT_nt, evT_y, evTs_1, evTs_2, evI_s, evI_r, evI_e, evI_z, ex_asg, ex_setl, ex_aug, ex_ex, ex_ret, ex_retn, ex_iff, ex_wh, ex_fr, ex_br, ex_ct, ex_ps, ex_n, ex_c, asG_n, asG_t, obs_s, asGs_n, asGs_c, frB_, frR_s, lcB_, lcR_s, klB2_, klB_t, klB_f, wipeS_n, wipeS_c, add_i, sub_i, ipadd_i, ipsub_i, eq_i, eq_s, eq_b, eq_ni, eq_in, eq_nn, ne_i, ne_s, ne_ni, ne_in, ne_nn, lt_i, le_i, gt_i, ge_i, tru_b, tru_i, tru_n, tru_t, it0, it1, it2, it3, abs_i, max_i, min_i, len_t0, len_t1, len_t2, len_t3, int_i, tupR_0, tupR_1, tupR_2, tupR_3, tupR_4, tupR_8, mk_0, mk_1, mk_2, mk_3, mk_4, mk_6, int_b, list_t, List.map_cons, List.map_nil, List.replicate_succ, List.replicate_zero, Nat.reduceSub, Nat.reduceAdd, List.cons_append, List.nil_append, List.set_cons_zero, List.set_cons_succ, Ty.has, Bool.not_true, Bool.not_false, decide_true, decide_false, Stg.D, nin_3, S_is_pair t0 t1 t2, e1, e2, Bool.and_self]
theorem nxt_enm {α : Type} {a : Nat} {xs : List α} {enc : α → D} (e : h.get a = some (xs.map enc)) : ∀ i, It.nxt (.enm a) i h = some ((xs.zipIdx.map fun p => D.tup [.int p.2, enc p.1])[i]?) := fun i => by
  simp only [It.nxt, e, List.getElem?_map, List.getElem?_zipIdx]
  cases xs[i]? <;> simp
theorem dials_take {ss : List Stg} {i : Nat} {s : Stg} (e : ss[i]? = some s) : dials (ss.take (i + 1)) = dials (ss.take i) + s.dl := by
  unfold dials
  rw [List.take_add_one, e]
  simp
theorem dials_take_le {ss : List Stg} (i : Nat) : dials (ss.take i) ≤ dials ss := by
  have : dials ss = dials (ss.take i) + dials (ss.drop i) := by
    unfold dials
    rw [← List.sum_append, ← List.map_append, List.take_append_drop]
  omega
theorem S_receiver_fault (t0 : T 6 = some f_is_integer) (t1 : T 7 = some f_is_at_least) (t2 : T 8 = some f_is_pair) (t3 : T 9 = some f_is_stage) (t : T 10 = some f_receiver_fault) {a : Nat} {ss : List Stg} {rate : Option Int} (hs : h.get a = some (ss.map Stg.D)) (ok : RcvOk ss rate) :
    den T (k + 5) 10 [.tup [.ref a, oD rate]] h = .ok (.tup []) h := by
  rw [den_fn t rfl]
  have e1 : (1 : Int) ≤ ((ss.map Stg.D).length : Int) := by have := ok.one; simp; omega
  have e2 : ((ss.map Stg.D).length : Int) ≤ 8 := by have := ok.most; simp; omega
  simp only [f_receiver_fault, bind_ok, stm_ok, seq_nx, seq_rt, seq_bk, seq_ct, fin_nx, fin_rt, getS_0, getS_s, ofO_s, ofB_s, ofT_s, negD_i, isN_n, isN_i, isN_t, isN_r, isN_s, isN_b, notD_b, ooR_i, asgR_s, seqI_t, kb2_, kcm'_, kcm_, kcmN_, chE_t, chE_f, kch2_, kch_, boC_tt, boC_tf, boC_ft, boC_ff, kbo_, kie_t, kie_f, kix_, ksl2_, ksl_, kck2_, kck_, kmt_, kisi_, klc_, kA2_, kA_, kst2_, kst_t, kT_, kcmT'_, kcmT_, kcmNT_, chT_t, chT_f, kchT2_, kchT_, kTs_tt, kTs_tf, kTs_ft, kTs_ff, kntT_, kzip_, kasg_, kset2_, kset_, kaug3_, kaug2_, kaug_s, kex_, kret_, kiff_t, kiff_f, kfr_, ev_var, ev_con, ev_glo, ev_b2, ev_neg, ev_cm, ev_cmN, ev_ch, ev_bo, evB_1, evB_2, ev_nt, ev_ie, ev_tp, ev_ls, ev_ix, ev_sl, ev_cf, ev_ck, ev_cb, ev_mt, ev_isi, ev_lc, evA_n, evA_c, evA_s, evO_n, evO_s, evT_v, evT_cm, evT_cmN, evT_ch, evT_bo, evT_nt, evT_y, evTs_1, evTs_2, evI_s, evI_r, evI_e, evI_z, ex_asg, ex_setl, ex_aug, ex_ex, ex_ret, ex_retn, ex_iff, ex_wh, ex_fr, ex_br, ex_ct, ex_ps, ex_n, ex_c, asG_n, asG_t, obs_s, asGs_n, asGs_c, frB_, frR_s, lcB_, lcR_s, klB2_, klB_t, klB_f, wipeS_n, wipeS_c, add_i, sub_i, ipadd_i, ipsub_i, eq_i, eq_s, eq_b, eq_ni, eq_in, eq_nn, ne_i, ne_s, ne_ni, ne_in, ne_nn, lt_i, le_i, gt_i, ge_i, tru_b, tru_i, tru_n, tru_t, it0, it1, it2, it3, abs_i, max_i, min_i, len_t0, len_t1, len_t2, len_t3, int_i, tupR_0, tupR_1, tupR_2, tupR_3, tupR_4, tupR_8, mk_0, mk_1, mk_2, mk_3, mk_4, mk_6, int_b, list_t, List.map_cons, List.map_nil, List.replicate_succ, List.replicate_zero, Nat.reduceSub, Nat.reduceAdd, List.cons_append, List.nil_append, List.set_cons_zero, List.set_cons_succ, Ty.has, Bool.not_true, Bool.not_false, decide_true, decide_false, len_r hs, enmI_r hs, e1, e2, ne_i]
  have := forL_inv (nxt := It.nxt (.enm a)) (bod := frB (den T (k + 4)) (.tp [.nm 4, .nm 5]) (.cons (.iff (.nt (.v (.cf 9 (.cons (.var 5) .nil)))) ((.cons (.ret (.tp (.cons (.var 4) .nil))) 
      .nil)) .nil) 
    (.cons (.aug 3 .add (.cb .int (.cons (.cm .eq (.ix (.var 5) (.con (.int 0))) (.con (.str "dial"))) .nil))) 
    (.cons (.iff (.cm .gt (.var 3) (.con (.int 1))) ((.cons (.ret (.tp (.cons (.var 4) .nil))) 
      .nil)) .nil) 
    .nil))))
    (B := fun τ h' => h' = h ∧ ∃ x y z, τ = [some (.tup [.ref a, oD rate]), some (.ref a), some (oD rate), x, y, z]) (Q := fun _ _ => False)
    (ss.zipIdx.map fun p => D.tup [.int p.2, Stg.D p.1])
    (fun i τ h' => h' = h ∧ ∃ y z, τ = [some (.tup [.ref a, oD rate]), some (.ref a), some (oD rate), some (.int (dials (ss.take i))), y, z])
    (fun i τ h' hI => by rw [hI.1]; exact nxt_enm hs i)
    (fun i d τ h' hd hI => by
      obtain ⟨rfl, y, z, rfl⟩ := hI
      rw [List.getElem?_map, List.getElem?_zipIdx] at hd
      cases q : ss[i]? with
      | none => rw [q] at hd; cases hd
      | some s =>
        rw [q] at hd
        simp only [Option.map_some, Option.some.injEq] at hd
        subst hd
        have hm : s ∈ ss := List.mem_of_getElem? q
        have hdl := dials_take q
        have hle := dials_take_le (ss := ss) (i + 1)
        have hmax := ok.dl
        cases s with
        | mix m =>
          have e9 : den T (k + 4) 9 [.tup [.str "mix", .int m]] h' = .ok (.bl true) h' := S_is_stage t0 t1 t2 t3 (.mix m) (ok.ok _ hm)
          have e0 : decide ((1 : Int) < (dials (ss.take i) : Int) + 0) = false := decide_eq_false (by simp only [Stg.dl] at hdl; omega)
          simp only [bind_ok, stm_ok, seq_nx, seq_rt, seq_bk, seq_ct, fin_nx, fin_rt, getS_0, getS_s, ofO_s, ofB_s, ofT_s, negD_i, isN_n, isN_i, isN_t, isN_r, isN_s, isN_b, notD_b, ooR_i, asgR_s, seqI_t, kb2_, kcm'_, kcm_, kcmN_, chE_t, chE_f, kch2_, kch_, boC_tt, boC_tf, boC_ft, boC_ff, kbo_, kie_t, kie_f, kix_, ksl2_, ksl_, kck2_, kck_, kmt_, kisi_, klc_, kA2_, kA_, kst2_, kst_t, kT_, kcmT'_, kcmT_, kcmNT_, chT_t, chT_f, kchT2_, kchT_, kTs_tt, kTs_tf, kTs_ft, kTs_ff, kntT_, kzip_, kasg_, kset2_, kset_, kaug3_, kaug2_, kaug_s, kex_, kret_, kiff_t, kiff_f, kfr_, ev_var, ev_con, ev_glo, ev_b2, ev_neg, ev_cm, ev_cmN, ev_ch, ev_bo, evB_1, evB_2, ev_nt, ev_ie, ev_tp, ev_ls, ev_ix, ev_sl, ev_cf, ev_ck, ev_cb, ev_mt, ev_isi, ev_lc, evA_n, evA_c, evA_s, evO_n, evO_s, evT_v, evT_cm, evT_cmN, evT_ch, evT_bo, evT_nt, evT_y, evTs_1, evTs_2, evI_s, evI_r, evI_e, evI_z, ex_asg, ex_setl, ex_aug, ex_ex, ex_ret, ex_retn, ex_iff, ex_wh, ex_fr, ex_br, ex_ct, ex_ps, ex_n, ex_c, asG_n, asG_t, obs_s, asGs_n, asGs_c, frB_, frR_s, lcB_, lcR_s, klB2_, klB_t, klB_f, wipeS_n, wipeS_c, add_i, sub_i, ipadd_i, ipsub_i, eq_i, eq_s, eq_b, eq_ni, eq_in, eq_nn, ne_i, ne_s, ne_ni, ne_in, ne_nn, lt_i, le_i, gt_i, ge_i, tru_b, tru_i, tru_n, tru_t, it0, it1, it2, it3, abs_i, max_i, min_i, len_t0, len_t1, len_t2, len_t3, int_i, tupR_0, tupR_1, tupR_2, tupR_3, tupR_4, tupR_8, mk_0, mk_1, mk_2, mk_3, mk_4, mk_6, int_b, list_t, List.map_cons, List.map_nil, List.replicate_succ, List.replicate_zero, Nat.reduceSub, Nat.reduceAdd, List.cons_append, List.nil_append, List.set_cons_zero, List.set_cons_succ, Ty.has, Bool.not_true, Bool.not_false, decide_true, decide_false, e9, satbN, Stg.D, str_md, Bool.false_eq_true, if_false, e0]
          refine ⟨trivial, ?_, ?_, ?_⟩
          rotate_left 2
          rw [hdl]
          rfl
        | pass l u =>
          have e9 : den T (k + 4) 9 [.tup [.str "pass", .int l, .int u]] h' = .ok (.bl true) h' := S_is_stage t0 t1 t2 t3 (.pass l u) (ok.ok _ hm)
          have e0 : decide ((1 : Int) < (dials (ss.take i) : Int) + 0) = false := decide_eq_false (by simp only [Stg.dl] at hdl; omega)
          simp only [bind_ok, stm_ok, seq_nx, seq_rt, seq_bk, seq_ct, fin_nx, fin_rt, getS_0, getS_s, ofO_s, ofB_s, ofT_s, negD_i, isN_n, isN_i, isN_t, isN_r, isN_s, isN_b, notD_b, ooR_i, asgR_s, seqI_t, kb2_, kcm'_, kcm_, kcmN_, chE_t, chE_f, kch2_, kch_, boC_tt, boC_tf, boC_ft, boC_ff, kbo_, kie_t, kie_f, kix_, ksl2_, ksl_, kck2_, kck_, kmt_, kisi_, klc_, kA2_, kA_, kst2_, kst_t, kT_, kcmT'_, kcmT_, kcmNT_, chT_t, chT_f, kchT2_, kchT_, kTs_tt, kTs_tf, kTs_ft, kTs_ff, kntT_, kzip_, kasg_, kset2_, kset_, kaug3_, kaug2_, kaug_s, kex_, kret_, kiff_t, kiff_f, kfr_, ev_var, ev_con, ev_glo, ev_b2, ev_neg, ev_cm, ev_cmN, ev_ch, ev_bo, evB_1, evB_2, ev_nt, ev_ie, ev_tp, ev_ls, ev_ix, ev_sl, ev_cf, ev_ck, ev_cb, ev_mt, ev_isi, ev_lc, evA_n, evA_c, evA_s, evO_n, evO_s, evT_v, evT_cm, evT_cmN, evT_ch, evT_bo, evT_nt, evT_y, evTs_1, evTs_2, evI_s, evI_r, evI_e, evI_z, ex_asg, ex_setl, ex_aug, ex_ex, ex_ret, ex_retn, ex_iff, ex_wh, ex_fr, ex_br, ex_ct, ex_ps, ex_n, ex_c, asG_n, asG_t, obs_s, asGs_n, asGs_c, frB_, frR_s, lcB_, lcR_s, klB2_, klB_t, klB_f, wipeS_n, wipeS_c, add_i, sub_i, ipadd_i, ipsub_i, eq_i, eq_s, eq_b, eq_ni, eq_in, eq_nn, ne_i, ne_s, ne_ni, ne_in, ne_nn, lt_i, le_i, gt_i, ge_i, tru_b, tru_i, tru_n, tru_t, it0, it1, it2, it3, abs_i, max_i, min_i, len_t0, len_t1, len_t2, len_t3, int_i, tupR_0, tupR_1, tupR_2, tupR_3, tupR_4, tupR_8, mk_0, mk_1, mk_2, mk_3, mk_4, mk_6, int_b, list_t, List.map_cons, List.map_nil, List.replicate_succ, List.replicate_zero, Nat.reduceSub, Nat.reduceAdd, List.cons_append, List.nil_append, List.set_cons_zero, List.set_cons_succ, Ty.has, Bool.not_true, Bool.not_false, decide_true, decide_false, e9, satbN, Stg.D, str_pd, Bool.false_eq_true, if_false, e0]
          refine ⟨trivial, ?_, ?_, ?_⟩
          rotate_left 2
          rw [hdl]
          rfl
        | dial m =>
          have e9 : den T (k + 4) 9 [.tup [.str "dial", .int m]] h' = .ok (.bl true) h' := S_is_stage t0 t1 t2 t3 (.dial m) (ok.ok _ hm)
          have e0 : decide ((1 : Int) < (dials (ss.take i) : Int) + 1) = false := decide_eq_false (by simp only [Stg.dl] at hdl; omega)
          simp only [bind_ok, stm_ok, seq_nx, seq_rt, seq_bk, seq_ct, fin_nx, fin_rt, getS_0, getS_s, ofO_s, ofB_s, ofT_s, negD_i, isN_n, isN_i, isN_t, isN_r, isN_s, isN_b, notD_b, ooR_i, asgR_s, seqI_t, kb2_, kcm'_, kcm_, kcmN_, chE_t, chE_f, kch2_, kch_, boC_tt, boC_tf, boC_ft, boC_ff, kbo_, kie_t, kie_f, kix_, ksl2_, ksl_, kck2_, kck_, kmt_, kisi_, klc_, kA2_, kA_, kst2_, kst_t, kT_, kcmT'_, kcmT_, kcmNT_, chT_t, chT_f, kchT2_, kchT_, kTs_tt, kTs_tf, kTs_ft, kTs_ff, kntT_, kzip_, kasg_, kset2_, kset_, kaug3_, kaug2_, kaug_s, kex_, kret_, kiff_t, kiff_f, kfr_, ev_var, ev_con, ev_glo, ev_b2, ev_neg, ev_cm, ev_cmN, ev_ch, ev_bo, evB_1, evB_2, ev_nt, ev_ie, ev_tp, ev_ls, ev_ix, ev_sl, ev_cf, ev_ck, ev_cb, ev_mt, ev_isi, ev_lc, evA_n, evA_c, evA_s, evO_n, evO_s, evT_v, evT_cm, evT_cmN, evT_ch, evT_bo, evT_nt, evT_y, evTs_1, evTs_2, evI_s, evI_r, evI_e, evI_z, ex_asg, ex_setl, ex_aug, ex_ex, ex_ret, ex_retn, ex_iff, ex_wh, ex_fr, ex_br, ex_ct, ex_ps, ex_n, ex_c, asG_n, asG_t, obs_s, asGs_n, asGs_c, frB_, frR_s, lcB_, lcR_s, klB2_, klB_t, klB_f, wipeS_n, wipeS_c, add_i, sub_i, ipadd_i, ipsub_i, eq_i, eq_s, eq_b, eq_ni, eq_in, eq_nn, ne_i, ne_s, ne_ni, ne_in, ne_nn, lt_i, le_i, gt_i, ge_i, tru_b, tru_i, tru_n, tru_t, it0, it1, it2, it3, abs_i, max_i, min_i, len_t0, len_t1, len_t2, len_t3, int_i, tupR_0, tupR_1, tupR_2, tupR_3, tupR_4, tupR_8, mk_0, mk_1, mk_2, mk_3, mk_4, mk_6, int_b, list_t, List.map_cons, List.map_nil, List.replicate_succ, List.replicate_zero, Nat.reduceSub, Nat.reduceAdd, List.cons_append, List.nil_append, List.set_cons_zero, List.set_cons_succ, Ty.has, Bool.not_true, Bool.not_false, decide_true, decide_false, e9, satbN, Stg.D, str_dd, if_true, e0]
          refine ⟨trivial, ?_, ?_, ?_⟩
          rotate_left 2
          rw [hdl]
          rfl)
    (fun τ h' hI => by
      obtain ⟨e, y, z, q⟩ := hI
      exact ⟨e, _, y, z, q⟩) turns 0 [some (.tup [.ref a, oD rate]), some (.ref a), some (oD rate), some (.int 0), none, none] h ⟨rfl, _, _, rfl⟩ (Nat.zero_le _) (by simp; have := ok.most; unfold turns; omega)
  revert this
  generalize forL _ _ _ _ _ _ = r
  intro this
  cases r with
  | nx τ h' =>
    obtain ⟨rfl, x, y, z, rfl⟩ := this
    cases rate with
    | none => simp only [bind_ok, stm_ok, seq_nx, seq_rt, seq_bk, seq_ct, fin_nx, fin_rt, getS_0, getS_s, ofO_s, ofB_s, ofT_s, negD_i, isN_n, isN_i, isN_t, isN_r, isN_s, isN_b, notD_b, ooR_i, asgR_s, seqI_t, kb2_, kcm'_, kcm_, kcmN_, chE_t, chE_f, kch2_, kch_, boC_tt, boC_tf, boC_ft, boC_ff, kbo_, kie_t, kie_f, kix_, ksl2_, ksl_, kck2_, kck_, kmt_, kisi_, klc_, kA2_, kA_, kst2_, kst_t, kT_, kcmT'_, kcmT_, kcmNT_, chT_t, chT_f, kchT2_, kchT_, kTs_tt, kTs_tf, kTs_ft, kTs_ff, kntT_, kzip_, kasg_, kset2_, kset_, kaug3_, kaug2_, kaug_s, kex_, kret_, kiff_t, kiff_f, kfr_, ev_var, ev_con, ev_glo, ev_b2, ev_neg, ev_cm, ev_cmN, ev_ch, ev_bo, evB_1, evB_2, ev_nt, ev_ie, ev_tp, ev_ls, ev_ix, ev_sl, ev_cf, ev_ck, ev_cb, ev_mt, ev_isi, ev_lc, evA_n, evA_c, evA_s, evO_n, evO_s, evT_v, evT_cm, evT_cmN, evT_ch, evT_bo, evT_nt, evT_y, evTs_1, evTs_2, evI_s, evI_r, evI_e, evI_z, ex_asg, ex_setl, ex_aug, ex_ex, ex_ret, ex_retn, ex_iff, ex_wh, ex_fr, ex_br, ex_ct, ex_ps, ex_n, ex_c, asG_n, asG_t, obs_s, asGs_n, asGs_c, frB_, frR_s, lcB_, lcR_s, klB2_, klB_t, klB_f, wipeS_n, wipeS_c, add_i, sub_i, ipadd_i, ipsub_i, eq_i, eq_s, eq_b, eq_ni, eq_in, eq_nn, ne_i, ne_s, ne_ni, ne_in, ne_nn, lt_i, le_i, gt_i, ge_i, tru_b, tru_i, tru_n, tru_t, it0, it1, it2, it3, abs_i, max_i, min_i, len_t0, len_t1, len_t2, len_t3, int_i, tupR_0, tupR_1, tupR_2, tupR_3, tupR_4, tupR_8, mk_0, mk_1, mk_2, mk_3, mk_4, mk_6, int_b, list_t, List.map_cons, List.map_nil, List.replicate_succ, List.replicate_zero, Nat.reduceSub, Nat.reduceAdd, List.cons_append, List.nil_append, List.set_cons_zero, List.set_cons_succ, Ty.has, Bool.not_true, Bool.not_false, decide_true, decide_false, oD]
    | some r =>
      have := ok.rt r rfl
      simp only [bind_ok, stm_ok, seq_nx, seq_rt, seq_bk, seq_ct, fin_nx, fin_rt, getS_0, getS_s, ofO_s, ofB_s, ofT_s, negD_i, isN_n, isN_i, isN_t, isN_r, isN_s, isN_b, notD_b, ooR_i, asgR_s, seqI_t, kb2_, kcm'_, kcm_, kcmN_, chE_t, chE_f, kch2_, kch_, boC_tt, boC_tf, boC_ft, boC_ff, kbo_, kie_t, kie_f, kix_, ksl2_, ksl_, kck2_, kck_, kmt_, kisi_, klc_, kA2_, kA_, kst2_, kst_t, kT_, kcmT'_, kcmT_, kcmNT_, chT_t, chT_f, kchT2_, kchT_, kTs_tt, kTs_tf, kTs_ft, kTs_ff, kntT_, kzip_, kasg_, kset2_, kset_, kaug3_, kaug2_, kaug_s, kex_, kret_, kiff_t, kiff_f, kfr_, ev_var, ev_con, ev_glo, ev_b2, ev_neg, ev_cm, ev_cmN, ev_ch, ev_bo, evB_1, evB_2, ev_nt, ev_ie, ev_tp, ev_ls, ev_ix, ev_sl, ev_cf, ev_ck, ev_cb, ev_mt, ev_isi, ev_lc, evA_n, evA_c, evA_s, evO_n, evO_s, evT_v, evT_cm, evT_cmN, evT_ch, evT_bo, evT_nt, evT_y, evTs_1, evTs_2, evI_s, evI_r, evI_e, evI_z, ex_asg, ex_setl, ex_aug, ex_ex, ex_ret, ex_retn, ex_iff, ex_wh, ex_fr, ex_br, ex_ct, ex_ps, ex_n, ex_c, asG_n, asG_t, obs_s, asGs_n, asGs_c, frB_, frR_s, lcB_, lcR_s, klB2_, klB_t, klB_f, wipeS_n, wipeS_c, add_i, sub_i, ipadd_i, ipsub_i, eq_i, eq_s, eq_b, eq_ni, eq_in, eq_nn, ne_i, ne_s, ne_ni, ne_in, ne_nn, lt_i, le_i, gt_i, ge_i, tru_b, tru_i, tru_n, tru_t, it0, it1, it2, it3, abs_i, max_i, min_i, len_t0, len_t1, len_t2, len_t3, int_i, tupR_0, tupR_1, tupR_2, tupR_3, tupR_4, tupR_8, mk_0, mk_1, mk_2, mk_3, mk_4, mk_6, int_b, list_t, List.map_cons, List.map_nil, List.replicate_succ, List.replicate_zero, Nat.reduceSub, Nat.reduceAdd, List.cons_append, List.nil_append, List.set_cons_zero, List.set_cons_succ, Ty.has, Bool.not_true, Bool.not_false, decide_true, decide_false, oD, S_is_at_least t0 t1, this]
  | _ => exact False.elim this
theorem S_require_receiver (t0 : T 6 = some f_is_integer) (t1 : T 7 = some f_is_at_least) (t2 : T 8 = some f_is_pair) (t3 : T 9 = some f_is_stage) (t4 : T 10 = some f_receiver_fault) (t : T 25 = some f_require_receiver) {a : Nat} {ss : List Stg} {rate : Option Int} (hs : h.get a = some (ss.map Stg.D)) (ok : RcvOk ss rate) :
    den T (k + 6) 25 [.tup [.ref a, oD rate]] h = .ok .non h := by
  rw [den_fn t rfl]
  simp only [f_require_receiver, bind_ok, stm_ok, seq_nx, seq_rt, seq_bk, seq_ct, fin_nx, fin_rt, getS_0, getS_s, ofO_s, ofB_s, ofT_s, negD_i, isN_n, isN_i, isN_t, isN_r, isN_s, isN_b, notD_b, ooR_i, asgR_s, seqI_t, kb2_, kcm'_, kcm_, kcmN_, chE_t, chE_f, kch2_, kch_, boC_tt, boC_tf, boC_ft, boC_ff, kbo_, kie_t, kie_f, kix_, ksl2_, ksl_, kck2_, kck_, kmt_, kisi_, klc_, kA2_, kA_, kst2_, kst_t, kT_, kcmT'_, kcmT_, kcmNT_, chT_t, chT_f, kchT2_, kchT_, kTs_tt, kTs_tf, kTs_ft, kTs_ff, kntT_, kzip_, kasg_, kset2_, kset_, kaug3_, kaug2_, kaug_s, kex_, kret_, kiff_t, kiff_f, kfr_, ev_var, ev_con, ev_glo, ev_b2, ev_neg, ev_cm, ev_cmN, ev_ch, ev_bo, evB_1, evB_2, ev_nt, ev_ie, ev_tp, ev_ls, ev_ix, ev_sl, ev_cf, ev_ck, ev_cb, ev_mt, ev_isi, ev_lc, evA_n, evA_c, evA_s, evO_n, evO_s, evT_v, evT_cm, evT_cmN, evT_ch, evT_bo, evT_nt, evT_y, evTs_1, evTs_2, evI_s, evI_r, evI_e, evI_z, ex_asg, ex_setl, ex_aug, ex_ex, ex_ret, ex_retn, ex_iff, ex_wh, ex_fr, ex_br, ex_ct, ex_ps, ex_n, ex_c, asG_n, asG_t, obs_s, asGs_n, asGs_c, frB_, frR_s, lcB_, lcR_s, klB2_, klB_t, klB_f, wipeS_n, wipeS_c, add_i, sub_i, ipadd_i, ipsub_i, eq_i, eq_s, eq_b, eq_ni, eq_in, eq_nn, ne_i, ne_s, ne_ni, ne_in, ne_nn, lt_i, le_i, gt_i, ge_i, tru_b, tru_i, tru_n, tru_t, it0, it1, it2, it3, abs_i, max_i, min_i, len_t0, len_t1, len_t2, len_t3, int_i, tupR_0, tupR_1, tupR_2, tupR_3, tupR_4, tupR_8, mk_0, mk_1, mk_2, mk_3, mk_4, mk_6, int_b, list_t, List.map_cons, List.map_nil, List.replicate_succ, List.replicate_zero, Nat.reduceSub, Nat.reduceAdd, List.cons_append, List.nil_append, List.set_cons_zero, List.set_cons_succ, Ty.has, Bool.not_true, Bool.not_false, decide_true, decide_false, S_receiver_fault t0 t1 t2 t3 t4 hs ok, ne_t0]
theorem S_require_dial (t0 : T 6 = some f_is_integer) (t : T 26 = some f_require_dial) (i : Int) : den T (k + 2) 26 [.int i] h = .ok .non h := by
  rw [den_fn t rfl]
  simp only [f_require_dial, bind_ok, stm_ok, seq_nx, seq_rt, seq_bk, seq_ct, fin_nx, fin_rt, getS_0, getS_s, ofO_s, ofB_s, ofT_s, negD_i, isN_n, isN_i, isN_t, isN_r, isN_s, isN_b, notD_b, ooR_i, asgR_s, seqI_t, kb2_, kcm'_, kcm_, kcmN_, chE_t, chE_f, kch2_, kch_, boC_tt, boC_tf, boC_ft, boC_ff, kbo_, kie_t, kie_f, kix_, ksl2_, ksl_, kck2_, kck_, kmt_, kisi_, klc_, kA2_, kA_, kst2_, kst_t, kT_, kcmT'_, kcmT_, kcmNT_, chT_t, chT_f, kchT2_, kchT_, kTs_tt, kTs_tf, kTs_ft, kTs_ff, kntT_, kzip_, kasg_, kset2_, kset_, kaug3_, kaug2_, kaug_s, kex_, kret_, kiff_t, kiff_f, kfr_, ev_var, ev_con, ev_glo, ev_b2, ev_neg, ev_cm, ev_cmN, ev_ch, ev_bo, evB_1, evB_2, ev_nt, ev_ie, ev_tp, ev_ls, ev_ix, ev_sl, ev_cf, ev_ck, ev_cb, ev_mt, ev_isi, ev_lc, evA_n, evA_c, evA_s, evO_n, evO_s, evT_v, evT_cm, evT_cmN, evT_ch, evT_bo, evT_nt, evT_y, evTs_1, evTs_2, evI_s, evI_r, evI_e, evI_z, ex_asg, ex_setl, ex_aug, ex_ex, ex_ret, ex_retn, ex_iff, ex_wh, ex_fr, ex_br, ex_ct, ex_ps, ex_n, ex_c, asG_n, asG_t, obs_s, asGs_n, asGs_c, frB_, frR_s, lcB_, lcR_s, klB2_, klB_t, klB_f, wipeS_n, wipeS_c, add_i, sub_i, ipadd_i, ipsub_i, eq_i, eq_s, eq_b, eq_ni, eq_in, eq_nn, ne_i, ne_s, ne_ni, ne_in, ne_nn, lt_i, le_i, gt_i, ge_i, tru_b, tru_i, tru_n, tru_t, it0, it1, it2, it3, abs_i, max_i, min_i, len_t0, len_t1, len_t2, len_t3, int_i, tupR_0, tupR_1, tupR_2, tupR_3, tupR_4, tupR_8, mk_0, mk_1, mk_2, mk_3, mk_4, mk_6, int_b, list_t, List.map_cons, List.map_nil, List.replicate_succ, List.replicate_zero, Nat.reduceSub, Nat.reduceAdd, List.cons_append, List.nil_append, List.set_cons_zero, List.set_cons_succ, Ty.has, Bool.not_true, Bool.not_false, decide_true, decide_false, S_is_integer t0]
theorem S_require_signal (t0 : T 6 = some f_is_integer) (t1 : T 7 = some f_is_at_least) (t : T 27 = some f_require_signal) (i : Int) (hi : 0 ≤ i) : den T (k + 3) 27 [.int i] h = .ok .non h := by
  rw [den_fn t rfl]
  simp only [f_require_signal, bind_ok, stm_ok, seq_nx, seq_rt, seq_bk, seq_ct, fin_nx, fin_rt, getS_0, getS_s, ofO_s, ofB_s, ofT_s, negD_i, isN_n, isN_i, isN_t, isN_r, isN_s, isN_b, notD_b, ooR_i, asgR_s, seqI_t, kb2_, kcm'_, kcm_, kcmN_, chE_t, chE_f, kch2_, kch_, boC_tt, boC_tf, boC_ft, boC_ff, kbo_, kie_t, kie_f, kix_, ksl2_, ksl_, kck2_, kck_, kmt_, kisi_, klc_, kA2_, kA_, kst2_, kst_t, kT_, kcmT'_, kcmT_, kcmNT_, chT_t, chT_f, kchT2_, kchT_, kTs_tt, kTs_tf, kTs_ft, kTs_ff, kntT_, kzip_, kasg_, kset2_, kset_, kaug3_, kaug2_, kaug_s, kex_, kret_, kiff_t, kiff_f, kfr_, ev_var, ev_con, ev_glo, ev_b2, ev_neg, ev_cm, ev_cmN, ev_ch, ev_bo, evB_1, evB_2, ev_nt, ev_ie, ev_tp, ev_ls, ev_ix, ev_sl, ev_cf, ev_ck, ev_cb, ev_mt, ev_isi, ev_lc, evA_n, evA_c, evA_s, evO_n, evO_s, evT_v, evT_cm, evT_cmN, evT_ch, evT_bo, evT_nt, evT_y, evTs_1, evTs_2, evI_s, evI_r, evI_e, evI_z, ex_asg, ex_setl, ex_aug, ex_ex, ex_ret, ex_retn, ex_iff, ex_wh, ex_fr, ex_br, ex_ct, ex_ps, ex_n, ex_c, asG_n, asG_t, obs_s, asGs_n, asGs_c, frB_, frR_s, lcB_, lcR_s, klB2_, klB_t, klB_f, wipeS_n, wipeS_c, add_i, sub_i, ipadd_i, ipsub_i, eq_i, eq_s, eq_b, eq_ni, eq_in, eq_nn, ne_i, ne_s, ne_ni, ne_in, ne_nn, lt_i, le_i, gt_i, ge_i, tru_b, tru_i, tru_n, tru_t, it0, it1, it2, it3, abs_i, max_i, min_i, len_t0, len_t1, len_t2, len_t3, int_i, tupR_0, tupR_1, tupR_2, tupR_3, tupR_4, tupR_8, mk_0, mk_1, mk_2, mk_3, mk_4, mk_6, int_b, list_t, List.map_cons, List.map_nil, List.replicate_succ, List.replicate_zero, Nat.reduceSub, Nat.reduceAdd, List.cons_append, List.nil_append, List.set_cons_zero, List.set_cons_succ, Ty.has, Bool.not_true, Bool.not_false, decide_true, decide_false, S_is_at_least t0 t1, hi]
structure LibA (T : Tab) : Prop where
  t6 : T 6 = some f_is_integer
  t7 : T 7 = some f_is_at_least
  t8 : T 8 = some f_is_pair
  t9 : T 9 = some f_is_stage
  t10 : T 10 = some f_receiver_fault
  t22 : T 22 = some f_stage_tone
  t23 : T 23 = some f_sampled_tone
  t24 : T 24 = some f_tone_of
  t25 : T 25 = some f_require_receiver
  t26 : T 26 = some f_require_dial
  t27 : T 27 = some f_require_signal
  t28 : T 28 = some f_require_heard
  t29 : T 29 = some f_tone_at
theorem S_require_heard (L : LibA T) {a : Nat} {ss : List Stg} {rate : Option Int} (d s : Int) (hs : h.get a = some (ss.map Stg.D)) (ok : RcvOk ss rate) (h0 : 0 ≤ s) :
    den T (k + 7) 28 [.tup [.ref a, oD rate], .int d, .int s] h = .ok .non h := by
  rw [den_fn L.t28 rfl]
  simp only [f_require_heard, bind_ok, stm_ok, seq_nx, seq_rt, seq_bk, seq_ct, fin_nx, fin_rt, getS_0, getS_s, ofO_s, ofB_s, ofT_s, negD_i, isN_n, isN_i, isN_t, isN_r, isN_s, isN_b, notD_b, ooR_i, asgR_s, seqI_t, kb2_, kcm'_, kcm_, kcmN_, chE_t, chE_f, kch2_, kch_, boC_tt, boC_tf, boC_ft, boC_ff, kbo_, kie_t, kie_f, kix_, ksl2_, ksl_, kck2_, kck_, kmt_, kisi_, klc_, kA2_, kA_, kst2_, kst_t, kT_, kcmT'_, kcmT_, kcmNT_, chT_t, chT_f, kchT2_, kchT_, kTs_tt, kTs_tf, kTs_ft, kTs_ff, kntT_, kzip_, kasg_, kset2_, kset_, kaug3_, kaug2_, kaug_s, kex_, kret_, kiff_t, kiff_f, kfr_, ev_var, ev_con, ev_glo, ev_b2, ev_neg, ev_cm, ev_cmN, ev_ch, ev_bo, evB_1, evB_2, ev_nt, ev_ie, ev_tp, ev_ls, ev_ix, ev_sl, ev_cf, ev_ck, ev_cb, ev_mt, ev_isi, ev_lc, evA_n, evA_c, evA_s, evO_n, evO_s, evT_v, evT_cm, evT_cmN, evT_ch, evT_bo, evT_nt, evT_y, evTs_1, evTs_2, evI_s, evI_r, evI_e, evI_z, ex_asg, ex_setl, ex_aug, ex_ex, ex_ret, ex_retn, ex_iff, ex_wh, ex_fr, ex_br, ex_ct, ex_ps, ex_n, ex_c, asG_n, asG_t, obs_s, asGs_n, asGs_c, frB_, frR_s, lcB_, lcR_s, klB2_, klB_t, klB_f, wipeS_n, wipeS_c, add_i, sub_i, ipadd_i, ipsub_i, eq_i, eq_s, eq_b, eq_ni, eq_in, eq_nn, ne_i, ne_s, ne_ni, ne_in, ne_nn, lt_i, le_i, gt_i, ge_i, tru_b, tru_i, tru_n, tru_t, it0, it1, it2, it3, abs_i, max_i, min_i, len_t0, len_t1, len_t2, len_t3, int_i, tupR_0, tupR_1, tupR_2, tupR_3, tupR_4, tupR_8, mk_0, mk_1, mk_2, mk_3, mk_4, mk_6, int_b, list_t, List.map_cons, List.map_nil, List.replicate_succ, List.replicate_zero, Nat.reduceSub, Nat.reduceAdd, List.cons_append, List.nil_append, List.set_cons_zero, List.set_cons_succ, Ty.has, Bool.not_true, Bool.not_false, decide_true, decide_false, S_require_receiver L.t6 L.t7 L.t8 L.t9 L.t10 L.t25 hs ok, S_require_dial L.t6 L.t26, S_require_signal L.t6 L.t7 L.t27 s h0]
def toneAt (ss : List Stg) (rate : Option Int) (d s : Int) : Option Int := sampled rate (tones ss d (some s))
theorem S_tone_at (L : LibA T) {a : Nat} {ss : List Stg} {rate : Option Int} (d s : Int) (hs : h.get a = some (ss.map Stg.D)) (ok : RcvOk ss rate) (h0 : 0 ≤ s) :
    den T (k + 8) 29 [.tup [.ref a, oD rate], .int d, .int s] h = .ok (oD (toneAt ss rate d s)) h := by
  rw [den_fn L.t29 rfl]
  have := ok.most
  simp only [f_tone_at, bind_ok, stm_ok, seq_nx, seq_rt, seq_bk, seq_ct, fin_nx, fin_rt, getS_0, getS_s, ofO_s, ofB_s, ofT_s, negD_i, isN_n, isN_i, isN_t, isN_r, isN_s, isN_b, notD_b, ooR_i, asgR_s, seqI_t, kb2_, kcm'_, kcm_, kcmN_, chE_t, chE_f, kch2_, kch_, boC_tt, boC_tf, boC_ft, boC_ff, kbo_, kie_t, kie_f, kix_, ksl2_, ksl_, kck2_, kck_, kmt_, kisi_, klc_, kA2_, kA_, kst2_, kst_t, kT_, kcmT'_, kcmT_, kcmNT_, chT_t, chT_f, kchT2_, kchT_, kTs_tt, kTs_tf, kTs_ft, kTs_ff, kntT_, kzip_, kasg_, kset2_, kset_, kaug3_, kaug2_, kaug_s, kex_, kret_, kiff_t, kiff_f, kfr_, ev_var, ev_con, ev_glo, ev_b2, ev_neg, ev_cm, ev_cmN, ev_ch, ev_bo, evB_1, evB_2, ev_nt, ev_ie, ev_tp, ev_ls, ev_ix, ev_sl, ev_cf, ev_ck, ev_cb, ev_mt, ev_isi, ev_lc, evA_n, evA_c, evA_s, evO_n, evO_s, evT_v, evT_cm, evT_cmN, evT_ch, evT_bo, evT_nt, evT_y, evTs_1, evTs_2, evI_s, evI_r, evI_e, evI_z, ex_asg, ex_setl, ex_aug, ex_ex, ex_ret, ex_retn, ex_iff, ex_wh, ex_fr, ex_br, ex_ct, ex_ps, ex_n, ex_c, asG_n, asG_t, obs_s, asGs_n, asGs_c, frB_, frR_s, lcB_, lcR_s, klB2_, klB_t, klB_f, wipeS_n, wipeS_c, add_i, sub_i, ipadd_i, ipsub_i, eq_i, eq_s, eq_b, eq_ni, eq_in, eq_nn, ne_i, ne_s, ne_ni, ne_in, ne_nn, lt_i, le_i, gt_i, ge_i, tru_b, tru_i, tru_n, tru_t, it0, it1, it2, it3, abs_i, max_i, min_i, len_t0, len_t1, len_t2, len_t3, int_i, tupR_0, tupR_1, tupR_2, tupR_3, tupR_4, tupR_8, mk_0, mk_1, mk_2, mk_3, mk_4, mk_6, int_b, list_t, List.map_cons, List.map_nil, List.replicate_succ, List.replicate_zero, Nat.reduceSub, Nat.reduceAdd, List.cons_append, List.nil_append, List.set_cons_zero, List.set_cons_succ, Ty.has, Bool.not_true, Bool.not_false, decide_true, decide_false, S_require_heard L d s hs ok h0]
  rw [S_tone_of L.t22 L.t23 L.t24 rate d s hs (by omega) (fun r hr => by have := ok.rt r hr; omega)]
  simp only [bind_ok, stm_ok, seq_nx, seq_rt, seq_bk, seq_ct, fin_nx, fin_rt, getS_0, getS_s, ofO_s, ofB_s, ofT_s, negD_i, isN_n, isN_i, isN_t, isN_r, isN_s, isN_b, notD_b, ooR_i, asgR_s, seqI_t, kb2_, kcm'_, kcm_, kcmN_, chE_t, chE_f, kch2_, kch_, boC_tt, boC_tf, boC_ft, boC_ff, kbo_, kie_t, kie_f, kix_, ksl2_, ksl_, kck2_, kck_, kmt_, kisi_, klc_, kA2_, kA_, kst2_, kst_t, kT_, kcmT'_, kcmT_, kcmNT_, chT_t, chT_f, kchT2_, kchT_, kTs_tt, kTs_tf, kTs_ft, kTs_ff, kntT_, kzip_, kasg_, kset2_, kset_, kaug3_, kaug2_, kaug_s, kex_, kret_, kiff_t, kiff_f, kfr_, ev_var, ev_con, ev_glo, ev_b2, ev_neg, ev_cm, ev_cmN, ev_ch, ev_bo, evB_1, evB_2, ev_nt, ev_ie, ev_tp, ev_ls, ev_ix, ev_sl, ev_cf, ev_ck, ev_cb, ev_mt, ev_isi, ev_lc, evA_n, evA_c, evA_s, evO_n, evO_s, evT_v, evT_cm, evT_cmN, evT_ch, evT_bo, evT_nt, evT_y, evTs_1, evTs_2, evI_s, evI_r, evI_e, evI_z, ex_asg, ex_setl, ex_aug, ex_ex, ex_ret, ex_retn, ex_iff, ex_wh, ex_fr, ex_br, ex_ct, ex_ps, ex_n, ex_c, asG_n, asG_t, obs_s, asGs_n, asGs_c, frB_, frR_s, lcB_, lcR_s, klB2_, klB_t, klB_f, wipeS_n, wipeS_c, add_i, sub_i, ipadd_i, ipsub_i, eq_i, eq_s, eq_b, eq_ni, eq_in, eq_nn, ne_i, ne_s, ne_ni, ne_in, ne_nn, lt_i, le_i, gt_i, ge_i, tru_b, tru_i, tru_n, tru_t, it0, it1, it2, it3, abs_i, max_i, min_i, len_t0, len_t1, len_t2, len_t3, int_i, tupR_0, tupR_1, tupR_2, tupR_3, tupR_4, tupR_8, mk_0, mk_1, mk_2, mk_3, mk_4, mk_6, int_b, list_t, List.map_cons, List.map_nil, List.replicate_succ, List.replicate_zero, Nat.reduceSub, Nat.reduceAdd, List.cons_append, List.nil_append, List.set_cons_zero, List.set_cons_succ, Ty.has, Bool.not_true, Bool.not_false, decide_true, decide_false]
  rfl
end
end G4

/-! S3: texts of data, what the stages tell. -/
namespace G4
open PySem PyProof.Rows

/-! ### a text of data that fits -/
structure Rp (n L : Nat) (p : PyData) : Prop where
  sh : p.showable = true
  nd : p.hasDict = false
  dp : p.depth ≤ n
  ln : p.shown.length ≤ L
theorem Rp.mono {n n' L L' : Nat} {p : PyData} (r : Rp n L p) (h1 : n ≤ n') (h2 : L ≤ L') : Rp n' L' p := ⟨r.sh, r.nd, Nat.le_trans r.dp h1, Nat.le_trans r.ln h2⟩
theorem Rp_none : Rp 0 4 .none := ⟨rfl, rfl, Nat.le_refl _, by decide⟩
theorem Rp_int {i : Int} (h : i.natAbs.log2 < 1920) : Rp 0 1921 (.int i) := ⟨decide_eq_true h, rfl, Nat.le_refl _, int_text_len_1921 h⟩
theorem Rp_str (x : Str) : Rp 0 (reprText x).length (.str x) := ⟨rfl, rfl, Nat.le_refl _, Nat.le_refl _⟩
theorem showAll : ∀ {ps : List PyData}, (∀ p ∈ ps, p.showable = true) → PyData.showableAll ps = true
  | [], _ => rfl
  | p :: ps, h => by
    simp only [PyData.showableAll, h p (List.mem_cons_self ..), showAll fun q hq => h q (List.mem_cons_of_mem _ hq), Bool.and_self]
theorem dictAll : ∀ {ps : List PyData}, (∀ p ∈ ps, p.hasDict = false) → PyData.hasDictAll ps = false
  | [], _ => rfl
  | p :: ps, h => by
    simp only [PyData.hasDictAll, h p (List.mem_cons_self ..), dictAll fun q hq => h q (List.mem_cons_of_mem _ hq), Bool.or_self]
theorem depAll {n : Nat} : ∀ {ps : List PyData}, (∀ p ∈ ps, p.depth ≤ n) → PyData.depthAll ps ≤ n
  | [], _ => Nat.zero_le _
  | p :: ps, h => Nat.max_le.mpr ⟨h p (List.mem_cons_self ..), depAll fun q hq => h q (List.mem_cons_of_mem _ hq)⟩
theorem piled_le {L : Nat} : ∀ {ps : List PyData}, (∀ p ∈ ps, p.shown.length ≤ L) → piled (PyData.shownAll ps) ≤ ps.length * (L + 2)
  | [], _ => Nat.zero_le _
  | p :: ps, h => by
    have h1 := h p (List.mem_cons_self ..)
    have h2 := piled_le fun q hq => h q (List.mem_cons_of_mem _ hq)
    show piled (p.shown :: PyData.shownAll ps) ≤ _
    rw [piled_cons, List.length_cons, Nat.add_mul]
    omega
theorem listText_le {ts : List Str} : (listText ts).length ≤ piled ts + 2 := by
  unfold listText
  rw [strLen_append]
  have e1 : (("]" : String) : Str).length = 1 := rfl
  rw [e1]
  cases ts with
  | nil => decide
  | cons t r =>
    show (textFrom (0 + 1) (("[" : Str) ++ (if 0 > 0 then ", " else "" : String) ++ t) r).length + 1 ≤ _
    rw [textFrom_length_pos _ _ _ (by omega), strLen_append, strLen_append, piled_cons]
    have e2 : (("[" : String) : Str).length = 1 := rfl
    have e3 : (((if 0 > 0 then ", " else "" : String)) : Str).length = 0 := rfl
    rw [e2, e3]
    omega
theorem tupleText_le {ts : List Str} : (tupleText ts).length ≤ piled ts + 4 := by
  unfold tupleText
  rw [strLen_append, strLen_append]
  have e2 : (("(" : String) : Str).length = 1 := rfl
  have e3 : (((if ts.length == 1 then ",)" else ")" : String)) : Str).length ≤ 2 := by
    split <;> decide
  have e4 : (Str.join ", " ts).length ≤ piled ts := by
    cases ts with
    | nil => decide
    | cons t r =>
      have := join_length_add (t :: r) (by simp)
      omega
  omega
theorem Rp_list {n L : Nat} {ps : List PyData} (h : ∀ p ∈ ps, Rp n L p) : Rp (n + 1) (ps.length * (L + 2) + 2) (.list ps) := by
  refine ⟨showAll fun p hp => (h p hp).sh, dictAll fun p hp => (h p hp).nd, Nat.succ_le_succ (depAll fun p hp => (h p hp).dp), ?_⟩
  exact Nat.le_trans listText_le (Nat.add_le_add_right (piled_le fun p hp => (h p hp).ln) 2)
theorem Rp_tuple {n L : Nat} {ps : List PyData} (h : ∀ p ∈ ps, Rp n L p) : Rp (n + 1) (ps.length * (L + 2) + 4) (.tuple ps) := by
  refine ⟨showAll fun p hp => (h p hp).sh, dictAll fun p hp => (h p hp).nd, Nat.succ_le_succ (depAll fun p hp => (h p hp).dp), ?_⟩
  exact Nat.le_trans tupleText_le (Nat.add_le_add_right (piled_le fun p hp => (h p hp).ln) 4)
theorem repr_ok {h : Hv} {d : D} {p : PyData} (e : dat dp h d = some p) (r : Rp 12 lim p) : Bu.ev .repr [d] h = .ok (.str p.shown) h := by
  simp only [Bu.ev, e]
  rw [if_pos ⟨r.sh, r.nd, r.dp, r.ln⟩]
theorem optAll_map {α β γ : Type} {f : α → Option β} {e : γ → α} {g : γ → β} : ∀ {l : List γ}, (∀ x ∈ l, f (e x) = some (g x)) → optAll f (l.map e) = some (l.map g)
  | [], _ => rfl
  | x :: l, h => by
    simp only [List.map_cons, optAll, h x (List.mem_cons_self ..), optAll_map fun y hy => h y (List.mem_cons_of_mem _ hy)]
theorem dat_list {n a : Nat} {h : Hv} {xs : List D} {ps : List PyData} (e : h.get a = some xs) (e2 : optAll (dat n h) xs = some ps) : dat (n + 1) h (.ref a) = some (.list ps) := by
  simp only [dat, e, e2]
theorem dat_tup {n : Nat} {h : Hv} {xs : List D} {ps : List PyData} (e2 : optAll (dat n h) xs = some ps) : dat (n + 1) h (.tup xs) = some (.tuple ps) := by
  simp only [dat, e2]
theorem oD_s {i : Int} : oD (some i) = .int i := rfl
theorem oD_n : oD none = .non := rfl
def oP : Option Int → PyData
  | none => .none
  | some i => .int i
theorem dat_oD {n : Nat} {h : Hv} (x : Option Int) : dat (n + 1) h (oD x) = some (oP x) := by cases x <;> rfl
def Stg.P : Stg → PyData
  | .mix m => .tuple [.str "mix", .int m]
  | .pass l u => .tuple [.str "pass", .int l, .int u]
  | .dial m => .tuple [.str "dial", .int m]
theorem dat_stg {n : Nat} {h : Hv} (s : Stg) : dat (n + 2) h s.D = some s.P := by cases s <;> rfl
/-- numbers of moderate size -/
def sz (i : Int) : Prop := i.natAbs < 2 ^ 1000
def oSz (x : Option Int) : Prop := ∀ i, x = some i → sz i
theorem sz_log {i : Int} (h : sz i) : i.natAbs.log2 < 1920 := by
  by_cases z : i.natAbs = 0
  · rw [z]; decide
  · exact Nat.lt_of_lt_of_le ((Nat.log2_lt z).mpr h) (by omega)
theorem Rp_oP {x : Option Int} (h : oSz x) : Rp 0 1921 (oP x) := by
  cases x with
  | none => exact Rp_none.mono (Nat.le_refl _) (by omega)
  | some i => exact Rp_int (sz_log (h i rfl))
def Stg.Sz : Stg → Prop
  | .mix m => sz m
  | .pass l u => sz l ∧ sz u
  | .dial m => sz m
theorem Rp_stg {s : Stg} (h : s.Sz) : Rp 1 6000 s.P := by
  cases s with
  | mix m =>
    refine (Rp_tuple (n := 0) (L := 1921) fun p hp => ?_).mono (Nat.le_refl _) (by simp only [List.length_cons, List.length_nil]; omega)
    simp only [List.mem_cons, List.not_mem_nil, or_false] at hp
    rcases hp with rfl | rfl
    · exact (Rp_str _).mono (Nat.le_refl _) (by decide +kernel)
    · exact Rp_int (sz_log h)
  | pass l u =>
    refine (Rp_tuple (n := 0) (L := 1921) fun p hp => ?_).mono (Nat.le_refl _) (by simp only [List.length_cons, List.length_nil]; omega)
    simp only [List.mem_cons, List.not_mem_nil, or_false] at hp
    rcases hp with rfl | rfl | rfl
    · exact (Rp_str _).mono (Nat.le_refl _) (by decide +kernel)
    · exact Rp_int (sz_log h.1)
    · exact Rp_int (sz_log h.2)
  | dial m =>
    refine (Rp_tuple (n := 0) (L := 1921) fun p hp => ?_).mono (Nat.le_refl _) (by simp only [List.length_cons, List.length_nil]; omega)
    simp only [List.mem_cons, List.not_mem_nil, or_false] at hp
    rcases hp with rfl | rfl
    · exact (Rp_str _).mono (Nat.le_refl _) (by decide +kernel)
    · exact Rp_int (sz_log h)
def rcvP (ss : List Stg) (rate : Option Int) : PyData := .tuple [.list (ss.map Stg.P), oP rate]
theorem dat_rcv {n a : Nat} {h : Hv} {ss : List Stg} {rate : Option Int} (hs : h.get a = some (ss.map Stg.D)) : dat (n + 4) h (.tup [.ref a, oD rate]) = some (rcvP ss rate) := by
  refine dat_tup ?_
  simp only [optAll, dat_list hs (optAll_map fun s _ => dat_stg s), dat_oD]
theorem Rp_rcv {ss : List Stg} {rate : Option Int} (h : ∀ s ∈ ss, s.Sz) (hr : oSz rate) (hl : ss.length ≤ 8) : Rp 3 110000 (rcvP ss rate) := by
  refine (Rp_tuple (n := 2) (L := 50000) fun p hp => ?_).mono (Nat.le_refl _) (by simp only [List.length_cons, List.length_nil]; omega)
  simp only [List.mem_cons, List.not_mem_nil, or_false] at hp
  rcases hp with rfl | rfl
  · refine (Rp_list (n := 1) (L := 6000) fun p hp => ?_).mono (Nat.le_refl _) (by rw [List.length_map]; omega)
    obtain ⟨s, hs, rfl⟩ := List.mem_map.mp hp
    exact Rp_stg (h s hs)
  · exact (Rp_oP hr).mono (by omega) (by omega)
/-- a list of tones -/
theorem dat_os {n a : Nat} {h : Hv} {xs : List (Option Int)} (e : h.get a = some (xs.map oD)) : dat (n + 2) h (.ref a) = some (.list (xs.map oP)) := dat_list e (optAll_map fun x _ => dat_oD x)
theorem Rp_os {xs : List (Option Int)} (hx : ∀ x ∈ xs, oSz x) (hl : xs.length ≤ 100) : Rp 1 200000 (.list (xs.map oP)) := by
  refine (Rp_list (n := 0) (L := 1921) fun p hp => ?_).mono (Nat.le_refl _) (by rw [List.length_map]; omega)
  obtain ⟨x, h, rfl⟩ := List.mem_map.mp hp
  exact Rp_oP (hx x h)

/-! ### what the stages tell -/
def runs (ss : List Stg) (d s : Int) (n : Nat) : List (Option Int) := (List.range n).map fun i => tones (ss.take (i + 1)) d (some s)
def parts (ss : List Stg) (rate : Option Int) (d s : Int) : List (Option Int) := match rate with
  | none => runs ss d s ss.length
  | some r => runs ss d s ss.length ++ [toneAt ss (some r) d s]
theorem runs_succ {ss : List Stg} {d s : Int} {n : Nat} : runs ss d s (n + 1) = runs ss d s n ++ [tones (ss.take (n + 1)) d (some s)] := by
  unfold runs
  rw [List.range_succ, List.map_append]
  rfl
theorem tones_take {ss : List Stg} {d : Int} {x : Option Int} {i : Nat} {s : Stg} (e : ss[i]? = some s) : tones (ss.take (i + 1)) d x = stageTone d s (tones (ss.take i) d x) := by
  unfold tones
  rw [List.take_add_one, e, List.foldl_append]
  rfl
theorem set_new {h : Hv} {o o' : Ob} : (h ++ [o]).set h.length o' = h ++ [o'] := by simp
theorem oN {x : Option Int} : isN false (oD x) = decide (x = none) := by cases x <;> rfl
/-- a new list that tells -/
def Tells (h : Hv) (xs : List D) (d : D) (h' : Hv) : Prop := ∃ a, d = .ref a ∧ h.length ≤ a ∧ h'.lst a = some xs ∧ Hx h h'
section
variable {T : Tab} {k : Nat} {h : Hv}
theorem S_stage_tones (L : LibA T) (t : T 30 = some f_stage_tones) {a : Nat} {ss : List Stg} {rate : Option Int} (d s : Int) (hs : h.get a = some (ss.map Stg.D)) (ok : RcvOk ss rate) (h0 : 0 ≤ s) :
    (den T (k + 8) 30 [.tup [.ref a, oD rate], .int d, .int s] h).Sat (Tells h ((parts ss rate d s).map oD)) := by
  rw [den_fn t rfl]
  have hm := ok.most
  have hs1 : ∀ g : Hv, Hv.get (h ++ g) a = some (ss.map Stg.D) := fun g => (Hx.app h g).get hs
  simp only [f_stage_tones, bind_ok, stm_ok, seq_nx, seq_rt, seq_bk, seq_ct, fin_nx, fin_rt, getS_0, getS_s, ofO_s, ofB_s, ofT_s, negD_i, isN_n, isN_i, isN_t, isN_r, isN_s, isN_b, notD_b, ooR_i, asgR_s, seqI_t, kb2_, kcm'_, kcm_, kcmN_, chE_t, chE_f, kch2_, kch_, boC_tt, boC_tf, boC_ft, boC_ff, kbo_, kie_t, kie_f, kix_, ksl2_, ksl_, kck2_, kck_, kmt_, kisi_, klc_, kA2_, kA_, kst2_, kst_t, kT_, kcmT'_, kcmT_, kcmNT_, chT_t, chT_f, kchT2_, kchT_, kTs_tt, kTs_tf, kTs_ft, kTs_ff, kntT_, kzip_, kasg_, kset2_, kset_, kaug3_, kaug2_, kaug_s, kex_, kret_, kiff_t, kiff_f, kfr_, ev_var, ev_con, ev_glo, ev_b2, ev_neg, ev_cm, ev_cmN, ev_ch, ev_bo, evB_1, evB_2, ev_nt, ev_ie, ev_tp, ev_ls, ev_ix, ev_sl, ev_cf, ev_ck, ev_cb, ev_mt, ev_isi, ev_lc, evA_n, evA_c, evA_s, evO_n, evO_s, evT_v, evT_cm, evT_cmN, evT_ch, evT_bo, evT_nt, evT_y, evTs_1, evTs_2, evI_s, evI_r, evI_e, evI_z, ex_asg, ex_setl, ex_aug, ex_ex, ex_ret, ex_retn, ex_iff, ex_wh, ex_fr, ex_br, ex_ct, ex_ps, ex_n, ex_c, asG_n, asG_t, obs_s, asGs_n, asGs_c, frB_, frR_s, lcB_, lcR_s, klB2_, klB_t, klB_f, wipeS_n, wipeS_c, add_i, sub_i, ipadd_i, ipsub_i, eq_i, eq_s, eq_b, eq_ni, eq_in, eq_nn, ne_i, ne_s, ne_ni, ne_in, ne_nn, lt_i, le_i, gt_i, ge_i, tru_b, tru_i, tru_n, tru_t, it0, it1, it2, it3, abs_i, max_i, min_i, len_t0, len_t1, len_t2, len_t3, int_i, tupR_0, tupR_1, tupR_2, tupR_3, tupR_4, tupR_8, mk_0, mk_1, mk_2, mk_3, mk_4, mk_6, int_b, list_t, List.map_cons, List.map_nil, List.replicate_succ, List.replicate_zero, Nat.reduceSub, Nat.reduceAdd, List.cons_append, List.nil_append, List.set_cons_zero, List.set_cons_succ, Ty.has, Bool.not_true, Bool.not_false, decide_true, decide_false, S_require_heard L d s hs ok h0, seqI_r (hs1 _)]
  have := forL_inv (nxt := It.nxt (.lst a)) (bod := frB (den T (k + 7)) (.nm 7) (.cons (.asg (.nm 6) (.cf 22 (.cons (.var 7) (.cons (.var 1) (.cons (.var 6) .nil))))) 
    (.cons (.ex (.mt .append (.var 5) (.cons (.var 6) .nil))) 
    .nil)))
    (B := fun τ h' => h' = h ++ [.lst ((runs ss d s ss.length).map oD)] ∧ ∃ y, τ = [some (.tup [.ref a, oD rate]), some (.int d), some (.int s), some (.ref a), some (oD rate), some (.ref h.length), some (oD (tones ss d (some s))), y]) (Q := fun _ _ => False)
    (ss.map Stg.D)
    (fun i τ h' => h' = h ++ [.lst ((runs ss d s i).map oD)] ∧ ∃ y, τ = [some (.tup [.ref a, oD rate]), some (.int d), some (.int s), some (.ref a), some (oD rate), some (.ref h.length), some (oD (tones (ss.take i) d (some s))), y])
    (fun i τ h' hI => by rw [hI.1]; exact nxt_lst (hs1 _) i)
    (fun i d' τ h' hd hI => by
      obtain ⟨rfl, y, rfl⟩ := hI
      rw [List.getElem?_map] at hd
      cases q : ss[i]? with
      | none => rw [q] at hd; cases hd
      | some x =>
        rw [q] at hd
        cases hd
        have hi : i < ss.length := (List.getElem?_eq_some_iff.mp q).1
        have hl : ((runs ss d s i).map oD).length < lim := by unfold runs lim; simp; omega
        simp only [bind_ok, stm_ok, seq_nx, seq_rt, seq_bk, seq_ct, fin_nx, fin_rt, getS_0, getS_s, ofO_s, ofB_s, ofT_s, negD_i, isN_n, isN_i, isN_t, isN_r, isN_s, isN_b, notD_b, ooR_i, asgR_s, seqI_t, kb2_, kcm'_, kcm_, kcmN_, chE_t, chE_f, kch2_, kch_, boC_tt, boC_tf, boC_ft, boC_ff, kbo_, kie_t, kie_f, kix_, ksl2_, ksl_, kck2_, kck_, kmt_, kisi_, klc_, kA2_, kA_, kst2_, kst_t, kT_, kcmT'_, kcmT_, kcmNT_, chT_t, chT_f, kchT2_, kchT_, kTs_tt, kTs_tf, kTs_ft, kTs_ff, kntT_, kzip_, kasg_, kset2_, kset_, kaug3_, kaug2_, kaug_s, kex_, kret_, kiff_t, kiff_f, kfr_, ev_var, ev_con, ev_glo, ev_b2, ev_neg, ev_cm, ev_cmN, ev_ch, ev_bo, evB_1, evB_2, ev_nt, ev_ie, ev_tp, ev_ls, ev_ix, ev_sl, ev_cf, ev_ck, ev_cb, ev_mt, ev_isi, ev_lc, evA_n, evA_c, evA_s, evO_n, evO_s, evT_v, evT_cm, evT_cmN, evT_ch, evT_bo, evT_nt, evT_y, evTs_1, evTs_2, evI_s, evI_r, evI_e, evI_z, ex_asg, ex_setl, ex_aug, ex_ex, ex_ret, ex_retn, ex_iff, ex_wh, ex_fr, ex_br, ex_ct, ex_ps, ex_n, ex_c, asG_n, asG_t, obs_s, asGs_n, asGs_c, frB_, frR_s, lcB_, lcR_s, klB2_, klB_t, klB_f, wipeS_n, wipeS_c, add_i, sub_i, ipadd_i, ipsub_i, eq_i, eq_s, eq_b, eq_ni, eq_in, eq_nn, ne_i, ne_s, ne_ni, ne_in, ne_nn, lt_i, le_i, gt_i, ge_i, tru_b, tru_i, tru_n, tru_t, it0, it1, it2, it3, abs_i, max_i, min_i, len_t0, len_t1, len_t2, len_t3, int_i, tupR_0, tupR_1, tupR_2, tupR_3, tupR_4, tupR_8, mk_0, mk_1, mk_2, mk_3, mk_4, mk_6, int_b, list_t, List.map_cons, List.map_nil, List.replicate_succ, List.replicate_zero, Nat.reduceSub, Nat.reduceAdd, List.cons_append, List.nil_append, List.set_cons_zero, List.set_cons_succ, Ty.has, Bool.not_true, Bool.not_false, decide_true, decide_false, S_stage_tone L.t22, append_r lst_new hl, satbN, set_new]
        refine ⟨?_, ?_, ?_⟩
        · rw [runs_succ, List.map_append, tones_take q]; rfl
        rotate_left
        · rw [tones_take q])
    (fun τ h' hI => by
      obtain ⟨e, y, q⟩ := hI
      rw [List.length_map] at e q
      rw [List.take_length] at q
      exact ⟨e, y, q⟩) turns 0 [some (.tup [.ref a, oD rate]), some (.int d), some (.int s), some (.ref a), some (oD rate), some (.ref h.length), some (.int s), none] (h ++ [.lst []]) ⟨rfl, _, rfl⟩ (Nat.zero_le _) (by simp; unfold turns; omega)
  revert this
  generalize forL _ _ _ _ _ _ = r
  intro this
  cases r with
  | nx τ h' =>
    obtain ⟨rfl, y, rfl⟩ := this
    cases rate with
    | none =>
      simp only [bind_ok, stm_ok, seq_nx, seq_rt, seq_bk, seq_ct, fin_nx, fin_rt, getS_0, getS_s, ofO_s, ofB_s, ofT_s, negD_i, isN_n, isN_i, isN_t, isN_r, isN_s, isN_b, notD_b, ooR_i, asgR_s, seqI_t, kb2_, kcm'_, kcm_, kcmN_, chE_t, chE_f, kch2_, kch_, boC_tt, boC_tf, boC_ft, boC_ff, kbo_, kie_t, kie_f, kix_, ksl2_, ksl_, kck2_, kck_, kmt_, kisi_, klc_, kA2_, kA_, kst2_, kst_t, kT_, kcmT'_, kcmT_, kcmNT_, chT_t, chT_f, kchT2_, kchT_, kTs_tt, kTs_tf, kTs_ft, kTs_ff, kntT_, kzip_, kasg_, kset2_, kset_, kaug3_, kaug2_, kaug_s, kex_, kret_, kiff_t, kiff_f, kfr_, ev_var, ev_con, ev_glo, ev_b2, ev_neg, ev_cm, ev_cmN, ev_ch, ev_bo, evB_1, evB_2, ev_nt, ev_ie, ev_tp, ev_ls, ev_ix, ev_sl, ev_cf, ev_ck, ev_cb, ev_mt, ev_isi, ev_lc, evA_n, evA_c, evA_s, evO_n, evO_s, evT_v, evT_cm, evT_cmN, evT_ch, evT_bo, evT_nt, evT_y, evTs_1, evTs_2, evI_s, evI_r, evI_e, evI_z, ex_asg, ex_setl, ex_aug, ex_ex, ex_ret, ex_retn, ex_iff, ex_wh, ex_fr, ex_br, ex_ct, ex_ps, ex_n, ex_c, asG_n, asG_t, obs_s, asGs_n, asGs_c, frB_, frR_s, lcB_, lcR_s, klB2_, klB_t, klB_f, wipeS_n, wipeS_c, add_i, sub_i, ipadd_i, ipsub_i, eq_i, eq_s, eq_b, eq_ni, eq_in, eq_nn, ne_i, ne_s, ne_ni, ne_in, ne_nn, lt_i, le_i, gt_i, ge_i, tru_b, tru_i, tru_n, tru_t, it0, it1, it2, it3, abs_i, max_i, min_i, len_t0, len_t1, len_t2, len_t3, int_i, tupR_0, tupR_1, tupR_2, tupR_3, tupR_4, tupR_8, mk_0, mk_1, mk_2, mk_3, mk_4, mk_6, int_b, list_t, List.map_cons, List.map_nil, List.replicate_succ, List.replicate_zero, Nat.reduceSub, Nat.reduceAdd, List.cons_append, List.nil_append, List.set_cons_zero, List.set_cons_succ, Ty.has, Bool.not_true, Bool.not_false, decide_true, decide_false, oD_n, sat_ok]
      exact ⟨_, rfl, Nat.le_refl _, lst_new, Hx.app _ _⟩
    | some r =>
      have hr := ok.rt r rfl
      have e1 := S_sampled (T := T) (k := k + 6) (h := h ++ [.lst ((runs ss d s ss.length).map oD)]) L.t23 (some r) (tones ss d (some s)) (fun r' e => by cases e; omega)
      have hl : (List.map oD (runs ss d s ss.length) ++ [oD (sampled (some r) (tones ss d (some s)))]).length ≤ lim := by unfold runs lim; simp; omega
      simp only [oD_s] at e1
      simp only [bind_ok, stm_ok, seq_nx, seq_rt, seq_bk, seq_ct, fin_nx, fin_rt, getS_0, getS_s, ofO_s, ofB_s, ofT_s, negD_i, isN_n, isN_i, isN_t, isN_r, isN_s, isN_b, notD_b, ooR_i, asgR_s, seqI_t, kb2_, kcm'_, kcm_, kcmN_, chE_t, chE_f, kch2_, kch_, boC_tt, boC_tf, boC_ft, boC_ff, kbo_, kie_t, kie_f, kix_, ksl2_, ksl_, kck2_, kck_, kmt_, kisi_, klc_, kA2_, kA_, kst2_, kst_t, kT_, kcmT'_, kcmT_, kcmNT_, chT_t, chT_f, kchT2_, kchT_, kTs_tt, kTs_tf, kTs_ft, kTs_ff, kntT_, kzip_, kasg_, kset2_, kset_, kaug3_, kaug2_, kaug_s, kex_, kret_, kiff_t, kiff_f, kfr_, ev_var, ev_con, ev_glo, ev_b2, ev_neg, ev_cm, ev_cmN, ev_ch, ev_bo, evB_1, evB_2, ev_nt, ev_ie, ev_tp, ev_ls, ev_ix, ev_sl, ev_cf, ev_ck, ev_cb, ev_mt, ev_isi, ev_lc, evA_n, evA_c, evA_s, evO_n, evO_s, evT_v, evT_cm, evT_cmN, evT_ch, evT_bo, evT_nt, evT_y, evTs_1, evTs_2, evI_s, evI_r, evI_e, evI_z, ex_asg, ex_setl, ex_aug, ex_ex, ex_ret, ex_retn, ex_iff, ex_wh, ex_fr, ex_br, ex_ct, ex_ps, ex_n, ex_c, asG_n, asG_t, obs_s, asGs_n, asGs_c, frB_, frR_s, lcB_, lcR_s, klB2_, klB_t, klB_f, wipeS_n, wipeS_c, add_i, sub_i, ipadd_i, ipsub_i, eq_i, eq_s, eq_b, eq_ni, eq_in, eq_nn, ne_i, ne_s, ne_ni, ne_in, ne_nn, lt_i, le_i, gt_i, ge_i, tru_b, tru_i, tru_n, tru_t, it0, it1, it2, it3, abs_i, max_i, min_i, len_t0, len_t1, len_t2, len_t3, int_i, tupR_0, tupR_1, tupR_2, tupR_3, tupR_4, tupR_8, mk_0, mk_1, mk_2, mk_3, mk_4, mk_6, int_b, list_t, List.map_cons, List.map_nil, List.replicate_succ, List.replicate_zero, Nat.reduceSub, Nat.reduceAdd, List.cons_append, List.nil_append, List.set_cons_zero, List.set_cons_succ, Ty.has, Bool.not_true, Bool.not_false, decide_true, decide_false, oD_s, kst_r get_new, e1, mk_le hl, sat_ok]
      refine ⟨_, rfl, by simp, ?_, (Hx.app _ _).push _⟩
      rw [lst_new]
      unfold parts
      simp [toneAt]
  | _ => exact False.elim this
end
end G4

/-! S4: the jar that numbers are drawn from. -/
namespace G4
open PySem PyProof.Rows

structure ExtX (a : Nat) (h h' : Hv) : Prop where
  le : h.length ≤ h'.length
  at_ : ∀ i, i < h.length → i ≠ a → h'[i]? = h[i]?
theorem ExtX.refl (a : Nat) (h : Hv) : ExtX a h h := ⟨Nat.le_refl _, fun _ _ _ => rfl⟩
theorem ExtX.trans {a : Nat} {h h' h'' : Hv} (x : ExtX a h h') (y : ExtX a h' h'') : ExtX a h h'' := ⟨Nat.le_trans x.le y.le, fun i hi hn => by rw [y.at_ i (Nat.lt_of_lt_of_le hi x.le) hn, x.at_ i hi hn]⟩
theorem Hx.x {a : Nat} {h h' : Hv} (x : Hx h h') : ExtX a h h' := ⟨x.le, fun i hi _ => x.at_ i hi⟩
theorem ExtX.set {a : Nat} {h : Hv} {o : Ob} : ExtX a h (h.set a o) := ⟨by simp, fun i _ hn => List.getElem?_set_ne (fun e => hn e.symm)⟩
theorem ExtX.get {a : Nat} {h h' : Hv} (x : ExtX a h h') {i : Nat} {xs : List D} (hn : i ≠ a) (e : h.get i = some xs) : h'.get i = some xs := by
  have := x.at_ i (get_lt e) hn
  unfold Hv.get at e ⊢
  rw [this]; exact e
theorem ExtX.lst {a : Nat} {h h' : Hv} (x : ExtX a h h') {i : Nat} {xs : List D} (hn : i ≠ a) (e : h.lst i = some xs) : h'.lst i = some xs := by
  have := x.at_ i (lst_lt e) hn
  unfold Hv.lst at e ⊢
  rw [this]; exact e
def Jar (h : Hv) (a n : Nat) : Prop := ∃ j0 j1 c : Int, h.lst a = some [.int j0, .int j1, .int c] ∧ 0 ≤ j1 ∧ j1 < 2 ^ 100 ∧ 0 ≤ c ∧ c ≤ n
theorem Jar.mono {h : Hv} {a n m : Nat} (j : Jar h a n) (e : n ≤ m) : Jar h a m := by
  obtain ⟨j0, j1, c, q, a1, a2, a3, a4⟩ := j
  exact ⟨j0, j1, c, q, a1, a2, a3, by omega⟩
theorem Jar.lt {h : Hv} {a n : Nat} (j : Jar h a n) : a < h.length := by
  obtain ⟨j0, j1, c, q, a1, a2, a3, a4⟩ := j
  exact lst_lt q
theorem Jar.ext {h h' : Hv} {a n : Nat} (j : Jar h a n) (x : Hx h h') : Jar h' a n := by
  obtain ⟨j0, j1, c, q, a1, a2, a3, a4⟩ := j
  exact ⟨j0, j1, c, x.lst q, a1, a2, a3, a4⟩
theorem Jar.keep {h : Hv} {a n b : Nat} {o : Ob} (j : Jar h a n) (e : b ≠ a) : Jar (h.set b o) a n := by
  obtain ⟨j0, j1, c, q, a1, a2, a3, a4⟩ := j
  exact ⟨j0, j1, c, by rw [lst_set_ne e]; exact q, a1, a2, a3, a4⟩
theorem ir0 {a : Nat} {x : D} {xs : List D} {h : Hv} (e : h.get a = some (x :: xs)) : itemD (.ref a) (.int 0) h = .ok x h := itr e (j := 0) (idx_nn (by omega) (by simp only [List.length_cons]; omega)) rfl
theorem ir1 {a : Nat} {x y : D} {xs : List D} {h : Hv} (e : h.get a = some (x :: y :: xs)) : itemD (.ref a) (.int 1) h = .ok y h := itr e (j := 1) (idx_nn (by omega) (by simp only [List.length_cons]; omega)) rfl
theorem ir2 {a : Nat} {x y z : D} {xs : List D} {h : Hv} (e : h.get a = some (x :: y :: z :: xs)) : itemD (.ref a) (.int 2) h = .ok z h := itr e (j := 2) (idx_nn (by omega) (by simp only [List.length_cons]; omega)) rfl
theorem sr0 {a : Nat} {x v : D} {xs : List D} {τ : Sl} {h : Hv} (e : h.lst a = some (x :: xs)) : setR τ v (.ref a) (.int 0) h = .nx τ (h.set a (.lst (v :: xs))) := setR_r e (j := 0) (idx_nn (by omega) (by simp only [List.length_cons]; omega))
theorem sr2 {a : Nat} {x y z v : D} {xs : List D} {τ : Sl} {h : Hv} (e : h.lst a = some (x :: y :: z :: xs)) : setR τ v (.ref a) (.int 2) h = .nx τ (h.set a (.lst (x :: y :: v :: xs))) := setR_r e (j := 2) (idx_nn (by omega) (by simp only [List.length_cons]; omega))
theorem p10 (n : Nat) {h : Hv} (hn : n ≤ 100) : O2.ev .pow (.int 10) (.int n) h = .ok (.int (10 ^ n)) h := by
  rw [pow_i ⟨by omega, by omega, by decide +kernel⟩]
  simp
theorem p10_18 {h : Hv} : O2.ev .pow (.int 10) (.int 18) h = .ok (.int 1000000000000000000) h := p10 18 (by decide)
theorem p10_27 {h : Hv} : O2.ev .pow (.int 10) (.int 27) h = .ok (.int 1000000000000000000000000000) h := p10 27 (by decide)
theorem p10_30 {h : Hv} : O2.ev .pow (.int 10) (.int 30) h = .ok (.int 1000000000000000000000000000000) h := p10 30 (by decide)
theorem p10_38 {h : Hv} : O2.ev .pow (.int 10) (.int 38) h = .ok (.int 100000000000000000000000000000000000000) h := p10 38 (by decide)
theorem p10_39 {h : Hv} : O2.ev .pow (.int 10) (.int 39) h = .ok (.int 1000000000000000000000000000000000000000) h := p10 39 (by decide)
theorem p10_42 {h : Hv} : O2.ev .pow (.int 10) (.int 42) h = .ok (.int 1000000000000000000000000000000000000000000) h := p10 42 (by decide)
theorem p3 {i : Int} {h : Hv} (e : sm i = true) : O2.ev .pow (.int i) (.int 3) h = .ok (.int (i ^ 3)) h := by
  rw [pow_i ⟨by omega, by omega, e⟩]
  rfl
theorem sm_b {i : Int} (h1 : -(2 ^ 4000) < i) (h2 : i < 2 ^ 4000) : sm i = true := sm_le 4000 (by omega) (by omega)
theorem sm_611953 : sm 611953 = true := by decide +kernel
theorem sm_86028121 : sm 86028121 = true := by decide +kernel
theorem sm_919393 : sm 919393 = true := by decide +kernel
theorem sm_90017 : sm 90017 = true := by decide +kernel
section
variable {T : Tab} {k : Nat} {h : Hv}
theorem S_pick (t : T 13 = some f_law_pick) {a n : Nat} {b : Int} (J : Jar h a n) (hn : n < 2 ^ 60) (hb : 0 < b) (hb2 : b < 2 ^ 1000) :
    (den T (k + 1) 13 [.ref a, .int b] h).Sat fun d h' => ∃ v, d = .int v ∧ 0 ≤ v ∧ v < b ∧ h'.length = h.length ∧ ExtX a h h' ∧ Jar h' a (n + 1) := by
  obtain ⟨j0, j1, c, e, a1, a2, a3, a4⟩ := J
  have hlt := lst_lt e
  have hg := get_of_lst e
  have sb : sm b = true := sm_b (by omega) (by omega)
  rw [den_fn t rfl]
  simp only [f_law_pick, bind_ok, stm_ok, seq_nx, seq_rt, seq_bk, seq_ct, fin_nx, fin_rt, getS_0, getS_s, ofO_s, ofB_s, ofT_s, negD_i, isN_n, isN_i, isN_t, isN_r, isN_s, isN_b, notD_b, ooR_i, asgR_s, seqI_t, kb2_, kcm'_, kcm_, kcmN_, chE_t, chE_f, kch2_, kch_, boC_tt, boC_tf, boC_ft, boC_ff, kbo_, kie_t, kie_f, kix_, ksl2_, ksl_, kck2_, kck_, kmt_, kisi_, klc_, kA2_, kA_, kst2_, kst_t, kT_, kcmT'_, kcmT_, kcmNT_, chT_t, chT_f, kchT2_, kchT_, kTs_tt, kTs_tf, kTs_ft, kTs_ff, kntT_, kzip_, kasg_, kset2_, kset_, kaug3_, kaug2_, kaug_s, kex_, kret_, kiff_t, kiff_f, kfr_, ev_var, ev_con, ev_glo, ev_b2, ev_neg, ev_cm, ev_cmN, ev_ch, ev_bo, evB_1, evB_2, ev_nt, ev_ie, ev_tp, ev_ls, ev_ix, ev_sl, ev_cf, ev_ck, ev_cb, ev_mt, ev_isi, ev_lc, evA_n, evA_c, evA_s, evO_n, evO_s, evT_v, evT_cm, evT_cmN, evT_ch, evT_bo, evT_nt, evT_y, evTs_1, evTs_2, evI_s, evI_r, evI_e, evI_z, ex_asg, ex_setl, ex_aug, ex_ex, ex_ret, ex_retn, ex_iff, ex_wh, ex_fr, ex_br, ex_ct, ex_ps, ex_n, ex_c, asG_n, asG_t, obs_s, asGs_n, asGs_c, frB_, frR_s, lcB_, lcR_s, klB2_, klB_t, klB_f, wipeS_n, wipeS_c, add_i, sub_i, ipadd_i, ipsub_i, eq_i, eq_s, eq_b, eq_ni, eq_in, eq_nn, ne_i, ne_s, ne_ni, ne_in, ne_nn, lt_i, le_i, gt_i, ge_i, tru_b, tru_i, tru_n, tru_t, it0, it1, it2, it3, abs_i, max_i, min_i, len_t0, len_t1, len_t2, len_t3, int_i, tupR_0, tupR_1, tupR_2, tupR_3, tupR_4, tupR_8, mk_0, mk_1, mk_2, mk_3, mk_4, mk_6, int_b, list_t, List.map_cons, List.map_nil, List.replicate_succ, List.replicate_zero, Nat.reduceSub, Nat.reduceAdd, List.cons_append, List.nil_append, List.set_cons_zero, List.set_cons_succ, Ty.has, Bool.not_true, Bool.not_false, decide_true, decide_false, ir0 hg, ir2 hg]
  by_cases hj : 0 < j0
  · simp only [hj, bind_ok, stm_ok, seq_nx, seq_rt, seq_bk, seq_ct, fin_nx, fin_rt, getS_0, getS_s, ofO_s, ofB_s, ofT_s, negD_i, isN_n, isN_i, isN_t, isN_r, isN_s, isN_b, notD_b, ooR_i, asgR_s, seqI_t, kb2_, kcm'_, kcm_, kcmN_, chE_t, chE_f, kch2_, kch_, boC_tt, boC_tf, boC_ft, boC_ff, kbo_, kie_t, kie_f, kix_, ksl2_, ksl_, kck2_, kck_, kmt_, kisi_, klc_, kA2_, kA_, kst2_, kst_t, kT_, kcmT'_, kcmT_, kcmNT_, chT_t, chT_f, kchT2_, kchT_, kTs_tt, kTs_tf, kTs_ft, kTs_ff, kntT_, kzip_, kasg_, kset2_, kset_, kaug3_, kaug2_, kaug_s, kex_, kret_, kiff_t, kiff_f, kfr_, ev_var, ev_con, ev_glo, ev_b2, ev_neg, ev_cm, ev_cmN, ev_ch, ev_bo, evB_1, evB_2, ev_nt, ev_ie, ev_tp, ev_ls, ev_ix, ev_sl, ev_cf, ev_ck, ev_cb, ev_mt, ev_isi, ev_lc, evA_n, evA_c, evA_s, evO_n, evO_s, evT_v, evT_cm, evT_cmN, evT_ch, evT_bo, evT_nt, evT_y, evTs_1, evTs_2, evI_s, evI_r, evI_e, evI_z, ex_asg, ex_setl, ex_aug, ex_ex, ex_ret, ex_retn, ex_iff, ex_wh, ex_fr, ex_br, ex_ct, ex_ps, ex_n, ex_c, asG_n, asG_t, obs_s, asGs_n, asGs_c, frB_, frR_s, lcB_, lcR_s, klB2_, klB_t, klB_f, wipeS_n, wipeS_c, add_i, sub_i, ipadd_i, ipsub_i, eq_i, eq_s, eq_b, eq_ni, eq_in, eq_nn, ne_i, ne_s, ne_ni, ne_in, ne_nn, lt_i, le_i, gt_i, ge_i, tru_b, tru_i, tru_n, tru_t, it0, it1, it2, it3, abs_i, max_i, min_i, len_t0, len_t1, len_t2, len_t3, int_i, tupR_0, tupR_1, tupR_2, tupR_3, tupR_4, tupR_8, mk_0, mk_1, mk_2, mk_3, mk_4, mk_6, int_b, list_t, List.map_cons, List.map_nil, List.replicate_succ, List.replicate_zero, Nat.reduceSub, Nat.reduceAdd, List.cons_append, List.nil_append, List.set_cons_zero, List.set_cons_succ, Ty.has, Bool.not_true, Bool.not_false, decide_true, decide_false, ir0 hg, mod_i hb, fdiv_i hb sb, sr0 e, sat_ok]
    exact ⟨_, rfl, Int.emod_nonneg _ (by omega), Int.emod_lt_of_pos _ hb, by simp, ExtX.set, _, _, _, lst_set hlt, a1, a2, a3, by omega⟩
  · have hg2 : Hv.get (h.set a (.lst [.int j0, .int j1, .int (c + 1)])) a = some [.int j0, .int j1, .int (c + 1)] := get_set hlt
    have s1 : sm (c + 1) = true := sm_b (by omega) (by omega)
    have s2 : sm (j1 + 611953 * (c + 1)) = true := sm_b (by omega) (by omega)
    have s3 : sm ((j1 + 611953 * (c + 1)) ^ 3 % 1000000000000000000000000000000000000003 + 86028121 * (c + 1)) = true := by
      have := Int.emod_nonneg ((j1 + 611953 * (c + 1)) ^ 3) (show (1000000000000000000000000000000000000003 : Int) ≠ 0 by decide)
      have := Int.emod_lt_of_pos ((j1 + 611953 * (c + 1)) ^ 3) (show (0 : Int) < 1000000000000000000000000000000000000003 by decide)
      exact sm_b (by omega) (by omega)
    simp only [hj, bind_ok, stm_ok, seq_nx, seq_rt, seq_bk, seq_ct, fin_nx, fin_rt, getS_0, getS_s, ofO_s, ofB_s, ofT_s, negD_i, isN_n, isN_i, isN_t, isN_r, isN_s, isN_b, notD_b, ooR_i, asgR_s, seqI_t, kb2_, kcm'_, kcm_, kcmN_, chE_t, chE_f, kch2_, kch_, boC_tt, boC_tf, boC_ft, boC_ff, kbo_, kie_t, kie_f, kix_, ksl2_, ksl_, kck2_, kck_, kmt_, kisi_, klc_, kA2_, kA_, kst2_, kst_t, kT_, kcmT'_, kcmT_, kcmNT_, chT_t, chT_f, kchT2_, kchT_, kTs_tt, kTs_tf, kTs_ft, kTs_ff, kntT_, kzip_, kasg_, kset2_, kset_, kaug3_, kaug2_, kaug_s, kex_, kret_, kiff_t, kiff_f, kfr_, ev_var, ev_con, ev_glo, ev_b2, ev_neg, ev_cm, ev_cmN, ev_ch, ev_bo, evB_1, evB_2, ev_nt, ev_ie, ev_tp, ev_ls, ev_ix, ev_sl, ev_cf, ev_ck, ev_cb, ev_mt, ev_isi, ev_lc, evA_n, evA_c, evA_s, evO_n, evO_s, evT_v, evT_cm, evT_cmN, evT_ch, evT_bo, evT_nt, evT_y, evTs_1, evTs_2, evI_s, evI_r, evI_e, evI_z, ex_asg, ex_setl, ex_aug, ex_ex, ex_ret, ex_retn, ex_iff, ex_wh, ex_fr, ex_br, ex_ct, ex_ps, ex_n, ex_c, asG_n, asG_t, obs_s, asGs_n, asGs_c, frB_, frR_s, lcB_, lcR_s, klB2_, klB_t, klB_f, wipeS_n, wipeS_c, add_i, sub_i, ipadd_i, ipsub_i, eq_i, eq_s, eq_b, eq_ni, eq_in, eq_nn, ne_i, ne_s, ne_ni, ne_in, ne_nn, lt_i, le_i, gt_i, ge_i, tru_b, tru_i, tru_n, tru_t, it0, it1, it2, it3, abs_i, max_i, min_i, len_t0, len_t1, len_t2, len_t3, int_i, tupR_0, tupR_1, tupR_2, tupR_3, tupR_4, tupR_8, mk_0, mk_1, mk_2, mk_3, mk_4, mk_6, int_b, list_t, List.map_cons, List.map_nil, List.replicate_succ, List.replicate_zero, Nat.reduceSub, Nat.reduceAdd, List.cons_append, List.nil_append, List.set_cons_zero, List.set_cons_succ, Ty.has, Bool.not_true, Bool.not_false, decide_true, decide_false, ir2 hg, sr2 e, ir1 hg2, ir2 hg2, mul_i sm_611953 s1, mul_i sm_86028121 s1, p3 s2, p3 s3, p10_39, p10_42, Int.reduceAdd, mod_i, fdiv_i _ sm_919393, hb, Int.reduceLT, sat_ok]
    exact ⟨_, rfl, Int.emod_nonneg _ (by omega), Int.emod_lt_of_pos _ hb, by simp, ExtX.set, _, _, _, lst_set hlt, a1, a2, by omega, by omega⟩
theorem S_jar (t : T 12 = some f_law_jar) {ns : List Int} (i : Nat) (hi : i < 100) (hs : h.get 0 = some (ns.map D.int)) :
    (den T (k + 1) 12 [.ref 0, .int i] h).Sat fun d h' => ∃ a, d = .ref a ∧ h.length ≤ a ∧ Hx h h' ∧ Jar h' a 0 := by
  have s1 : sm ((i : Int) + 1) = true := sm_b (by omega) (by omega)
  have key : ∀ c : Int, (fin (exSs (den T k) (.cons (.ret (.ls (.cons (.cb .max (.cons (.con (.int 0)) (.cons (.b2 .add (.b2 .sub (.cb .abs (.cons (.var 2) .nil)) (.b2 .pow (.con (.int 10)) (.con (.int 18)))) (.con (.int 1))) .nil))) (.cons (.b2 .add (.b2 .mod (.cb .int (.cons (.var 2) .nil)) (.b2 .add (.b2 .pow (.con (.int 10)) (.con (.int 27))) (.con (.int 103)))) (.b2 .mul (.con (.int 90017)) (.b2 .add (.var 1) (.con (.int 1))))) (.cons (.con (.int 0)) .nil))))) 
  .nil) [some (.ref 0), some (.int i), some (.int c)] h)).Sat fun d h' => ∃ a, d = .ref a ∧ h.length ≤ a ∧ Hx h h' ∧ Jar h' a 0 := by
    intro c
    simp only [bind_ok, stm_ok, seq_nx, seq_rt, seq_bk, seq_ct, fin_nx, fin_rt, getS_0, getS_s, ofO_s, ofB_s, ofT_s, negD_i, isN_n, isN_i, isN_t, isN_r, isN_s, isN_b, notD_b, ooR_i, asgR_s, seqI_t, kb2_, kcm'_, kcm_, kcmN_, chE_t, chE_f, kch2_, kch_, boC_tt, boC_tf, boC_ft, boC_ff, kbo_, kie_t, kie_f, kix_, ksl2_, ksl_, kck2_, kck_, kmt_, kisi_, klc_, kA2_, kA_, kst2_, kst_t, kT_, kcmT'_, kcmT_, kcmNT_, chT_t, chT_f, kchT2_, kchT_, kTs_tt, kTs_tf, kTs_ft, kTs_ff, kntT_, kzip_, kasg_, kset2_, kset_, kaug3_, kaug2_, kaug_s, kex_, kret_, kiff_t, kiff_f, kfr_, ev_var, ev_con, ev_glo, ev_b2, ev_neg, ev_cm, ev_cmN, ev_ch, ev_bo, evB_1, evB_2, ev_nt, ev_ie, ev_tp, ev_ls, ev_ix, ev_sl, ev_cf, ev_ck, ev_cb, ev_mt, ev_isi, ev_lc, evA_n, evA_c, evA_s, evO_n, evO_s, evT_v, evT_cm, evT_cmN, evT_ch, evT_bo, evT_nt, evT_y, evTs_1, evTs_2, evI_s, evI_r, evI_e, evI_z, ex_asg, ex_setl, ex_aug, ex_ex, ex_ret, ex_retn, ex_iff, ex_wh, ex_fr, ex_br, ex_ct, ex_ps, ex_n, ex_c, asG_n, asG_t, obs_s, asGs_n, asGs_c, frB_, frR_s, lcB_, lcR_s, klB2_, klB_t, klB_f, wipeS_n, wipeS_c, add_i, sub_i, ipadd_i, ipsub_i, eq_i, eq_s, eq_b, eq_ni, eq_in, eq_nn, ne_i, ne_s, ne_ni, ne_in, ne_nn, lt_i, le_i, gt_i, ge_i, tru_b, tru_i, tru_n, tru_t, it0, it1, it2, it3, abs_i, max_i, min_i, len_t0, len_t1, len_t2, len_t3, int_i, tupR_0, tupR_1, tupR_2, tupR_3, tupR_4, tupR_8, mk_0, mk_1, mk_2, mk_3, mk_4, mk_6, int_b, list_t, List.map_cons, List.map_nil, List.replicate_succ, List.replicate_zero, Nat.reduceSub, Nat.reduceAdd, List.cons_append, List.nil_append, List.set_cons_zero, List.set_cons_succ, Ty.has, Bool.not_true, Bool.not_false, decide_true, decide_false, p10_18, p10_27, Int.reduceAdd, mod_i, Int.reduceLT, mul_i sm_90017 s1, sat_ok]
    have := Int.emod_nonneg c (show (1000000000000000000000000103 : Int) ≠ 0 by decide)
    have := Int.emod_lt_of_pos c (show (0 : Int) < 1000000000000000000000000103 by decide)
    exact ⟨_, rfl, Nat.le_refl _, Hx.app _ _, _, _, _, lst_new, by omega, by omega, by omega, by omega⟩
  rw [den_fn t rfl]
  by_cases c : i < ns.length
  · have c2 : (i : Int) < ((ns.map D.int).length : Int) := by simp; omega
    have e := itr hs (k := i) (j := i) (d := .int ns[i]) (idx_nn (by omega) c2) (by simp [c])
    simp only [f_law_jar, bind_ok, stm_ok, seq_nx, seq_rt, seq_bk, seq_ct, fin_nx, fin_rt, getS_0, getS_s, ofO_s, ofB_s, ofT_s, negD_i, isN_n, isN_i, isN_t, isN_r, isN_s, isN_b, notD_b, ooR_i, asgR_s, seqI_t, kb2_, kcm'_, kcm_, kcmN_, chE_t, chE_f, kch2_, kch_, boC_tt, boC_tf, boC_ft, boC_ff, kbo_, kie_t, kie_f, kix_, ksl2_, ksl_, kck2_, kck_, kmt_, kisi_, klc_, kA2_, kA_, kst2_, kst_t, kT_, kcmT'_, kcmT_, kcmNT_, chT_t, chT_f, kchT2_, kchT_, kTs_tt, kTs_tf, kTs_ft, kTs_ff, kntT_, kzip_, kasg_, kset2_, kset_, kaug3_, kaug2_, kaug_s, kex_, kret_, kiff_t, kiff_f, kfr_, ev_var, ev_con, ev_glo, ev_b2, ev_neg, ev_cm, ev_cmN, ev_ch, ev_bo, evB_1, evB_2, ev_nt, ev_ie, ev_tp, ev_ls, ev_ix, ev_sl, ev_cf, ev_ck, ev_cb, ev_mt, ev_isi, ev_lc, evA_n, evA_c, evA_s, evO_n, evO_s, evT_v, evT_cm, evT_cmN, evT_ch, evT_bo, evT_nt, evT_y, evTs_1, evTs_2, evI_s, evI_r, evI_e, evI_z, ex_asg, ex_setl, ex_aug, ex_ex, ex_ret, ex_retn, ex_iff, ex_wh, ex_fr, ex_br, ex_ct, ex_ps, ex_n, ex_c, asG_n, asG_t, obs_s, asGs_n, asGs_c, frB_, frR_s, lcB_, lcR_s, klB2_, klB_t, klB_f, wipeS_n, wipeS_c, add_i, sub_i, ipadd_i, ipsub_i, eq_i, eq_s, eq_b, eq_ni, eq_in, eq_nn, ne_i, ne_s, ne_ni, ne_in, ne_nn, lt_i, le_i, gt_i, ge_i, tru_b, tru_i, tru_n, tru_t, it0, it1, it2, it3, abs_i, max_i, min_i, len_t0, len_t1, len_t2, len_t3, int_i, tupR_0, tupR_1, tupR_2, tupR_3, tupR_4, tupR_8, mk_0, mk_1, mk_2, mk_3, mk_4, mk_6, int_b, list_t, List.map_cons, List.map_nil, List.replicate_succ, List.replicate_zero, Nat.reduceSub, Nat.reduceAdd, List.cons_append, List.nil_append, List.set_cons_zero, List.set_cons_succ, Ty.has, Bool.not_true, Bool.not_false, decide_true, decide_false, len_r hs, c2, e] at key ⊢
    exact key _
  · have c2 : ¬ (i : Int) < ((ns.map D.int).length : Int) := by simp; omega
    simp only [f_law_jar, bind_ok, stm_ok, seq_nx, seq_rt, seq_bk, seq_ct, fin_nx, fin_rt, getS_0, getS_s, ofO_s, ofB_s, ofT_s, negD_i, isN_n, isN_i, isN_t, isN_r, isN_s, isN_b, notD_b, ooR_i, asgR_s, seqI_t, kb2_, kcm'_, kcm_, kcmN_, chE_t, chE_f, kch2_, kch_, boC_tt, boC_tf, boC_ft, boC_ff, kbo_, kie_t, kie_f, kix_, ksl2_, ksl_, kck2_, kck_, kmt_, kisi_, klc_, kA2_, kA_, kst2_, kst_t, kT_, kcmT'_, kcmT_, kcmNT_, chT_t, chT_f, kchT2_, kchT_, kTs_tt, kTs_tf, kTs_ft, kTs_ff, kntT_, kzip_, kasg_, kset2_, kset_, kaug3_, kaug2_, kaug_s, kex_, kret_, kiff_t, kiff_f, kfr_, ev_var, ev_con, ev_glo, ev_b2, ev_neg, ev_cm, ev_cmN, ev_ch, ev_bo, evB_1, evB_2, ev_nt, ev_ie, ev_tp, ev_ls, ev_ix, ev_sl, ev_cf, ev_ck, ev_cb, ev_mt, ev_isi, ev_lc, evA_n, evA_c, evA_s, evO_n, evO_s, evT_v, evT_cm, evT_cmN, evT_ch, evT_bo, evT_nt, evT_y, evTs_1, evTs_2, evI_s, evI_r, evI_e, evI_z, ex_asg, ex_setl, ex_aug, ex_ex, ex_ret, ex_retn, ex_iff, ex_wh, ex_fr, ex_br, ex_ct, ex_ps, ex_n, ex_c, asG_n, asG_t, obs_s, asGs_n, asGs_c, frB_, frR_s, lcB_, lcR_s, klB2_, klB_t, klB_f, wipeS_n, wipeS_c, add_i, sub_i, ipadd_i, ipsub_i, eq_i, eq_s, eq_b, eq_ni, eq_in, eq_nn, ne_i, ne_s, ne_ni, ne_in, ne_nn, lt_i, le_i, gt_i, ge_i, tru_b, tru_i, tru_n, tru_t, it0, it1, it2, it3, abs_i, max_i, min_i, len_t0, len_t1, len_t2, len_t3, int_i, tupR_0, tupR_1, tupR_2, tupR_3, tupR_4, tupR_8, mk_0, mk_1, mk_2, mk_3, mk_4, mk_6, int_b, list_t, List.map_cons, List.map_nil, List.replicate_succ, List.replicate_zero, Nat.reduceSub, Nat.reduceAdd, List.cons_append, List.nil_append, List.set_cons_zero, List.set_cons_succ, Ty.has, Bool.not_true, Bool.not_false, decide_true, decide_false, len_r hs, c2] at key ⊢
    exact key _
end
end G4

/-! S5: drawn receivers. -/
namespace G4
open PySem PyProof.Rows

theorem canAll : ∀ {ps : List PyData}, (∀ p ∈ ps, p.canLay0 = true) → PyData.canLayAll0 ps = true
  | [], _ => rfl
  | p :: ps, h => by
    simp only [PyData.canLayAll0, h p (List.mem_cons_self ..), canAll fun q hq => h q (List.mem_cons_of_mem _ hq), Bool.and_self]
theorem can_stg (s : Stg) : s.P.canLay0 = true := by
  cases s with
  | mix m => exact (show (PyData.strOk "mix" && (true && true)) = true by decide +kernel)
  | pass l u => exact (show (PyData.strOk "pass" && (true && (true && true))) = true by decide +kernel)
  | dial m => exact (show (PyData.strOk "dial" && (true && true)) = true by decide +kernel)
theorem dep_stg (s : Stg) : s.P.depth ≤ 1 := by
  cases s <;> exact Nat.le_of_eq rfl
theorem shaped_stgs (ss : List Stg) : SeqAt.shaped (.list (ss.map Stg.P)) = true := by
  unfold SeqAt.shaped
  rw [Bool.and_eq_true]
  refine ⟨canAll fun p hp => ?_, decide_eq_true (Nat.le_trans (Nat.succ_le_succ (depAll (n := 1) fun p hp => ?_)) (by omega))⟩
  · obtain ⟨s, _, rfl⟩ := List.mem_map.mp hp
    exact can_stg s
  · obtain ⟨s, _, rfl⟩ := List.mem_map.mp hp
    exact dep_stg s
theorem ne_nil {h : Hv} {a b : Nat} {ss : List Stg} (e : h.get a = some (ss.map Stg.D)) (e2 : h.get b = some []) : Oc.ev .ne (.ref a) (.ref b) h = some (!ss.isEmpty) := by
  have h1 : dat dp h (.ref a) = some (.list (ss.map Stg.P)) := dat_list (n := 11) e (optAll_map fun s _ => dat_stg (n := 9) s)
  have h2 : dat dp h (.ref b) = some (.list []) := dat_list (n := 11) e2 rfl
  simp only [Oc.ev, eqD, h1, h2]
  rw [if_pos ⟨shaped_stgs ss, rfl⟩]
  cases ss <;> rfl
theorem it_ints {h : Hv} {r : Nat} {v : Int} {xs : List Int} (e : h.get r = some (xs.map D.int)) (h0 : 0 ≤ v) (h1 : v < xs.length) : ∃ w ∈ xs, itemD (.ref r) (.int v) h = .ok (.int w) h := by
  have hi : v.toNat < xs.length := by omega
  refine ⟨xs[v.toNat], List.getElem_mem hi, itr e (j := v.toNat) (idx_nn h0 (by simpa using h1)) (by simp [hi])⟩
theorem it_os {h : Hv} {r : Nat} {v : Int} {xs : List (Option Int)} (e : h.get r = some (xs.map oD)) (h0 : 0 ≤ v) (h1 : v < xs.length) : ∃ w ∈ xs, itemD (.ref r) (.int v) h = .ok (oD w) h := by
  have hi : v.toNat < xs.length := by omega
  refine ⟨xs[v.toNat], List.getElem_mem hi, itr e (j := v.toNat) (idx_nn h0 (by simpa using h1)) (by simp [hi])⟩
theorem it_last {h : Hv} {a : Nat} {xs : List D} (e : h.get a = some xs) (ne : xs ≠ []) : itemD (.ref a) (.int (-1)) h = .ok (xs.getLast ne) h := by
  have hp := List.length_pos_iff.mpr ne
  refine itr e (j := xs.length - 1) (idx_last hp) ?_
  rw [List.getLast_eq_getElem, List.getElem?_eq_getElem (by omega)]
theorem nxt_rng {n : Nat} {h : Hv} (i : Nat) : It.nxt (.rng 0 n) i h = some (((List.range n).map fun j : Nat => D.int (0 + (j : Int)))[i]?) := by
  simp only [It.nxt, List.getElem?_map]
  by_cases c : i < n
  · simp [c]
  · simp [c, List.getElem?_eq_none]
def Stg.B0 : Stg → Prop
  | .mix m => m < 2 ^ 150
  | .pass l u => l < 2 ^ 150 ∧ u < 2 ^ 150
  | .dial m => -(2 ^ 150) < m ∧ m < 2 ^ 150
theorem dials_snoc {ss : List Stg} {s : Stg} : dials (ss ++ [s]) = dials ss + s.dl := by simp [dials]
section
variable {T : Tab} {k : Nat} {h : Hv}
theorem S_pick' (t : T 13 = some f_law_pick) {a n : Nat} {b : Int} (J : Jar h a n) (hn : n < 2 ^ 60) (hb : 0 < b) (hb2 : b < 2 ^ 1000) :
    ∃ v h', den T (k + 1) 13 [.ref a, .int b] h = .ok (.int v) h' ∧ 0 ≤ v ∧ v < b ∧ h'.length = h.length ∧ ExtX a h h' ∧ Jar h' a (n + 1) := by
  obtain ⟨d, h', e, v, rfl, r⟩ := (S_pick (k := k) t J hn hb hb2).get
  exact ⟨v, h', e, r⟩
/-- a drawn receiver -/
structure Drawn0 (ss : List Stg) (rate : Option Int) : Prop where
  ok : RcvOk ss rate
  bd : ∀ s ∈ ss, s.B0
  rb : ∀ r, rate = some r → r < 2 ^ 150
structure Part (spot : Int) (i : Nat) (ss : List Stg) : Prop where
  len : ss.length = i
  ok : ∀ s ∈ ss, s.Ok
  bd : ∀ s ∈ ss, s.B0
  d1 : dials ss ≤ 1
  d0 : (i : Int) ≤ spot → dials ss = 0
theorem Part.add {spot : Int} {i : Nat} {ss : List Stg} (p : Part spot i ss) {s : Stg} (h1 : s.Ok) (h2 : s.B0) (h3 : s.dl = 0 ∨ (s.dl = 1 ∧ (i : Int) = spot)) : Part spot (i + 1) (ss ++ [s]) := by
  refine ⟨by simp [p.len], fun x hx => ?_, fun x hx => ?_, ?_, ?_⟩
  · rcases List.mem_append.mp hx with q | q
    · exact p.ok x q
    · rw [List.mem_singleton.mp q]; exact h1
  · rcases List.mem_append.mp hx with q | q
    · exact p.bd x q
    · rw [List.mem_singleton.mp q]; exact h2
  · rw [dials_snoc]
    rcases h3 with q | ⟨q, q2⟩
    · have := p.d1; omega
    · have := p.d0 (by omega); omega
  · intro q
    rw [dials_snoc]
    rcases h3 with q1 | ⟨q1, q2⟩
    · have := p.d0 (by omega); omega
    · omega
def RadioP (a n : Nat) (h : Hv) (d : D) (h' : Hv) : Prop := ∃ ss rate b, d = .tup [.ref b, oD rate] ∧ h'.lst b = some (ss.map Stg.D) ∧ Drawn0 ss rate ∧ h.length ≤ b ∧ ExtX a h h' ∧ Jar h' a (n + 100)
theorem S_radio (t13 : T 13 = some f_law_pick) (t : T 14 = some f_law_radio) {a n : Nat} {far : Int} (J : Jar h a n) (hn : n < 2 ^ 50) (hf : 1 ≤ far) (hf2 : far < 2 ^ 130) :
    (den T (k + 2) 14 [.ref a, .int 8, .int far] h).Sat (RadioP a n h) := by
  have haL := J.lt
  have sf : sm far = true := sm_b (by omega) (by omega)
  have sm2 : sm 2 = true := by decide +kernel
  have sm8 : sm 8 = true := by decide +kernel
  have sm9 : sm 9 = true := by decide +kernel
  rw [den_fn t rfl]
  obtain ⟨spot, h1, e1, b1, b2, l1, x1, J1⟩ := S_pick' (k := k) t13 (b := 16) (J.ext (Hx.app h [.lst []])) (by omega) (by omega) (by omega)
  simp only [f_law_radio, bind_ok, stm_ok, seq_nx, seq_rt, seq_bk, seq_ct, fin_nx, fin_rt, getS_0, getS_s, ofO_s, ofB_s, ofT_s, negD_i, isN_n, isN_i, isN_t, isN_r, isN_s, isN_b, notD_b, ooR_i, asgR_s, seqI_t, kb2_, kcm'_, kcm_, kcmN_, chE_t, chE_f, kch2_, kch_, boC_tt, boC_tf, boC_ft, boC_ff, kbo_, kie_t, kie_f, kix_, ksl2_, ksl_, kck2_, kck_, kmt_, kisi_, klc_, kA2_, kA_, kst2_, kst_t, kT_, kcmT'_, kcmT_, kcmNT_, chT_t, chT_f, kchT2_, kchT_, kTs_tt, kTs_tf, kTs_ft, kTs_ff, kntT_, kzip_, kasg_, kset2_, kset_, kaug3_, kaug2_, kaug_s, kex_, kret_, kiff_t, kiff_f, kfr_, ev_var, ev_con, ev_glo, ev_b2, ev_neg, ev_cm, ev_cmN, ev_ch, ev_bo, evB_1, evB_2, ev_nt, ev_ie, ev_tp, ev_ls, ev_ix, ev_sl, ev_cf, ev_ck, ev_cb, ev_mt, ev_isi, ev_lc, evA_n, evA_c, evA_s, evO_n, evO_s, evT_v, evT_cm, evT_cmN, evT_ch, evT_bo, evT_nt, evT_y, evTs_1, evTs_2, evI_s, evI_r, evI_e, evI_z, ex_asg, ex_setl, ex_aug, ex_ex, ex_ret, ex_retn, ex_iff, ex_wh, ex_fr, ex_br, ex_ct, ex_ps, ex_n, ex_c, asG_n, asG_t, obs_s, asGs_n, asGs_c, frB_, frR_s, lcB_, lcR_s, klB2_, klB_t, klB_f, wipeS_n, wipeS_c, add_i, sub_i, ipadd_i, ipsub_i, eq_i, eq_s, eq_b, eq_ni, eq_in, eq_nn, ne_i, ne_s, ne_ni, ne_in, ne_nn, lt_i, le_i, gt_i, ge_i, tru_b, tru_i, tru_n, tru_t, it0, it1, it2, it3, abs_i, max_i, min_i, len_t0, len_t1, len_t2, len_t3, int_i, tupR_0, tupR_1, tupR_2, tupR_3, tupR_4, tupR_8, mk_0, mk_1, mk_2, mk_3, mk_4, mk_6, int_b, list_t, List.map_cons, List.map_nil, List.replicate_succ, List.replicate_zero, Nat.reduceSub, Nat.reduceAdd, List.cons_append, List.nil_append, List.set_cons_zero, List.set_cons_succ, Ty.has, Bool.not_true, Bool.not_false, decide_true, decide_false, mul_i sm2 sm8, Int.reduceMul, e1]
  obtain ⟨m, h2, e2, b3, b4, l2, x2, J2⟩ := S_pick' (k := k) t13 (b := 8) J1 (by omega) (by omega) (by omega)
  simp only [bind_ok, stm_ok, seq_nx, seq_rt, seq_bk, seq_ct, fin_nx, fin_rt, getS_0, getS_s, ofO_s, ofB_s, ofT_s, negD_i, isN_n, isN_i, isN_t, isN_r, isN_s, isN_b, notD_b, ooR_i, asgR_s, seqI_t, kb2_, kcm'_, kcm_, kcmN_, chE_t, chE_f, kch2_, kch_, boC_tt, boC_tf, boC_ft, boC_ff, kbo_, kie_t, kie_f, kix_, ksl2_, ksl_, kck2_, kck_, kmt_, kisi_, klc_, kA2_, kA_, kst2_, kst_t, kT_, kcmT'_, kcmT_, kcmNT_, chT_t, chT_f, kchT2_, kchT_, kTs_tt, kTs_tf, kTs_ft, kTs_ff, kntT_, kzip_, kasg_, kset2_, kset_, kaug3_, kaug2_, kaug_s, kex_, kret_, kiff_t, kiff_f, kfr_, ev_var, ev_con, ev_glo, ev_b2, ev_neg, ev_cm, ev_cmN, ev_ch, ev_bo, evB_1, evB_2, ev_nt, ev_ie, ev_tp, ev_ls, ev_ix, ev_sl, ev_cf, ev_ck, ev_cb, ev_mt, ev_isi, ev_lc, evA_n, evA_c, evA_s, evO_n, evO_s, evT_v, evT_cm, evT_cmN, evT_ch, evT_bo, evT_nt, evT_y, evTs_1, evTs_2, evI_s, evI_r, evI_e, evI_z, ex_asg, ex_setl, ex_aug, ex_ex, ex_ret, ex_retn, ex_iff, ex_wh, ex_fr, ex_br, ex_ct, ex_ps, ex_n, ex_c, asG_n, asG_t, obs_s, asGs_n, asGs_c, frB_, frR_s, lcB_, lcR_s, klB2_, klB_t, klB_f, wipeS_n, wipeS_c, add_i, sub_i, ipadd_i, ipsub_i, eq_i, eq_s, eq_b, eq_ni, eq_in, eq_nn, ne_i, ne_s, ne_ni, ne_in, ne_nn, lt_i, le_i, gt_i, ge_i, tru_b, tru_i, tru_n, tru_t, it0, it1, it2, it3, abs_i, max_i, min_i, len_t0, len_t1, len_t2, len_t3, int_i, tupR_0, tupR_1, tupR_2, tupR_3, tupR_4, tupR_8, mk_0, mk_1, mk_2, mk_3, mk_4, mk_6, int_b, list_t, List.map_cons, List.map_nil, List.replicate_succ, List.replicate_zero, Nat.reduceSub, Nat.reduceAdd, List.cons_append, List.nil_append, List.set_cons_zero, List.set_cons_succ, Ty.has, Bool.not_true, Bool.not_false, decide_true, decide_false, e2, rngI_1 (show -(2 ^ 62) ≤ 1 + m ∧ 1 + m < 2 ^ 62 by omega)]
  have hb : a ≠ h.length := by omega
  have hl0 : h2.lst h.length = some [] := x2.lst (fun e => hb e.symm) (x1.lst (fun e => hb e.symm) lst_new)
  have xx : ExtX a h h2 := ((Hx.app h _).x).trans (x1.trans x2)
  refine RS.Sat.fin (N := fun _ _ => False) (RS.Sat.seq (forL_inv (nxt := It.nxt (.rng 0 (1 + m).toNat))
    (B := fun τ h' => ∃ ss y z w, τ = [some (.ref a), some (.int 8), some (.int far), some (.ref h.length), some (.int spot), y, z, w] ∧ ExtX a h h' ∧ Jar h' a (n + 90) ∧ h'.lst h.length = some (ss.map Stg.D) ∧ Part spot (1 + m).toNat ss)
    ((List.range (1 + m).toNat).map fun j : Nat => D.int (0 + (j : Int)))
    (fun i τ h' => i ≤ 8 ∧ ∃ ss y z w, τ = [some (.ref a), some (.int 8), some (.int far), some (.ref h.length), some (.int spot), y, z, w] ∧ ExtX a h h' ∧ Jar h' a (n + 2 + 8 * i) ∧ h'.lst h.length = some (ss.map Stg.D) ∧ Part spot i ss)
    (fun i τ h' _ => nxt_rng i) (fun i d τ h' hd hI => ?_) (fun τ h' hI => ?_) turns 0 _ _ ?_ (Nat.zero_le _) ?_) fun τ h' hI => ?_) (fun _ _ f => f.elim)
  · obtain ⟨hi8, ss, y, z, w, rfl, x, J', hl, p⟩ := hI
    have hi : i < (1 + m).toNat := by have := (List.getElem?_eq_some_iff.mp hd).1; simpa using this
    simp only [List.getElem?_map, List.getElem?_range hi, Option.map_some, Option.some.injEq] at hd
    subst hd
    have hbl := lst_lt hl
    obtain ⟨kind, g1, f1, c1, c2, m1, y1, I1⟩ := S_pick' (k := k) t13 (b := 5) J' (by omega) (by omega) (by omega)
    obtain ⟨v, g2, f2, c3, c4, m2, y2, I2⟩ := S_pick' (k := k) t13 (b := far) I1 (by omega) (by omega) (by omega)
    obtain ⟨c, g3, f3, c5, c6, m3, y3, I3⟩ := S_pick' (k := k) t13 (b := 2) (I2.ext (Hx.app g2 [.lst [.int 0, .int v]])) (by omega) (by omega) (by omega)
    obtain ⟨low, hlow, f4⟩ := it_ints (h := g3) (r := g2.length) (v := c) (xs := [0, v]) (y3.get (by have := I2.lt; omega) get_new) c5 (by simpa using c6)
    have low0 : 0 ≤ low ∧ low < 2 ^ 130 := by
      simp only [List.mem_cons, List.not_mem_nil, or_false] at hlow
      omega
    have hl3 : g3.lst h.length = some (ss.map Stg.D) := y3.lst (fun e => hb e.symm) ((Hx.app g2 _).lst (y2.lst (fun e => hb e.symm) (y1.lst (fun e => hb e.symm) hl)))
    have x3 : ExtX a h g3 := x.trans (y1.trans (y2.trans ((Hx.app g2 _).x.trans y3)))
    have hsl : (ss.map Stg.D).length < lim := by rw [List.length_map, p.len]; unfold lim; omega
    -- what stands after a stage is added
    have stepEnd : ∀ (s : Stg) (g : Hv) (q : Nat), Part spot (i + 1) (ss ++ [s]) → ExtX a g3 g → Jar g a (n + 2 + 8 * (i + 1)) → ∃ g' : Hv, g' = g.set h.length (.lst (ss.map Stg.D ++ [s.D])) ∧ ExtX a h g' ∧ Jar g' a (n + 2 + 8 * (i + 1)) ∧ g'.lst h.length = some ((ss ++ [s]).map Stg.D) := fun s g q p2 xg Jg => by
      have hg : g.lst h.length = some (ss.map Stg.D) := xg.lst (fun e => hb e.symm) hl3
      have x4 := x3.trans xg
      refine ⟨_, rfl, ⟨by simpa using x4.le, fun j hj hja => by rw [List.getElem?_set_ne (by omega)]; exact x4.at_ j hj hja⟩, Jg.keep (fun e => hb e.symm), ?_⟩
      rw [lst_set (lst_lt hg), List.map_append]
      rfl
    simp only [bind_ok, stm_ok, seq_nx, seq_rt, seq_bk, seq_ct, fin_nx, fin_rt, getS_0, getS_s, ofO_s, ofB_s, ofT_s, negD_i, isN_n, isN_i, isN_t, isN_r, isN_s, isN_b, notD_b, ooR_i, asgR_s, seqI_t, kb2_, kcm'_, kcm_, kcmN_, chE_t, chE_f, kch2_, kch_, boC_tt, boC_tf, boC_ft, boC_ff, kbo_, kie_t, kie_f, kix_, ksl2_, ksl_, kck2_, kck_, kmt_, kisi_, klc_, kA2_, kA_, kst2_, kst_t, kT_, kcmT'_, kcmT_, kcmNT_, chT_t, chT_f, kchT2_, kchT_, kTs_tt, kTs_tf, kTs_ft, kTs_ff, kntT_, kzip_, kasg_, kset2_, kset_, kaug3_, kaug2_, kaug_s, kex_, kret_, kiff_t, kiff_f, kfr_, ev_var, ev_con, ev_glo, ev_b2, ev_neg, ev_cm, ev_cmN, ev_ch, ev_bo, evB_1, evB_2, ev_nt, ev_ie, ev_tp, ev_ls, ev_ix, ev_sl, ev_cf, ev_ck, ev_cb, ev_mt, ev_isi, ev_lc, evA_n, evA_c, evA_s, evO_n, evO_s, evT_v, evT_cm, evT_cmN, evT_ch, evT_bo, evT_nt, evT_y, evTs_1, evTs_2, evI_s, evI_r, evI_e, evI_z, ex_asg, ex_setl, ex_aug, ex_ex, ex_ret, ex_retn, ex_iff, ex_wh, ex_fr, ex_br, ex_ct, ex_ps, ex_n, ex_c, asG_n, asG_t, obs_s, asGs_n, asGs_c, frB_, frR_s, lcB_, lcR_s, klB2_, klB_t, klB_f, wipeS_n, wipeS_c, add_i, sub_i, ipadd_i, ipsub_i, eq_i, eq_s, eq_b, eq_ni, eq_in, eq_nn, ne_i, ne_s, ne_ni, ne_in, ne_nn, lt_i, le_i, gt_i, ge_i, tru_b, tru_i, tru_n, tru_t, it0, it1, it2, it3, abs_i, max_i, min_i, len_t0, len_t1, len_t2, len_t3, int_i, tupR_0, tupR_1, tupR_2, tupR_3, tupR_4, tupR_8, mk_0, mk_1, mk_2, mk_3, mk_4, mk_6, int_b, list_t, List.map_cons, List.map_nil, List.replicate_succ, List.replicate_zero, Nat.reduceSub, Nat.reduceAdd, List.cons_append, List.nil_append, List.set_cons_zero, List.set_cons_succ, Ty.has, Bool.not_true, Bool.not_false, decide_true, decide_false, f1, f2, f3, f4, Int.zero_add]
    by_cases cs : (i : Int) = spot
    · obtain ⟨dv, g5, f5, c7, c8, m5, y5, I5⟩ := S_pick' (k := k) t13 (b := 2 * far + 1) I3 (by omega) (by omega) (by omega)
      obtain ⟨g', eg, q1, q2, q3⟩ := stepEnd (.dial (dv - far)) g5 0 (p.add trivial ⟨by omega, by omega⟩ (.inr ⟨rfl, cs⟩)) y5 (I5.mono (by omega))
      have hg : g5.lst h.length = some (ss.map Stg.D) := y5.lst (fun e => hb e.symm) hl3
      simp only [cs, bind_ok, stm_ok, seq_nx, seq_rt, seq_bk, seq_ct, fin_nx, fin_rt, getS_0, getS_s, ofO_s, ofB_s, ofT_s, negD_i, isN_n, isN_i, isN_t, isN_r, isN_s, isN_b, notD_b, ooR_i, asgR_s, seqI_t, kb2_, kcm'_, kcm_, kcmN_, chE_t, chE_f, kch2_, kch_, boC_tt, boC_tf, boC_ft, boC_ff, kbo_, kie_t, kie_f, kix_, ksl2_, ksl_, kck2_, kck_, kmt_, kisi_, klc_, kA2_, kA_, kst2_, kst_t, kT_, kcmT'_, kcmT_, kcmNT_, chT_t, chT_f, kchT2_, kchT_, kTs_tt, kTs_tf, kTs_ft, kTs_ff, kntT_, kzip_, kasg_, kset2_, kset_, kaug3_, kaug2_, kaug_s, kex_, kret_, kiff_t, kiff_f, kfr_, ev_var, ev_con, ev_glo, ev_b2, ev_neg, ev_cm, ev_cmN, ev_ch, ev_bo, evB_1, evB_2, ev_nt, ev_ie, ev_tp, ev_ls, ev_ix, ev_sl, ev_cf, ev_ck, ev_cb, ev_mt, ev_isi, ev_lc, evA_n, evA_c, evA_s, evO_n, evO_s, evT_v, evT_cm, evT_cmN, evT_ch, evT_bo, evT_nt, evT_y, evTs_1, evTs_2, evI_s, evI_r, evI_e, evI_z, ex_asg, ex_setl, ex_aug, ex_ex, ex_ret, ex_retn, ex_iff, ex_wh, ex_fr, ex_br, ex_ct, ex_ps, ex_n, ex_c, asG_n, asG_t, obs_s, asGs_n, asGs_c, frB_, frR_s, lcB_, lcR_s, klB2_, klB_t, klB_f, wipeS_n, wipeS_c, add_i, sub_i, ipadd_i, ipsub_i, eq_i, eq_s, eq_b, eq_ni, eq_in, eq_nn, ne_i, ne_s, ne_ni, ne_in, ne_nn, lt_i, le_i, gt_i, ge_i, tru_b, tru_i, tru_n, tru_t, it0, it1, it2, it3, abs_i, max_i, min_i, len_t0, len_t1, len_t2, len_t3, int_i, tupR_0, tupR_1, tupR_2, tupR_3, tupR_4, tupR_8, mk_0, mk_1, mk_2, mk_3, mk_4, mk_6, int_b, list_t, List.map_cons, List.map_nil, List.replicate_succ, List.replicate_zero, Nat.reduceSub, Nat.reduceAdd, List.cons_append, List.nil_append, List.set_cons_zero, List.set_cons_succ, Ty.has, Bool.not_true, Bool.not_false, decide_true, decide_false, mul_i sm2 sf, f5, append_r hg hsl, satbN]
      refine ⟨by omega, ss ++ [.dial (dv - far)], _, _, _, rfl, ?_⟩
      rw [eg] at q1 q2 q3
      exact ⟨q1, q2, q3, p.add trivial ⟨by omega, by omega⟩ (.inr ⟨rfl, cs⟩)⟩
    · simp only [cs, bind_ok, stm_ok, seq_nx, seq_rt, seq_bk, seq_ct, fin_nx, fin_rt, getS_0, getS_s, ofO_s, ofB_s, ofT_s, negD_i, isN_n, isN_i, isN_t, isN_r, isN_s, isN_b, notD_b, ooR_i, asgR_s, seqI_t, kb2_, kcm'_, kcm_, kcmN_, chE_t, chE_f, kch2_, kch_, boC_tt, boC_tf, boC_ft, boC_ff, kbo_, kie_t, kie_f, kix_, ksl2_, ksl_, kck2_, kck_, kmt_, kisi_, klc_, kA2_, kA_, kst2_, kst_t, kT_, kcmT'_, kcmT_, kcmNT_, chT_t, chT_f, kchT2_, kchT_, kTs_tt, kTs_tf, kTs_ft, kTs_ff, kntT_, kzip_, kasg_, kset2_, kset_, kaug3_, kaug2_, kaug_s, kex_, kret_, kiff_t, kiff_f, kfr_, ev_var, ev_con, ev_glo, ev_b2, ev_neg, ev_cm, ev_cmN, ev_ch, ev_bo, evB_1, evB_2, ev_nt, ev_ie, ev_tp, ev_ls, ev_ix, ev_sl, ev_cf, ev_ck, ev_cb, ev_mt, ev_isi, ev_lc, evA_n, evA_c, evA_s, evO_n, evO_s, evT_v, evT_cm, evT_cmN, evT_ch, evT_bo, evT_nt, evT_y, evTs_1, evTs_2, evI_s, evI_r, evI_e, evI_z, ex_asg, ex_setl, ex_aug, ex_ex, ex_ret, ex_retn, ex_iff, ex_wh, ex_fr, ex_br, ex_ct, ex_ps, ex_n, ex_c, asG_n, asG_t, obs_s, asGs_n, asGs_c, frB_, frR_s, lcB_, lcR_s, klB2_, klB_t, klB_f, wipeS_n, wipeS_c, add_i, sub_i, ipadd_i, ipsub_i, eq_i, eq_s, eq_b, eq_ni, eq_in, eq_nn, ne_i, ne_s, ne_ni, ne_in, ne_nn, lt_i, le_i, gt_i, ge_i, tru_b, tru_i, tru_n, tru_t, it0, it1, it2, it3, abs_i, max_i, min_i, len_t0, len_t1, len_t2, len_t3, int_i, tupR_0, tupR_1, tupR_2, tupR_3, tupR_4, tupR_8, mk_0, mk_1, mk_2, mk_3, mk_4, mk_6, int_b, list_t, List.map_cons, List.map_nil, List.replicate_succ, List.replicate_zero, Nat.reduceSub, Nat.reduceAdd, List.cons_append, List.nil_append, List.set_cons_zero, List.set_cons_succ, Ty.has, Bool.not_true, Bool.not_false, decide_true, decide_false]
      by_cases ck : kind = 0
      · obtain ⟨pv, g5, f5, c7, c8, m5, y5, I5⟩ := S_pick' (k := k) t13 (b := far + 1) I3 (by omega) (by omega) (by omega)
        obtain ⟨cv, g6, f6, c9, c10, m6, y6, I6⟩ := S_pick' (k := k) t13 (b := 4) (I5.ext (Hx.app g5 [.lst [.int 0, .int 1, .int pv, .int (9 * far)]])) (by omega) (by omega) (by omega)
        obtain ⟨wd, hwd, f7⟩ := it_ints (h := g6) (r := g5.length) (v := cv) (xs := [0, 1, pv, 9 * far]) (y6.get (by have := I5.lt; omega) get_new) c9 (by simpa using c10)
        have wd0 : 0 ≤ wd ∧ wd < 2 ^ 140 := by
          simp only [List.mem_cons, List.not_mem_nil, or_false] at hwd
          omega
        have y56 : ExtX a g3 g6 := y5.trans ((Hx.app g5 _).x.trans y6)
        have p2 : Part spot (i + 1) (ss ++ [.pass low (low + wd)]) := p.add ⟨by omega, by omega⟩ ⟨by omega, by omega⟩ (.inl rfl)
        obtain ⟨g', eg, q1, q2, q3⟩ := stepEnd (.pass low (low + wd)) g6 0 p2 y56 (I6.mono (by omega))
        have hg : g6.lst h.length = some (ss.map Stg.D) := y56.lst (fun e => hb e.symm) hl3
        simp only [ck, bind_ok, stm_ok, seq_nx, seq_rt, seq_bk, seq_ct, fin_nx, fin_rt, getS_0, getS_s, ofO_s, ofB_s, ofT_s, negD_i, isN_n, isN_i, isN_t, isN_r, isN_s, isN_b, notD_b, ooR_i, asgR_s, seqI_t, kb2_, kcm'_, kcm_, kcmN_, chE_t, chE_f, kch2_, kch_, boC_tt, boC_tf, boC_ft, boC_ff, kbo_, kie_t, kie_f, kix_, ksl2_, ksl_, kck2_, kck_, kmt_, kisi_, klc_, kA2_, kA_, kst2_, kst_t, kT_, kcmT'_, kcmT_, kcmNT_, chT_t, chT_f, kchT2_, kchT_, kTs_tt, kTs_tf, kTs_ft, kTs_ff, kntT_, kzip_, kasg_, kset2_, kset_, kaug3_, kaug2_, kaug_s, kex_, kret_, kiff_t, kiff_f, kfr_, ev_var, ev_con, ev_glo, ev_b2, ev_neg, ev_cm, ev_cmN, ev_ch, ev_bo, evB_1, evB_2, ev_nt, ev_ie, ev_tp, ev_ls, ev_ix, ev_sl, ev_cf, ev_ck, ev_cb, ev_mt, ev_isi, ev_lc, evA_n, evA_c, evA_s, evO_n, evO_s, evT_v, evT_cm, evT_cmN, evT_ch, evT_bo, evT_nt, evT_y, evTs_1, evTs_2, evI_s, evI_r, evI_e, evI_z, ex_asg, ex_setl, ex_aug, ex_ex, ex_ret, ex_retn, ex_iff, ex_wh, ex_fr, ex_br, ex_ct, ex_ps, ex_n, ex_c, asG_n, asG_t, obs_s, asGs_n, asGs_c, frB_, frR_s, lcB_, lcR_s, klB2_, klB_t, klB_f, wipeS_n, wipeS_c, add_i, sub_i, ipadd_i, ipsub_i, eq_i, eq_s, eq_b, eq_ni, eq_in, eq_nn, ne_i, ne_s, ne_ni, ne_in, ne_nn, lt_i, le_i, gt_i, ge_i, tru_b, tru_i, tru_n, tru_t, it0, it1, it2, it3, abs_i, max_i, min_i, len_t0, len_t1, len_t2, len_t3, int_i, tupR_0, tupR_1, tupR_2, tupR_3, tupR_4, tupR_8, mk_0, mk_1, mk_2, mk_3, mk_4, mk_6, int_b, list_t, List.map_cons, List.map_nil, List.replicate_succ, List.replicate_zero, Nat.reduceSub, Nat.reduceAdd, List.cons_append, List.nil_append, List.set_cons_zero, List.set_cons_succ, Ty.has, Bool.not_true, Bool.not_false, decide_true, decide_false, f5, mul_i sm9 sf, f6, f7, append_r hg hsl, satbN]
        refine ⟨by omega, ss ++ [.pass low (low + wd)], _, _, _, rfl, ?_⟩
        rw [eg] at q1 q2 q3
        exact ⟨q1, q2, q3, p2⟩
      · simp only [ck, bind_ok, stm_ok, seq_nx, seq_rt, seq_bk, seq_ct, fin_nx, fin_rt, getS_0, getS_s, ofO_s, ofB_s, ofT_s, negD_i, isN_n, isN_i, isN_t, isN_r, isN_s, isN_b, notD_b, ooR_i, asgR_s, seqI_t, kb2_, kcm'_, kcm_, kcmN_, chE_t, chE_f, kch2_, kch_, boC_tt, boC_tf, boC_ft, boC_ff, kbo_, kie_t, kie_f, kix_, ksl2_, ksl_, kck2_, kck_, kmt_, kisi_, klc_, kA2_, kA_, kst2_, kst_t, kT_, kcmT'_, kcmT_, kcmNT_, chT_t, chT_f, kchT2_, kchT_, kTs_tt, kTs_tf, kTs_ft, kTs_ff, kntT_, kzip_, kasg_, kset2_, kset_, kaug3_, kaug2_, kaug_s, kex_, kret_, kiff_t, kiff_f, kfr_, ev_var, ev_con, ev_glo, ev_b2, ev_neg, ev_cm, ev_cmN, ev_ch, ev_bo, evB_1, evB_2, ev_nt, ev_ie, ev_tp, ev_ls, ev_ix, ev_sl, ev_cf, ev_ck, ev_cb, ev_mt, ev_isi, ev_lc, evA_n, evA_c, evA_s, evO_n, evO_s, evT_v, evT_cm, evT_cmN, evT_ch, evT_bo, evT_nt, evT_y, evTs_1, evTs_2, evI_s, evI_r, evI_e, evI_z, ex_asg, ex_setl, ex_aug, ex_ex, ex_ret, ex_retn, ex_iff, ex_wh, ex_fr, ex_br, ex_ct, ex_ps, ex_n, ex_c, asG_n, asG_t, obs_s, asGs_n, asGs_c, frB_, frR_s, lcB_, lcR_s, klB2_, klB_t, klB_f, wipeS_n, wipeS_c, add_i, sub_i, ipadd_i, ipsub_i, eq_i, eq_s, eq_b, eq_ni, eq_in, eq_nn, ne_i, ne_s, ne_ni, ne_in, ne_nn, lt_i, le_i, gt_i, ge_i, tru_b, tru_i, tru_n, tru_t, it0, it1, it2, it3, abs_i, max_i, min_i, len_t0, len_t1, len_t2, len_t3, int_i, tupR_0, tupR_1, tupR_2, tupR_3, tupR_4, tupR_8, mk_0, mk_1, mk_2, mk_3, mk_4, mk_6, int_b, list_t, List.map_cons, List.map_nil, List.replicate_succ, List.replicate_zero, Nat.reduceSub, Nat.reduceAdd, List.cons_append, List.nil_append, List.set_cons_zero, List.set_cons_succ, Ty.has, Bool.not_true, Bool.not_false, decide_true, decide_false]
        -- the last branch
        have mixEnd : ∀ (g3' : Hv), ExtX a g3 g3' → Jar g3' a (n + 2 + 8 * i + 3) → (exSs (den T (k + 1)) (.cons (.ex (.mt .append (.var 3) (.cons (.tp (.cons (.con (.str "mix")) (.cons (.ix (.ls (.cons (.con (.int 0)) (.cons (.con (.int 1)) (.cons (.cf 13 (.cons (.var 0) (.cons (.b2 .add (.var 2) (.con (.int 1))) .nil))) (.cons (.cf 13 (.cons (.var 0) (.cons (.b2 .add (.var 2) (.con (.int 1))) .nil))) .nil))))) (.cf 13 (.cons (.var 0) (.cons (.con (.int 4)) .nil)))) .nil))) .nil))) 
          .nil) [some (.ref a), some (.int 8), some (.int far), some (.ref h.length), some (.int spot), some (.int i), some (.int kind), some (.int low)] g3').Sat (fun τ h' => i + 1 ≤ 8 ∧ ∃ ss y z w, τ = [some (.ref a), some (.int 8), some (.int far), some (.ref h.length), some (.int spot), y, z, w] ∧ ExtX a h h' ∧ Jar h' a (n + 2 + 8 * (i + 1)) ∧ h'.lst h.length = some (ss.map Stg.D) ∧ Part spot (i + 1) ss) (RadioP a n h) := by
          intro g3' xg Jg
          obtain ⟨pv, g5, f5, c7, c8, m5, y5, I5⟩ := S_pick' (k := k) t13 (b := far + 1) Jg (by omega) (by omega) (by omega)
          obtain ⟨pw, g6, f6, c9, c10, m6, y6, I6⟩ := S_pick' (k := k) t13 (b := far + 1) I5 (by omega) (by omega) (by omega)
          obtain ⟨cv, g7, f7, c11, c12, m7, y7, I7⟩ := S_pick' (k := k) t13 (b := 4) (I6.ext (Hx.app g6 [.lst [.int 0, .int 1, .int pv, .int pw]])) (by omega) (by omega) (by omega)
          obtain ⟨wd, hwd, f8⟩ := it_ints (h := g7) (r := g6.length) (v := cv) (xs := [0, 1, pv, pw]) (y7.get (by have := I6.lt; omega) get_new) c11 (by simpa using c12)
          have wd0 : 0 ≤ wd ∧ wd < 2 ^ 140 := by
            simp only [List.mem_cons, List.not_mem_nil, or_false] at hwd
            omega
          have y57 : ExtX a g3 g7 := xg.trans (y5.trans (y6.trans ((Hx.app g6 _).x.trans y7)))
          have p2 : Part spot (i + 1) (ss ++ [.mix wd]) := p.add (show 0 ≤ wd by omega) (show wd < 2 ^ 150 by omega) (.inl rfl)
          obtain ⟨g', eg, q1, q2, q3⟩ := stepEnd (.mix wd) g7 0 p2 y57 (I7.mono (by omega))
          have hg : g7.lst h.length = some (ss.map Stg.D) := y57.lst (fun e => hb e.symm) hl3
          simp only [bind_ok, stm_ok, seq_nx, seq_rt, seq_bk, seq_ct, fin_nx, fin_rt, getS_0, getS_s, ofO_s, ofB_s, ofT_s, negD_i, isN_n, isN_i, isN_t, isN_r, isN_s, isN_b, notD_b, ooR_i, asgR_s, seqI_t, kb2_, kcm'_, kcm_, kcmN_, chE_t, chE_f, kch2_, kch_, boC_tt, boC_tf, boC_ft, boC_ff, kbo_, kie_t, kie_f, kix_, ksl2_, ksl_, kck2_, kck_, kmt_, kisi_, klc_, kA2_, kA_, kst2_, kst_t, kT_, kcmT'_, kcmT_, kcmNT_, chT_t, chT_f, kchT2_, kchT_, kTs_tt, kTs_tf, kTs_ft, kTs_ff, kntT_, kzip_, kasg_, kset2_, kset_, kaug3_, kaug2_, kaug_s, kex_, kret_, kiff_t, kiff_f, kfr_, ev_var, ev_con, ev_glo, ev_b2, ev_neg, ev_cm, ev_cmN, ev_ch, ev_bo, evB_1, evB_2, ev_nt, ev_ie, ev_tp, ev_ls, ev_ix, ev_sl, ev_cf, ev_ck, ev_cb, ev_mt, ev_isi, ev_lc, evA_n, evA_c, evA_s, evO_n, evO_s, evT_v, evT_cm, evT_cmN, evT_ch, evT_bo, evT_nt, evT_y, evTs_1, evTs_2, evI_s, evI_r, evI_e, evI_z, ex_asg, ex_setl, ex_aug, ex_ex, ex_ret, ex_retn, ex_iff, ex_wh, ex_fr, ex_br, ex_ct, ex_ps, ex_n, ex_c, asG_n, asG_t, obs_s, asGs_n, asGs_c, frB_, frR_s, lcB_, lcR_s, klB2_, klB_t, klB_f, wipeS_n, wipeS_c, add_i, sub_i, ipadd_i, ipsub_i, eq_i, eq_s, eq_b, eq_ni, eq_in, eq_nn, ne_i, ne_s, ne_ni, ne_in, ne_nn, lt_i, le_i, gt_i, ge_i, tru_b, tru_i, tru_n, tru_t, it0, it1, it2, it3, abs_i, max_i, min_i, len_t0, len_t1, len_t2, len_t3, int_i, tupR_0, tupR_1, tupR_2, tupR_3, tupR_4, tupR_8, mk_0, mk_1, mk_2, mk_3, mk_4, mk_6, int_b, list_t, List.map_cons, List.map_nil, List.replicate_succ, List.replicate_zero, Nat.reduceSub, Nat.reduceAdd, List.cons_append, List.nil_append, List.set_cons_zero, List.set_cons_succ, Ty.has, Bool.not_true, Bool.not_false, decide_true, decide_false, f5, f6, f7, f8, append_r hg hsl, satN]
          refine ⟨by omega, ss ++ [.mix wd], _, _, _, rfl, ?_⟩
          rw [eg] at q1 q2 q3
          exact ⟨q1, q2, q3, p2⟩
        have e0 : ∀ (N : Sl → Hv → Prop) (τ : Sl) (h' : Hv), N τ h' → (exSs (den T (k + 1)) .nil τ h').Sat N (RadioP a n h) := fun N τ h' hN => by
          simp only [ex_n, satN]
          exact hN
        by_cases ck1 : kind = 1
        · have hgn : Hv.get (g3 ++ [.lst []]) h.length = some (ss.map Stg.D) := (Hx.app g3 _).get (get_of_lst hl3)
          simp only [ck1, bind_ok, stm_ok, seq_nx, seq_rt, seq_bk, seq_ct, fin_nx, fin_rt, getS_0, getS_s, ofO_s, ofB_s, ofT_s, negD_i, isN_n, isN_i, isN_t, isN_r, isN_s, isN_b, notD_b, ooR_i, asgR_s, seqI_t, kb2_, kcm'_, kcm_, kcmN_, chE_t, chE_f, kch2_, kch_, boC_tt, boC_tf, boC_ft, boC_ff, kbo_, kie_t, kie_f, kix_, ksl2_, ksl_, kck2_, kck_, kmt_, kisi_, klc_, kA2_, kA_, kst2_, kst_t, kT_, kcmT'_, kcmT_, kcmNT_, chT_t, chT_f, kchT2_, kchT_, kTs_tt, kTs_tf, kTs_ft, kTs_ff, kntT_, kzip_, kasg_, kset2_, kset_, kaug3_, kaug2_, kaug_s, kex_, kret_, kiff_t, kiff_f, kfr_, ev_var, ev_con, ev_glo, ev_b2, ev_neg, ev_cm, ev_cmN, ev_ch, ev_bo, evB_1, evB_2, ev_nt, ev_ie, ev_tp, ev_ls, ev_ix, ev_sl, ev_cf, ev_ck, ev_cb, ev_mt, ev_isi, ev_lc, evA_n, evA_c, evA_s, evO_n, evO_s, evT_v, evT_cm, evT_cmN, evT_ch, evT_bo, evT_nt, evT_y, evTs_1, evTs_2, evI_s, evI_r, evI_e, evI_z, ex_asg, ex_setl, ex_aug, ex_ex, ex_ret, ex_retn, ex_iff, ex_wh, ex_fr, ex_br, ex_ct, ex_ps, ex_n, ex_c, asG_n, asG_t, obs_s, asGs_n, asGs_c, frB_, frR_s, lcB_, lcR_s, klB2_, klB_t, klB_f, wipeS_n, wipeS_c, add_i, sub_i, ipadd_i, ipsub_i, eq_i, eq_s, eq_b, eq_ni, eq_in, eq_nn, ne_i, ne_s, ne_ni, ne_in, ne_nn, lt_i, le_i, gt_i, ge_i, tru_b, tru_i, tru_n, tru_t, it0, it1, it2, it3, abs_i, max_i, min_i, len_t0, len_t1, len_t2, len_t3, int_i, tupR_0, tupR_1, tupR_2, tupR_3, tupR_4, tupR_8, mk_0, mk_1, mk_2, mk_3, mk_4, mk_6, int_b, list_t, List.map_cons, List.map_nil, List.replicate_succ, List.replicate_zero, Nat.reduceSub, Nat.reduceAdd, List.cons_append, List.nil_append, List.set_cons_zero, List.set_cons_succ, Ty.has, Bool.not_true, Bool.not_false, decide_true, decide_false, ne_nil hgn get_new]
          cases hss : ss.isEmpty with
          | true =>
            simp only [bind_ok, stm_ok, seq_nx, seq_rt, seq_bk, seq_ct, fin_nx, fin_rt, getS_0, getS_s, ofO_s, ofB_s, ofT_s, negD_i, isN_n, isN_i, isN_t, isN_r, isN_s, isN_b, notD_b, ooR_i, asgR_s, seqI_t, kb2_, kcm'_, kcm_, kcmN_, chE_t, chE_f, kch2_, kch_, boC_tt, boC_tf, boC_ft, boC_ff, kbo_, kie_t, kie_f, kix_, ksl2_, ksl_, kck2_, kck_, kmt_, kisi_, klc_, kA2_, kA_, kst2_, kst_t, kT_, kcmT'_, kcmT_, kcmNT_, chT_t, chT_f, kchT2_, kchT_, kTs_tt, kTs_tf, kTs_ft, kTs_ff, kntT_, kzip_, kasg_, kset2_, kset_, kaug3_, kaug2_, kaug_s, kex_, kret_, kiff_t, kiff_f, kfr_, ev_var, ev_con, ev_glo, ev_b2, ev_neg, ev_cm, ev_cmN, ev_ch, ev_bo, evB_1, evB_2, ev_nt, ev_ie, ev_tp, ev_ls, ev_ix, ev_sl, ev_cf, ev_ck, ev_cb, ev_mt, ev_isi, ev_lc, evA_n, evA_c, evA_s, evO_n, evO_s, evT_v, evT_cm, evT_cmN, evT_ch, evT_bo, evT_nt, evT_y, evTs_1, evTs_2, evI_s, evI_r, evI_e, evI_z, ex_asg, ex_setl, ex_aug, ex_ex, ex_ret, ex_retn, ex_iff, ex_wh, ex_fr, ex_br, ex_ct, ex_ps, ex_n, ex_c, asG_n, asG_t, obs_s, asGs_n, asGs_c, frB_, frR_s, lcB_, lcR_s, klB2_, klB_t, klB_f, wipeS_n, wipeS_c, add_i, sub_i, ipadd_i, ipsub_i, eq_i, eq_s, eq_b, eq_ni, eq_in, eq_nn, ne_i, ne_s, ne_ni, ne_in, ne_nn, lt_i, le_i, gt_i, ge_i, tru_b, tru_i, tru_n, tru_t, it0, it1, it2, it3, abs_i, max_i, min_i, len_t0, len_t1, len_t2, len_t3, int_i, tupR_0, tupR_1, tupR_2, tupR_3, tupR_4, tupR_8, mk_0, mk_1, mk_2, mk_3, mk_4, mk_6, int_b, list_t, List.map_cons, List.map_nil, List.replicate_succ, List.replicate_zero, Nat.reduceSub, Nat.reduceAdd, List.cons_append, List.nil_append, List.set_cons_zero, List.set_cons_succ, Ty.has, Bool.not_true, Bool.not_false, decide_true, decide_false]
            have := mixEnd (g3 ++ [.lst []]) (Hx.app _ _).x (I3.ext (Hx.app _ _) |>.mono (by omega))
            simp only [ck1, bind_ok, stm_ok, seq_nx, seq_rt, seq_bk, seq_ct, fin_nx, fin_rt, getS_0, getS_s, ofO_s, ofB_s, ofT_s, negD_i, isN_n, isN_i, isN_t, isN_r, isN_s, isN_b, notD_b, ooR_i, asgR_s, seqI_t, kb2_, kcm'_, kcm_, kcmN_, chE_t, chE_f, kch2_, kch_, boC_tt, boC_tf, boC_ft, boC_ff, kbo_, kie_t, kie_f, kix_, ksl2_, ksl_, kck2_, kck_, kmt_, kisi_, klc_, kA2_, kA_, kst2_, kst_t, kT_, kcmT'_, kcmT_, kcmNT_, chT_t, chT_f, kchT2_, kchT_, kTs_tt, kTs_tf, kTs_ft, kTs_ff, kntT_, kzip_, kasg_, kset2_, kset_, kaug3_, kaug2_, kaug_s, kex_, kret_, kiff_t, kiff_f, kfr_, ev_var, ev_con, ev_glo, ev_b2, ev_neg, ev_cm, ev_cmN, ev_ch, ev_bo, evB_1, evB_2, ev_nt, ev_ie, ev_tp, ev_ls, ev_ix, ev_sl, ev_cf, ev_ck, ev_cb, ev_mt, ev_isi, ev_lc, evA_n, evA_c, evA_s, evO_n, evO_s, evT_v, evT_cm, evT_cmN, evT_ch, evT_bo, evT_nt, evT_y, evTs_1, evTs_2, evI_s, evI_r, evI_e, evI_z, ex_asg, ex_setl, ex_aug, ex_ex, ex_ret, ex_retn, ex_iff, ex_wh, ex_fr, ex_br, ex_ct, ex_ps, ex_n, ex_c, asG_n, asG_t, obs_s, asGs_n, asGs_c, frB_, frR_s, lcB_, lcR_s, klB2_, klB_t, klB_f, wipeS_n, wipeS_c, add_i, sub_i, ipadd_i, ipsub_i, eq_i, eq_s, eq_b, eq_ni, eq_in, eq_nn, ne_i, ne_s, ne_ni, ne_in, ne_nn, lt_i, le_i, gt_i, ge_i, tru_b, tru_i, tru_n, tru_t, it0, it1, it2, it3, abs_i, max_i, min_i, len_t0, len_t1, len_t2, len_t3, int_i, tupR_0, tupR_1, tupR_2, tupR_3, tupR_4, tupR_8, mk_0, mk_1, mk_2, mk_3, mk_4, mk_6, int_b, list_t, List.map_cons, List.map_nil, List.replicate_succ, List.replicate_zero, Nat.reduceSub, Nat.reduceAdd, List.cons_append, List.nil_append, List.set_cons_zero, List.set_cons_succ, Ty.has, Bool.not_true, Bool.not_false, decide_true, decide_false] at this
            exact RS.Sat.seqB (RS.Sat.seq (RS.Sat.seq this (e0 _)) (e0 _)) fun τ h' hN => hN
          | false =>
            have hne : ss ≠ [] := fun e => by rw [e] at hss; cases hss
            have hpos : 0 < ss.length := List.length_pos_iff.mpr hne
            have eit : itemD (.ref h.length) (.int (-1)) (g3 ++ [.lst []]) = .ok (ss.getLast hne).D (g3 ++ [.lst []]) := by
              rw [it_last hgn (by simpa using hne), List.getLast_map]
            have hmem := List.getLast_mem hne
            simp only [bind_ok, stm_ok, seq_nx, seq_rt, seq_bk, seq_ct, fin_nx, fin_rt, getS_0, getS_s, ofO_s, ofB_s, ofT_s, negD_i, isN_n, isN_i, isN_t, isN_r, isN_s, isN_b, notD_b, ooR_i, asgR_s, seqI_t, kb2_, kcm'_, kcm_, kcmN_, chE_t, chE_f, kch2_, kch_, boC_tt, boC_tf, boC_ft, boC_ff, kbo_, kie_t, kie_f, kix_, ksl2_, ksl_, kck2_, kck_, kmt_, kisi_, klc_, kA2_, kA_, kst2_, kst_t, kT_, kcmT'_, kcmT_, kcmNT_, chT_t, chT_f, kchT2_, kchT_, kTs_tt, kTs_tf, kTs_ft, kTs_ff, kntT_, kzip_, kasg_, kset2_, kset_, kaug3_, kaug2_, kaug_s, kex_, kret_, kiff_t, kiff_f, kfr_, ev_var, ev_con, ev_glo, ev_b2, ev_neg, ev_cm, ev_cmN, ev_ch, ev_bo, evB_1, evB_2, ev_nt, ev_ie, ev_tp, ev_ls, ev_ix, ev_sl, ev_cf, ev_ck, ev_cb, ev_mt, ev_isi, ev_lc, evA_n, evA_c, evA_s, evO_n, evO_s, evT_v, evT_cm, evT_cmN, evT_ch, evT_bo, evT_nt, evT_y, evTs_1, evTs_2, evI_s, evI_r, evI_e, evI_z, ex_asg, ex_setl, ex_aug, ex_ex, ex_ret, ex_retn, ex_iff, ex_wh, ex_fr, ex_br, ex_ct, ex_ps, ex_n, ex_c, asG_n, asG_t, obs_s, asGs_n, asGs_c, frB_, frR_s, lcB_, lcR_s, klB2_, klB_t, klB_f, wipeS_n, wipeS_c, add_i, sub_i, ipadd_i, ipsub_i, eq_i, eq_s, eq_b, eq_ni, eq_in, eq_nn, ne_i, ne_s, ne_ni, ne_in, ne_nn, lt_i, le_i, gt_i, ge_i, tru_b, tru_i, tru_n, tru_t, it0, it1, it2, it3, abs_i, max_i, min_i, len_t0, len_t1, len_t2, len_t3, int_i, tupR_0, tupR_1, tupR_2, tupR_3, tupR_4, tupR_8, mk_0, mk_1, mk_2, mk_3, mk_4, mk_6, int_b, list_t, List.map_cons, List.map_nil, List.replicate_succ, List.replicate_zero, Nat.reduceSub, Nat.reduceAdd, List.cons_append, List.nil_append, List.set_cons_zero, List.set_cons_succ, Ty.has, Bool.not_true, Bool.not_false, decide_true, decide_false, Int.reduceNeg, eit]
            cases hlast : ss.getLast hne with
            | dial dm =>
              simp only [bind_ok, stm_ok, seq_nx, seq_rt, seq_bk, seq_ct, fin_nx, fin_rt, getS_0, getS_s, ofO_s, ofB_s, ofT_s, negD_i, isN_n, isN_i, isN_t, isN_r, isN_s, isN_b, notD_b, ooR_i, asgR_s, seqI_t, kb2_, kcm'_, kcm_, kcmN_, chE_t, chE_f, kch2_, kch_, boC_tt, boC_tf, boC_ft, boC_ff, kbo_, kie_t, kie_f, kix_, ksl2_, ksl_, kck2_, kck_, kmt_, kisi_, klc_, kA2_, kA_, kst2_, kst_t, kT_, kcmT'_, kcmT_, kcmNT_, chT_t, chT_f, kchT2_, kchT_, kTs_tt, kTs_tf, kTs_ft, kTs_ff, kntT_, kzip_, kasg_, kset2_, kset_, kaug3_, kaug2_, kaug_s, kex_, kret_, kiff_t, kiff_f, kfr_, ev_var, ev_con, ev_glo, ev_b2, ev_neg, ev_cm, ev_cmN, ev_ch, ev_bo, evB_1, evB_2, ev_nt, ev_ie, ev_tp, ev_ls, ev_ix, ev_sl, ev_cf, ev_ck, ev_cb, ev_mt, ev_isi, ev_lc, evA_n, evA_c, evA_s, evO_n, evO_s, evT_v, evT_cm, evT_cmN, evT_ch, evT_bo, evT_nt, evT_y, evTs_1, evTs_2, evI_s, evI_r, evI_e, evI_z, ex_asg, ex_setl, ex_aug, ex_ex, ex_ret, ex_retn, ex_iff, ex_wh, ex_fr, ex_br, ex_ct, ex_ps, ex_n, ex_c, asG_n, asG_t, obs_s, asGs_n, asGs_c, frB_, frR_s, lcB_, lcR_s, klB2_, klB_t, klB_f, wipeS_n, wipeS_c, add_i, sub_i, ipadd_i, ipsub_i, eq_i, eq_s, eq_b, eq_ni, eq_in, eq_nn, ne_i, ne_s, ne_ni, ne_in, ne_nn, lt_i, le_i, gt_i, ge_i, tru_b, tru_i, tru_n, tru_t, it0, it1, it2, it3, abs_i, max_i, min_i, len_t0, len_t1, len_t2, len_t3, int_i, tupR_0, tupR_1, tupR_2, tupR_3, tupR_4, tupR_8, mk_0, mk_1, mk_2, mk_3, mk_4, mk_6, int_b, list_t, List.map_cons, List.map_nil, List.replicate_succ, List.replicate_zero, Nat.reduceSub, Nat.reduceAdd, List.cons_append, List.nil_append, List.set_cons_zero, List.set_cons_succ, Ty.has, Bool.not_true, Bool.not_false, decide_true, decide_false, Stg.D, ne_s, str_dd]
              have := mixEnd (g3 ++ [.lst []]) (Hx.app _ _).x (I3.ext (Hx.app _ _) |>.mono (by omega))
              simp only [ck1, bind_ok, stm_ok, seq_nx, seq_rt, seq_bk, seq_ct, fin_nx, fin_rt, getS_0, getS_s, ofO_s, ofB_s, ofT_s, negD_i, isN_n, isN_i, isN_t, isN_r, isN_s, isN_b, notD_b, ooR_i, asgR_s, seqI_t, kb2_, kcm'_, kcm_, kcmN_, chE_t, chE_f, kch2_, kch_, boC_tt, boC_tf, boC_ft, boC_ff, kbo_, kie_t, kie_f, kix_, ksl2_, ksl_, kck2_, kck_, kmt_, kisi_, klc_, kA2_, kA_, kst2_, kst_t, kT_, kcmT'_, kcmT_, kcmNT_, chT_t, chT_f, kchT2_, kchT_, kTs_tt, kTs_tf, kTs_ft, kTs_ff, kntT_, kzip_, kasg_, kset2_, kset_, kaug3_, kaug2_, kaug_s, kex_, kret_, kiff_t, kiff_f, kfr_, ev_var, ev_con, ev_glo, ev_b2, ev_neg, ev_cm, ev_cmN, ev_ch, ev_bo, evB_1, evB_2, ev_nt, ev_ie, ev_tp, ev_ls, ev_ix, ev_sl, ev_cf, ev_ck, ev_cb, ev_mt, ev_isi, ev_lc, evA_n, evA_c, evA_s, evO_n, evO_s, evT_v, evT_cm, evT_cmN, evT_ch, evT_bo, evT_nt, evT_y, evTs_1, evTs_2, evI_s, evI_r, evI_e, evI_z, ex_asg, ex_setl, ex_aug, ex_ex, ex_ret, ex_retn, ex_iff, ex_wh, ex_fr, ex_br, ex_ct, ex_ps, ex_n, ex_c, asG_n, asG_t, obs_s, asGs_n, asGs_c, frB_, frR_s, lcB_, lcR_s, klB2_, klB_t, klB_f, wipeS_n, wipeS_c, add_i, sub_i, ipadd_i, ipsub_i, eq_i, eq_s, eq_b, eq_ni, eq_in, eq_nn, ne_i, ne_s, ne_ni, ne_in, ne_nn, lt_i, le_i, gt_i, ge_i, tru_b, tru_i, tru_n, tru_t, it0, it1, it2, it3, abs_i, max_i, min_i, len_t0, len_t1, len_t2, len_t3, int_i, tupR_0, tupR_1, tupR_2, tupR_3, tupR_4, tupR_8, mk_0, mk_1, mk_2, mk_3, mk_4, mk_6, int_b, list_t, List.map_cons, List.map_nil, List.replicate_succ, List.replicate_zero, Nat.reduceSub, Nat.reduceAdd, List.cons_append, List.nil_append, List.set_cons_zero, List.set_cons_succ, Ty.has, Bool.not_true, Bool.not_false, decide_true, decide_false] at this
              exact RS.Sat.seqB (RS.Sat.seq (RS.Sat.seq this (e0 _)) (e0 _)) fun τ h' hN => hN
            | mix mm =>
              have p2 : Part spot (i + 1) (ss ++ [.mix mm]) := p.add (by have := p.ok _ hmem; rw [hlast] at this; exact this) (by have := p.bd _ hmem; rw [hlast] at this; exact this) (.inl rfl)
              obtain ⟨g', eg, q1, q2, q3⟩ := stepEnd (.mix mm) (g3 ++ [.lst []]) 0 p2 (Hx.app _ _).x (I3.ext (Hx.app _ _) |>.mono (by omega))
              have hg : Hv.lst (g3 ++ [.lst []]) h.length = some (ss.map Stg.D) := (Hx.app g3 _).lst hl3
              rw [hlast] at eit
              simp only [bind_ok, stm_ok, seq_nx, seq_rt, seq_bk, seq_ct, fin_nx, fin_rt, getS_0, getS_s, ofO_s, ofB_s, ofT_s, negD_i, isN_n, isN_i, isN_t, isN_r, isN_s, isN_b, notD_b, ooR_i, asgR_s, seqI_t, kb2_, kcm'_, kcm_, kcmN_, chE_t, chE_f, kch2_, kch_, boC_tt, boC_tf, boC_ft, boC_ff, kbo_, kie_t, kie_f, kix_, ksl2_, ksl_, kck2_, kck_, kmt_, kisi_, klc_, kA2_, kA_, kst2_, kst_t, kT_, kcmT'_, kcmT_, kcmNT_, chT_t, chT_f, kchT2_, kchT_, kTs_tt, kTs_tf, kTs_ft, kTs_ff, kntT_, kzip_, kasg_, kset2_, kset_, kaug3_, kaug2_, kaug_s, kex_, kret_, kiff_t, kiff_f, kfr_, ev_var, ev_con, ev_glo, ev_b2, ev_neg, ev_cm, ev_cmN, ev_ch, ev_bo, evB_1, evB_2, ev_nt, ev_ie, ev_tp, ev_ls, ev_ix, ev_sl, ev_cf, ev_ck, ev_cb, ev_mt, ev_isi, ev_lc, evA_n, evA_c, evA_s, evO_n, evO_s, evT_v, evT_cm, evT_cmN, evT_ch, evT_bo, evT_nt, evT_y, evTs_1, evTs_2, evI_s, evI_r, evI_e, evI_z, ex_asg, ex_setl, ex_aug, ex_ex, ex_ret, ex_retn, ex_iff, ex_wh, ex_fr, ex_br, ex_ct, ex_ps, ex_n, ex_c, asG_n, asG_t, obs_s, asGs_n, asGs_c, frB_, frR_s, lcB_, lcR_s, klB2_, klB_t, klB_f, wipeS_n, wipeS_c, add_i, sub_i, ipadd_i, ipsub_i, eq_i, eq_s, eq_b, eq_ni, eq_in, eq_nn, ne_i, ne_s, ne_ni, ne_in, ne_nn, lt_i, le_i, gt_i, ge_i, tru_b, tru_i, tru_n, tru_t, it0, it1, it2, it3, abs_i, max_i, min_i, len_t0, len_t1, len_t2, len_t3, int_i, tupR_0, tupR_1, tupR_2, tupR_3, tupR_4, tupR_8, mk_0, mk_1, mk_2, mk_3, mk_4, mk_6, int_b, list_t, List.map_cons, List.map_nil, List.replicate_succ, List.replicate_zero, Nat.reduceSub, Nat.reduceAdd, List.cons_append, List.nil_append, List.set_cons_zero, List.set_cons_succ, Ty.has, Bool.not_true, Bool.not_false, decide_true, decide_false, Stg.D, str_md, Int.reduceNeg] at eit ⊢
              simp only [bind_ok, stm_ok, seq_nx, seq_rt, seq_bk, seq_ct, fin_nx, fin_rt, getS_0, getS_s, ofO_s, ofB_s, ofT_s, negD_i, isN_n, isN_i, isN_t, isN_r, isN_s, isN_b, notD_b, ooR_i, asgR_s, seqI_t, kb2_, kcm'_, kcm_, kcmN_, chE_t, chE_f, kch2_, kch_, boC_tt, boC_tf, boC_ft, boC_ff, kbo_, kie_t, kie_f, kix_, ksl2_, ksl_, kck2_, kck_, kmt_, kisi_, klc_, kA2_, kA_, kst2_, kst_t, kT_, kcmT'_, kcmT_, kcmNT_, chT_t, chT_f, kchT2_, kchT_, kTs_tt, kTs_tf, kTs_ft, kTs_ff, kntT_, kzip_, kasg_, kset2_, kset_, kaug3_, kaug2_, kaug_s, kex_, kret_, kiff_t, kiff_f, kfr_, ev_var, ev_con, ev_glo, ev_b2, ev_neg, ev_cm, ev_cmN, ev_ch, ev_bo, evB_1, evB_2, ev_nt, ev_ie, ev_tp, ev_ls, ev_ix, ev_sl, ev_cf, ev_ck, ev_cb, ev_mt, ev_isi, ev_lc, evA_n, evA_c, evA_s, evO_n, evO_s, evT_v, evT_cm, evT_cmN, evT_ch, evT_bo, evT_nt, evT_y, evTs_1, evTs_2, evI_s, evI_r, evI_e, evI_z, ex_asg, ex_setl, ex_aug, ex_ex, ex_ret, ex_retn, ex_iff, ex_wh, ex_fr, ex_br, ex_ct, ex_ps, ex_n, ex_c, asG_n, asG_t, obs_s, asGs_n, asGs_c, frB_, frR_s, lcB_, lcR_s, klB2_, klB_t, klB_f, wipeS_n, wipeS_c, add_i, sub_i, ipadd_i, ipsub_i, eq_i, eq_s, eq_b, eq_ni, eq_in, eq_nn, ne_i, ne_s, ne_ni, ne_in, ne_nn, lt_i, le_i, gt_i, ge_i, tru_b, tru_i, tru_n, tru_t, it0, it1, it2, it3, abs_i, max_i, min_i, len_t0, len_t1, len_t2, len_t3, int_i, tupR_0, tupR_1, tupR_2, tupR_3, tupR_4, tupR_8, mk_0, mk_1, mk_2, mk_3, mk_4, mk_6, int_b, list_t, List.map_cons, List.map_nil, List.replicate_succ, List.replicate_zero, Nat.reduceSub, Nat.reduceAdd, List.cons_append, List.nil_append, List.set_cons_zero, List.set_cons_succ, Ty.has, Bool.not_true, Bool.not_false, decide_true, decide_false, eit, append_r hg hsl, satbN]
              refine ⟨by omega, ss ++ [.mix mm], _, _, _, rfl, ?_⟩
              rw [eg] at q1 q2 q3
              exact ⟨q1, q2, q3, p2⟩
            | pass pl pu =>
              have p2 : Part spot (i + 1) (ss ++ [.pass pl pu]) := p.add (by have := p.ok _ hmem; rw [hlast] at this; exact this) (by have := p.bd _ hmem; rw [hlast] at this; exact this) (.inl rfl)
              obtain ⟨g', eg, q1, q2, q3⟩ := stepEnd (.pass pl pu) (g3 ++ [.lst []]) 0 p2 (Hx.app _ _).x (I3.ext (Hx.app _ _) |>.mono (by omega))
              have hg : Hv.lst (g3 ++ [.lst []]) h.length = some (ss.map Stg.D) := (Hx.app g3 _).lst hl3
              rw [hlast] at eit
              simp only [bind_ok, stm_ok, seq_nx, seq_rt, seq_bk, seq_ct, fin_nx, fin_rt, getS_0, getS_s, ofO_s, ofB_s, ofT_s, negD_i, isN_n, isN_i, isN_t, isN_r, isN_s, isN_b, notD_b, ooR_i, asgR_s, seqI_t, kb2_, kcm'_, kcm_, kcmN_, chE_t, chE_f, kch2_, kch_, boC_tt, boC_tf, boC_ft, boC_ff, kbo_, kie_t, kie_f, kix_, ksl2_, ksl_, kck2_, kck_, kmt_, kisi_, klc_, kA2_, kA_, kst2_, kst_t, kT_, kcmT'_, kcmT_, kcmNT_, chT_t, chT_f, kchT2_, kchT_, kTs_tt, kTs_tf, kTs_ft, kTs_ff, kntT_, kzip_, kasg_, kset2_, kset_, kaug3_, kaug2_, kaug_s, kex_, kret_, kiff_t, kiff_f, kfr_, ev_var, ev_con, ev_glo, ev_b2, ev_neg, ev_cm, ev_cmN, ev_ch, ev_bo, evB_1, evB_2, ev_nt, ev_ie, ev_tp, ev_ls, ev_ix, ev_sl, ev_cf, ev_ck, ev_cb, ev_mt, ev_isi, ev_lc, evA_n, evA_c, evA_s, evO_n, evO_s, evT_v, evT_cm, evT_cmN, evT_ch, evT_bo, evT_nt, evT_y, evTs_1, evTs_2, evI_s, evI_r, evI_e, evI_z, ex_asg, ex_setl, ex_aug, ex_ex, ex_ret, ex_retn, ex_iff, ex_wh, ex_fr, ex_br, ex_ct, ex_ps, ex_n, ex_c, asG_n, asG_t, obs_s, asGs_n, asGs_c, frB_, frR_s, lcB_, lcR_s, klB2_, klB_t, klB_f, wipeS_n, wipeS_c, add_i, sub_i, ipadd_i, ipsub_i, eq_i, eq_s, eq_b, eq_ni, eq_in, eq_nn, ne_i, ne_s, ne_ni, ne_in, ne_nn, lt_i, le_i, gt_i, ge_i, tru_b, tru_i, tru_n, tru_t, it0, it1, it2, it3, abs_i, max_i, min_i, len_t0, len_t1, len_t2, len_t3, int_i, tupR_0, tupR_1, tupR_2, tupR_3, tupR_4, tupR_8, mk_0, mk_1, mk_2, mk_3, mk_4, mk_6, int_b, list_t, List.map_cons, List.map_nil, List.replicate_succ, List.replicate_zero, Nat.reduceSub, Nat.reduceAdd, List.cons_append, List.nil_append, List.set_cons_zero, List.set_cons_succ, Ty.has, Bool.not_true, Bool.not_false, decide_true, decide_false, Stg.D, str_pd, Int.reduceNeg] at eit ⊢
              simp only [bind_ok, stm_ok, seq_nx, seq_rt, seq_bk, seq_ct, fin_nx, fin_rt, getS_0, getS_s, ofO_s, ofB_s, ofT_s, negD_i, isN_n, isN_i, isN_t, isN_r, isN_s, isN_b, notD_b, ooR_i, asgR_s, seqI_t, kb2_, kcm'_, kcm_, kcmN_, chE_t, chE_f, kch2_, kch_, boC_tt, boC_tf, boC_ft, boC_ff, kbo_, kie_t, kie_f, kix_, ksl2_, ksl_, kck2_, kck_, kmt_, kisi_, klc_, kA2_, kA_, kst2_, kst_t, kT_, kcmT'_, kcmT_, kcmNT_, chT_t, chT_f, kchT2_, kchT_, kTs_tt, kTs_tf, kTs_ft, kTs_ff, kntT_, kzip_, kasg_, kset2_, kset_, kaug3_, kaug2_, kaug_s, kex_, kret_, kiff_t, kiff_f, kfr_, ev_var, ev_con, ev_glo, ev_b2, ev_neg, ev_cm, ev_cmN, ev_ch, ev_bo, evB_1, evB_2, ev_nt, ev_ie, ev_tp, ev_ls, ev_ix, ev_sl, ev_cf, ev_ck, ev_cb, ev_mt, ev_isi, ev_lc, evA_n, evA_c, evA_s, evO_n, evO_s, evT_v, evT_cm, evT_cmN, evT_ch, evT_bo, evT_nt, evT_y, evTs_1, evTs_2, evI_s, evI_r, evI_e, evI_z, ex_asg, ex_setl, ex_aug, ex_ex, ex_ret, ex_retn, ex_iff, ex_wh, ex_fr, ex_br, ex_ct, ex_ps, ex_n, ex_c, asG_n, asG_t, obs_s, asGs_n, asGs_c, frB_, frR_s, lcB_, lcR_s, klB2_, klB_t, klB_f, wipeS_n, wipeS_c, add_i, sub_i, ipadd_i, ipsub_i, eq_i, eq_s, eq_b, eq_ni, eq_in, eq_nn, ne_i, ne_s, ne_ni, ne_in, ne_nn, lt_i, le_i, gt_i, ge_i, tru_b, tru_i, tru_n, tru_t, it0, it1, it2, it3, abs_i, max_i, min_i, len_t0, len_t1, len_t2, len_t3, int_i, tupR_0, tupR_1, tupR_2, tupR_3, tupR_4, tupR_8, mk_0, mk_1, mk_2, mk_3, mk_4, mk_6, int_b, list_t, List.map_cons, List.map_nil, List.replicate_succ, List.replicate_zero, Nat.reduceSub, Nat.reduceAdd, List.cons_append, List.nil_append, List.set_cons_zero, List.set_cons_succ, Ty.has, Bool.not_true, Bool.not_false, decide_true, decide_false, eit, append_r hg hsl, satbN]
              refine ⟨by omega, ss ++ [.pass pl pu], _, _, _, rfl, ?_⟩
              rw [eg] at q1 q2 q3
              exact ⟨q1, q2, q3, p2⟩
        · simp only [ck1, bind_ok, stm_ok, seq_nx, seq_rt, seq_bk, seq_ct, fin_nx, fin_rt, getS_0, getS_s, ofO_s, ofB_s, ofT_s, negD_i, isN_n, isN_i, isN_t, isN_r, isN_s, isN_b, notD_b, ooR_i, asgR_s, seqI_t, kb2_, kcm'_, kcm_, kcmN_, chE_t, chE_f, kch2_, kch_, boC_tt, boC_tf, boC_ft, boC_ff, kbo_, kie_t, kie_f, kix_, ksl2_, ksl_, kck2_, kck_, kmt_, kisi_, klc_, kA2_, kA_, kst2_, kst_t, kT_, kcmT'_, kcmT_, kcmNT_, chT_t, chT_f, kchT2_, kchT_, kTs_tt, kTs_tf, kTs_ft, kTs_ff, kntT_, kzip_, kasg_, kset2_, kset_, kaug3_, kaug2_, kaug_s, kex_, kret_, kiff_t, kiff_f, kfr_, ev_var, ev_con, ev_glo, ev_b2, ev_neg, ev_cm, ev_cmN, ev_ch, ev_bo, evB_1, evB_2, ev_nt, ev_ie, ev_tp, ev_ls, ev_ix, ev_sl, ev_cf, ev_ck, ev_cb, ev_mt, ev_isi, ev_lc, evA_n, evA_c, evA_s, evO_n, evO_s, evT_v, evT_cm, evT_cmN, evT_ch, evT_bo, evT_nt, evT_y, evTs_1, evTs_2, evI_s, evI_r, evI_e, evI_z, ex_asg, ex_setl, ex_aug, ex_ex, ex_ret, ex_retn, ex_iff, ex_wh, ex_fr, ex_br, ex_ct, ex_ps, ex_n, ex_c, asG_n, asG_t, obs_s, asGs_n, asGs_c, frB_, frR_s, lcB_, lcR_s, klB2_, klB_t, klB_f, wipeS_n, wipeS_c, add_i, sub_i, ipadd_i, ipsub_i, eq_i, eq_s, eq_b, eq_ni, eq_in, eq_nn, ne_i, ne_s, ne_ni, ne_in, ne_nn, lt_i, le_i, gt_i, ge_i, tru_b, tru_i, tru_n, tru_t, it0, it1, it2, it3, abs_i, max_i, min_i, len_t0, len_t1, len_t2, len_t3, int_i, tupR_0, tupR_1, tupR_2, tupR_3, tupR_4, tupR_8, mk_0, mk_1, mk_2, mk_3, mk_4, mk_6, int_b, list_t, List.map_cons, List.map_nil, List.replicate_succ, List.replicate_zero, Nat.reduceSub, Nat.reduceAdd, List.cons_append, List.nil_append, List.set_cons_zero, List.set_cons_succ, Ty.has, Bool.not_true, Bool.not_false, decide_true, decide_false]
          have := mixEnd g3 (ExtX.refl _ _) (I3.mono (by omega))
          simp only [bind_ok, stm_ok, seq_nx, seq_rt, seq_bk, seq_ct, fin_nx, fin_rt, getS_0, getS_s, ofO_s, ofB_s, ofT_s, negD_i, isN_n, isN_i, isN_t, isN_r, isN_s, isN_b, notD_b, ooR_i, asgR_s, seqI_t, kb2_, kcm'_, kcm_, kcmN_, chE_t, chE_f, kch2_, kch_, boC_tt, boC_tf, boC_ft, boC_ff, kbo_, kie_t, kie_f, kix_, ksl2_, ksl_, kck2_, kck_, kmt_, kisi_, klc_, kA2_, kA_, kst2_, kst_t, kT_, kcmT'_, kcmT_, kcmNT_, chT_t, chT_f, kchT2_, kchT_, kTs_tt, kTs_tf, kTs_ft, kTs_ff, kntT_, kzip_, kasg_, kset2_, kset_, kaug3_, kaug2_, kaug_s, kex_, kret_, kiff_t, kiff_f, kfr_, ev_var, ev_con, ev_glo, ev_b2, ev_neg, ev_cm, ev_cmN, ev_ch, ev_bo, evB_1, evB_2, ev_nt, ev_ie, ev_tp, ev_ls, ev_ix, ev_sl, ev_cf, ev_ck, ev_cb, ev_mt, ev_isi, ev_lc, evA_n, evA_c, evA_s, evO_n, evO_s, evT_v, evT_cm, evT_cmN, evT_ch, evT_bo, evT_nt, evT_y, evTs_1, evTs_2, evI_s, evI_r, evI_e, evI_z, ex_asg, ex_setl, ex_aug, ex_ex, ex_ret, ex_retn, ex_iff, ex_wh, ex_fr, ex_br, ex_ct, ex_ps, ex_n, ex_c, asG_n, asG_t, obs_s, asGs_n, asGs_c, frB_, frR_s, lcB_, lcR_s, klB2_, klB_t, klB_f, wipeS_n, wipeS_c, add_i, sub_i, ipadd_i, ipsub_i, eq_i, eq_s, eq_b, eq_ni, eq_in, eq_nn, ne_i, ne_s, ne_ni, ne_in, ne_nn, lt_i, le_i, gt_i, ge_i, tru_b, tru_i, tru_n, tru_t, it0, it1, it2, it3, abs_i, max_i, min_i, len_t0, len_t1, len_t2, len_t3, int_i, tupR_0, tupR_1, tupR_2, tupR_3, tupR_4, tupR_8, mk_0, mk_1, mk_2, mk_3, mk_4, mk_6, int_b, list_t, List.map_cons, List.map_nil, List.replicate_succ, List.replicate_zero, Nat.reduceSub, Nat.reduceAdd, List.cons_append, List.nil_append, List.set_cons_zero, List.set_cons_succ, Ty.has, Bool.not_true, Bool.not_false, decide_true, decide_false] at this
          exact RS.Sat.seqB (RS.Sat.seq (RS.Sat.seq this (e0 _)) (e0 _)) fun τ h' hN => hN
  · obtain ⟨hi, ss, y, z, w, q1, q2, q3, q4, q5⟩ := hI
    rw [List.length_map, List.length_range] at hi q3 q5
    exact ⟨ss, y, z, w, q1, q2, q3.mono (by omega), q4, q5⟩
  · exact ⟨by omega, [], _, _, _, rfl, xx, J2.mono (by omega), hl0, ⟨rfl, by simp, by simp, by decide, fun _ => rfl⟩⟩
  · rw [List.length_map, List.length_range]; unfold turns; omega
  · obtain ⟨ss, y, z, w, rfl, x, J', hl, p⟩ := hI
    have hbl := lst_lt hl
    obtain ⟨pv, g5, f5, c7, c8, m5, y5, I5⟩ := S_pick' (k := k) t13 (b := 12) J' (by omega) (by omega) (by omega)
    obtain ⟨pw, g6, f6, c9, c10, m6, y6, I6⟩ := S_pick' (k := k) t13 (b := far) I5 (by omega) (by omega) (by omega)
    obtain ⟨cv, g7, f7, c11, c12, m7, y7, I7⟩ := S_pick' (k := k) t13 (b := 6) (I6.ext (Hx.app g6 [.lst [.non, .non, .int 2, .int 3, .int (2 + pv), .int (2 + pw)]])) (by omega) (by omega) (by omega)
    obtain ⟨rate, hr, f8⟩ := it_os (h := g7) (r := g6.length) (v := cv) (xs := [none, none, some 2, some 3, some (2 + pv), some (2 + pw)]) (y7.get (by have := I6.lt; omega) get_new) c11 (by simpa using c12)
    have hr2 : ∀ r, rate = some r → 2 ≤ r ∧ r < 2 ^ 150 := fun r e => by
      subst e
      simp only [List.mem_cons, List.not_mem_nil, or_false, Option.some.injEq, reduceCtorEq, false_or] at hr
      omega
    have y57 : ExtX a h' g7 := y5.trans (y6.trans ((Hx.app g6 _).x.trans y7))
    simp only [bind_ok, stm_ok, seq_nx, seq_rt, seq_bk, seq_ct, fin_nx, fin_rt, getS_0, getS_s, ofO_s, ofB_s, ofT_s, negD_i, isN_n, isN_i, isN_t, isN_r, isN_s, isN_b, notD_b, ooR_i, asgR_s, seqI_t, kb2_, kcm'_, kcm_, kcmN_, chE_t, chE_f, kch2_, kch_, boC_tt, boC_tf, boC_ft, boC_ff, kbo_, kie_t, kie_f, kix_, ksl2_, ksl_, kck2_, kck_, kmt_, kisi_, klc_, kA2_, kA_, kst2_, kst_t, kT_, kcmT'_, kcmT_, kcmNT_, chT_t, chT_f, kchT2_, kchT_, kTs_tt, kTs_tf, kTs_ft, kTs_ff, kntT_, kzip_, kasg_, kset2_, kset_, kaug3_, kaug2_, kaug_s, kex_, kret_, kiff_t, kiff_f, kfr_, ev_var, ev_con, ev_glo, ev_b2, ev_neg, ev_cm, ev_cmN, ev_ch, ev_bo, evB_1, evB_2, ev_nt, ev_ie, ev_tp, ev_ls, ev_ix, ev_sl, ev_cf, ev_ck, ev_cb, ev_mt, ev_isi, ev_lc, evA_n, evA_c, evA_s, evO_n, evO_s, evT_v, evT_cm, evT_cmN, evT_ch, evT_bo, evT_nt, evT_y, evTs_1, evTs_2, evI_s, evI_r, evI_e, evI_z, ex_asg, ex_setl, ex_aug, ex_ex, ex_ret, ex_retn, ex_iff, ex_wh, ex_fr, ex_br, ex_ct, ex_ps, ex_n, ex_c, asG_n, asG_t, obs_s, asGs_n, asGs_c, frB_, frR_s, lcB_, lcR_s, klB2_, klB_t, klB_f, wipeS_n, wipeS_c, add_i, sub_i, ipadd_i, ipsub_i, eq_i, eq_s, eq_b, eq_ni, eq_in, eq_nn, ne_i, ne_s, ne_ni, ne_in, ne_nn, lt_i, le_i, gt_i, ge_i, tru_b, tru_i, tru_n, tru_t, it0, it1, it2, it3, abs_i, max_i, min_i, len_t0, len_t1, len_t2, len_t3, int_i, tupR_0, tupR_1, tupR_2, tupR_3, tupR_4, tupR_8, mk_0, mk_1, mk_2, mk_3, mk_4, mk_6, int_b, list_t, List.map_cons, List.map_nil, List.replicate_succ, List.replicate_zero, Nat.reduceSub, Nat.reduceAdd, List.cons_append, List.nil_append, List.set_cons_zero, List.set_cons_succ, Ty.has, Bool.not_true, Bool.not_false, decide_true, decide_false, f5, f6, f7, f8, satR]
    exact ⟨ss, rate, h.length, rfl, y57.lst (fun e => hb e.symm) hl, ⟨⟨p.ok, by have := p.len; omega, by have := p.len; omega, p.d1, fun r e => (hr2 r e).1⟩, p.bd, fun r e => (hr2 r e).2⟩, Nat.le_refl _, x.trans y57, I7.mono (by omega)⟩
end
end G4

/-! S6: what the law's own parts tell. -/
namespace G4
open PySem PyProof.Rows

def Stg.Bd : Stg → Prop
  | .mix m => m < 2 ^ 200
  | .pass l u => l < 2 ^ 200 ∧ u < 2 ^ 200
  | .dial m => -(2 ^ 200) < m ∧ m < 2 ^ 200
structure Drawn (ss : List Stg) (rate : Option Int) : Prop where
  ok : RcvOk ss rate
  bd : ∀ s ∈ ss, s.Bd
  rb : ∀ r, rate = some r → r < 2 ^ 200
theorem Drawn0.up {ss : List Stg} {rate : Option Int} (d : Drawn0 ss rate) : Drawn ss rate := by
  refine ⟨d.ok, fun s hs => ?_, fun r e => by have := d.rb r e; omega⟩
  have h := d.bd s hs
  cases s with
  | mix m =>
    have : m < 2 ^ 150 := h
    exact (show m < 2 ^ 200 by omega)
  | pass l u =>
    have : l < 2 ^ 150 ∧ u < 2 ^ 150 := h
    exact (show l < 2 ^ 200 ∧ u < 2 ^ 200 by omega)
  | dial m =>
    have : -(2 ^ 150) < m ∧ m < 2 ^ 150 := h
    exact (show -(2 ^ 200) < m ∧ m < 2 ^ 200 by omega)
theorem stageTone_bd {d : Int} {s : Stg} {x : Option Int} {B : Int} (h1 : s.Ok) (h2 : s.Bd) (hd : -(2 ^ 200) < d ∧ d < 2 ^ 200) (hB : 0 ≤ B) (hx : ∀ t, x = some t → -B ≤ t ∧ t ≤ B) : ∀ t, stageTone d s x = some t → -(B + 2 ^ 202) ≤ t ∧ t ≤ B + 2 ^ 202 := by
  intro t e
  cases x with
  | none => cases s <;> cases e
  | some y =>
    have hy := hx y rfl
    cases s with
    | mix m =>
      have e' : absI (y - m) = t := Option.some.inj e
      have : 0 ≤ m := h1
      have : m < 2 ^ 200 := h2
      unfold absI at e'
      split at e' <;> omega
    | dial m =>
      have e' : absI (y - d - m) = t := Option.some.inj e
      have : -(2 ^ 200) < m ∧ m < 2 ^ 200 := h2
      unfold absI at e'
      split at e' <;> omega
    | pass l u =>
      have e' : (if l ≤ y ∧ y ≤ u then some y else none) = some t := e
      split at e'
      · cases e'; omega
      · cases e'
theorem tones_bd {d : Int} (hd : -(2 ^ 200) < d ∧ d < 2 ^ 200) : ∀ {ss : List Stg} {x : Option Int} {B : Int}, (∀ s ∈ ss, s.Ok) → (∀ s ∈ ss, s.Bd) → 0 ≤ B → (∀ t, x = some t → -B ≤ t ∧ t ≤ B) → ∀ t, tones ss d x = some t → -(B + 2 ^ 202 * ss.length) ≤ t ∧ t ≤ B + 2 ^ 202 * ss.length
  | [], x, B, _, _, _, hx, t, e => by
    have := hx t e
    simp only [List.length_nil]
    omega
  | s :: ss, x, B, h1, h2, hB, hx, t, e => by
    have := tones_bd (ss := ss) hd (B := B + 2 ^ 202) (fun q hq => h1 q (List.mem_cons_of_mem _ hq)) (fun q hq => h2 q (List.mem_cons_of_mem _ hq)) (by omega) (stageTone_bd (h1 s (List.mem_cons_self ..)) (h2 s (List.mem_cons_self ..)) hd hB hx) t e
    simp only [List.length_cons]
    omega
structure Good (ss : List Stg) (rate : Option Int) (d s : Int) : Prop where
  dr : Drawn ss rate
  d1 : -(2 ^ 200) < d
  d2 : d < 2 ^ 200
  s0 : 0 ≤ s
  s1 : s < 2 ^ 200
theorem Good.tone {ss : List Stg} {rate : Option Int} {d s : Int} (g : Good ss rate d s) (i : Nat) : ∀ t, tones (ss.take i) d (some s) = some t → -(2 ^ 206) ≤ t ∧ t ≤ 2 ^ 206 := by
  intro t e
  have := tones_bd ⟨g.d1, g.d2⟩ (ss := ss.take i) (x := some s) (B := 2 ^ 200) (fun q hq => g.dr.ok.ok q (List.mem_of_mem_take hq)) (fun q hq => g.dr.bd q (List.mem_of_mem_take hq)) (by omega) (fun t e => by cases e; have := g.s0; have := g.s1; omega) t e
  have h2 : (ss.take i).length ≤ 8 := by rw [List.length_take]; have := g.dr.ok.most; omega
  omega
theorem sz_of {t : Int} (h : -(2 ^ 206) ≤ t ∧ t ≤ 2 ^ 206) : sz t := by
  unfold sz
  have : t.natAbs ≤ 2 ^ 206 := by omega
  omega
theorem Good.toneAt {ss : List Stg} {rate : Option Int} {d s : Int} (g : Good ss rate d s) : oSz (toneAt ss rate d s) := by
  intro t e
  have e' : sampled rate (tones ss d (some s)) = some t := e
  have hT := g.tone ss.length
  rw [List.take_length] at hT
  cases rate with
  | none => exact sz_of (hT t e')
  | some r =>
    cases q : tones ss d (some s) with
    | none => rw [q] at e'; cases e'
    | some y =>
      rw [q] at e'
      have e2 : (if r - y % r < y % r then r - y % r else y % r) = t := Option.some.inj e'
      have hr := g.dr.ok.rt r rfl
      have hr2 := g.dr.rb r rfl
      have := Int.emod_nonneg y (show r ≠ 0 by omega)
      have := Int.emod_lt_of_pos y (show 0 < r by omega)
      refine sz_of ?_
      split at e2 <;> omega
theorem Good.parts {ss : List Stg} {rate : Option Int} {d s : Int} (g : Good ss rate d s) : ∀ x ∈ parts ss rate d s, oSz x := by
  have hr : ∀ x ∈ runs ss d s ss.length, oSz x := fun x hx => by
    obtain ⟨i, _, rfl⟩ := List.mem_map.mp hx
    exact fun t e => sz_of (g.tone (i + 1) t e)
  intro x hx
  cases rate with
  | none => exact hr x hx
  | some r =>
    rcases List.mem_append.mp hx with q | q
    · exact hr x q
    · rw [List.mem_singleton.mp q]; exact g.toneAt
theorem parts_len {ss : List Stg} {rate : Option Int} {d s : Int} : (parts ss rate d s).length ≤ ss.length + 1 := by
  cases rate <;> simp [parts, runs]
theorem parts_ne {ss : List Stg} {rate : Option Int} {d s : Int} (h : 1 ≤ ss.length) : parts ss rate d s ≠ [] := by
  intro e
  have := congrArg List.length e
  cases rate with
  | none =>
    have e2 : (parts ss none d s).length = ss.length := by unfold parts runs; rw [List.length_map, List.length_range]
    rw [e2] at this
    have : ss.length = 0 := this
    omega
  | some r =>
    have e2 : (parts ss (some r) d s).length = ss.length + 1 := by unfold parts runs; rw [List.length_append, List.length_map, List.length_range]; rfl
    rw [e2] at this
    have : ss.length + 1 = 0 := this
    omega
theorem parts_last? {ss : List Stg} {rate : Option Int} {d s : Int} (h : 1 ≤ ss.length) : (parts ss rate d s).getLast? = some (toneAt ss rate d s) := by
  cases rate with
  | none =>
    obtain ⟨n, hn⟩ : ∃ n, ss.length = n + 1 := ⟨ss.length - 1, by omega⟩
    show (runs ss d s ss.length).getLast? = _
    rw [hn, runs_succ, List.getLast?_append, ← hn, List.take_length]
    rfl
  | some r => simp [parts]
theorem parts_last {ss : List Stg} {rate : Option Int} {d s : Int} (h : 1 ≤ ss.length) (ne : parts ss rate d s ≠ []) : (parts ss rate d s).getLast ne = toneAt ss rate d s :=
  Option.some.inj ((List.getLast?_eq_some_getLast ne).symm.trans (parts_last? h))
theorem absI_max (x m : Int) : (if m > x then m else x) * 2 - x - m = absI (x - m) := by
  unfold absI
  split <;> split <;> omega
theorem samp_min {r t : Int} (h : 0 < r) : (if (0 - t) % r < t % r then (0 - t) % r else t % r) = (if r - t % r < t % r then r - t % r else t % r) := by
  have h1 := Int.emod_nonneg t (show r ≠ 0 by omega)
  have h2 := Int.emod_lt_of_pos t h
  have h3 := Int.emod_nonneg (0 - t) (show r ≠ 0 by omega)
  have h4 := Int.emod_lt_of_pos (0 - t) h
  have h5 : (0 - t) % r = if t % r = 0 then 0 else r - t % r := by
    split
    · rename_i e
      have : r ∣ t := Int.dvd_of_emod_eq_zero e
      have h6 : r ∣ 0 - t := by
        obtain ⟨c, rfl⟩ := this
        exact ⟨-c, by rw [Int.mul_neg]; omega⟩
      exact Int.emod_eq_zero_of_dvd h6
    · rename_i e
      have e1 := Int.mul_ediv_add_emod t r
      have : (0 - t) = (r - t % r) + r * (-(t / r) - 1) := by
        rw [Int.mul_sub, Int.mul_neg]; omega
      rw [this, Int.add_mul_emod_self_left]
      exact Int.emod_eq_of_lt (by omega) (by omega)
  rw [h5]
  split <;> split <;> omega
section
variable {T : Tab} {k : Nat} {h : Hv}
theorem S_parts (t : T 31 = some f_law_parts) {b : Nat} {ss : List Stg} {rate : Option Int} {d s : Int} (hs : h.get b = some (ss.map Stg.D)) (G : Good ss rate d s) :
    (den T (k + 1) 31 [.tup [.ref b, oD rate], .int d, .int s] h).Sat (Tells h ((parts ss rate d s).map oD)) := by
  have hm := G.dr.ok.most
  have hs1 : ∀ g : Hv, Hv.get (h ++ g) b = some (ss.map Stg.D) := fun g => (Hx.app h g).get hs
  have sm2 : sm 2 = true := by decide +kernel
  rw [den_fn t rfl]
  simp only [f_law_parts, bind_ok, stm_ok, seq_nx, seq_rt, seq_bk, seq_ct, fin_nx, fin_rt, getS_0, getS_s, ofO_s, ofB_s, ofT_s, negD_i, isN_n, isN_i, isN_t, isN_r, isN_s, isN_b, notD_b, ooR_i, asgR_s, seqI_t, kb2_, kcm'_, kcm_, kcmN_, chE_t, chE_f, kch2_, kch_, boC_tt, boC_tf, boC_ft, boC_ff, kbo_, kie_t, kie_f, kix_, ksl2_, ksl_, kck2_, kck_, kmt_, kisi_, klc_, kA2_, kA_, kst2_, kst_t, kT_, kcmT'_, kcmT_, kcmNT_, chT_t, chT_f, kchT2_, kchT_, kTs_tt, kTs_tf, kTs_ft, kTs_ff, kntT_, kzip_, kasg_, kset2_, kset_, kaug3_, kaug2_, kaug_s, kex_, kret_, kiff_t, kiff_f, kfr_, ev_var, ev_con, ev_glo, ev_b2, ev_neg, ev_cm, ev_cmN, ev_ch, ev_bo, evB_1, evB_2, ev_nt, ev_ie, ev_tp, ev_ls, ev_ix, ev_sl, ev_cf, ev_ck, ev_cb, ev_mt, ev_isi, ev_lc, evA_n, evA_c, evA_s, evO_n, evO_s, evT_v, evT_cm, evT_cmN, evT_ch, evT_bo, evT_nt, evT_y, evTs_1, evTs_2, evI_s, evI_r, evI_e, evI_z, ex_asg, ex_setl, ex_aug, ex_ex, ex_ret, ex_retn, ex_iff, ex_wh, ex_fr, ex_br, ex_ct, ex_ps, ex_n, ex_c, asG_n, asG_t, obs_s, asGs_n, asGs_c, frB_, frR_s, lcB_, lcR_s, klB2_, klB_t, klB_f, wipeS_n, wipeS_c, add_i, sub_i, ipadd_i, ipsub_i, eq_i, eq_s, eq_b, eq_ni, eq_in, eq_nn, ne_i, ne_s, ne_ni, ne_in, ne_nn, lt_i, le_i, gt_i, ge_i, tru_b, tru_i, tru_n, tru_t, it0, it1, it2, it3, abs_i, max_i, min_i, len_t0, len_t1, len_t2, len_t3, int_i, tupR_0, tupR_1, tupR_2, tupR_3, tupR_4, tupR_8, mk_0, mk_1, mk_2, mk_3, mk_4, mk_6, int_b, list_t, List.map_cons, List.map_nil, List.replicate_succ, List.replicate_zero, Nat.reduceSub, Nat.reduceAdd, List.cons_append, List.nil_append, List.set_cons_zero, List.set_cons_succ, Ty.has, Bool.not_true, Bool.not_false, decide_true, decide_false, seqI_r (hs1 _)]
  refine RS.Sat.fin (N := fun _ _ => False) (RS.Sat.seq (forL_inv (nxt := It.nxt (.lst b))
    (B := fun τ h' => h' = h ++ [.lst ((runs ss d s ss.length).map oD)] ∧ ∃ y, τ = [some (.tup [.ref b, oD rate]), some (.int d), some (.int s), some (.ref h.length), some (oD (tones ss d (some s))), y])
    (ss.map Stg.D)
    (fun i τ h' => h' = h ++ [.lst ((runs ss d s i).map oD)] ∧ ∃ y, τ = [some (.tup [.ref b, oD rate]), some (.int d), some (.int s), some (.ref h.length), some (oD (tones (ss.take i) d (some s))), y])
    (fun i τ h' hI => by rw [hI.1]; exact nxt_lst (hs1 _) i) (fun i d' τ h' hd hI => ?_) (fun τ h' hI => ?_) turns 0 _ _ ⟨rfl, _, rfl⟩ (Nat.zero_le _) (by simp; unfold turns; omega)) fun τ h' hI => ?_) (fun _ _ f => f.elim)
  · obtain ⟨rfl, y, rfl⟩ := hI
    rw [List.getElem?_map] at hd
    cases q : ss[i]? with
    | none => rw [q] at hd; cases hd
    | some x =>
      rw [q] at hd
      cases hd
      have hi : i < ss.length := (List.getElem?_eq_some_iff.mp q).1
      have hl : ((runs ss d s i).map oD).length < lim := by unfold runs lim; simp; omega
      have hN : ∀ z, z = stageTone d x (tones (ss.take i) d (some s)) → (h ++ [.lst ((runs ss d s i).map oD ++ [oD z])] = h ++ [.lst ((runs ss d s (i + 1)).map oD)] ∧ oD z = oD (tones (ss.take (i + 1)) d (some s))) := fun z e => by
        rw [runs_succ, List.map_append, tones_take q, e]
        exact ⟨rfl, rfl⟩
      have hxm : x ∈ ss := List.mem_of_getElem? q
      cases qt : tones (ss.take i) d (some s) with
      | none =>
        have e := hN none (by rw [qt]; cases x <;> rfl)
        simp only [bind_ok, stm_ok, seq_nx, seq_rt, seq_bk, seq_ct, fin_nx, fin_rt, getS_0, getS_s, ofO_s, ofB_s, ofT_s, negD_i, isN_n, isN_i, isN_t, isN_r, isN_s, isN_b, notD_b, ooR_i, asgR_s, seqI_t, kb2_, kcm'_, kcm_, kcmN_, chE_t, chE_f, kch2_, kch_, boC_tt, boC_tf, boC_ft, boC_ff, kbo_, kie_t, kie_f, kix_, ksl2_, ksl_, kck2_, kck_, kmt_, kisi_, klc_, kA2_, kA_, kst2_, kst_t, kT_, kcmT'_, kcmT_, kcmNT_, chT_t, chT_f, kchT2_, kchT_, kTs_tt, kTs_tf, kTs_ft, kTs_ff, kntT_, kzip_, kasg_, kset2_, kset_, kaug3_, kaug2_, kaug_s, kex_, kret_, kiff_t, kiff_f, kfr_, ev_var, ev_con, ev_glo, ev_b2, ev_neg, ev_cm, ev_cmN, ev_ch, ev_bo, evB_1, evB_2, ev_nt, ev_ie, ev_tp, ev_ls, ev_ix, ev_sl, ev_cf, ev_ck, ev_cb, ev_mt, ev_isi, ev_lc, evA_n, evA_c, evA_s, evO_n, evO_s, evT_v, evT_cm, evT_cmN, evT_ch, evT_bo, evT_nt, evT_y, evTs_1, evTs_2, evI_s, evI_r, evI_e, evI_z, ex_asg, ex_setl, ex_aug, ex_ex, ex_ret, ex_retn, ex_iff, ex_wh, ex_fr, ex_br, ex_ct, ex_ps, ex_n, ex_c, asG_n, asG_t, obs_s, asGs_n, asGs_c, frB_, frR_s, lcB_, lcR_s, klB2_, klB_t, klB_f, wipeS_n, wipeS_c, add_i, sub_i, ipadd_i, ipsub_i, eq_i, eq_s, eq_b, eq_ni, eq_in, eq_nn, ne_i, ne_s, ne_ni, ne_in, ne_nn, lt_i, le_i, gt_i, ge_i, tru_b, tru_i, tru_n, tru_t, it0, it1, it2, it3, abs_i, max_i, min_i, len_t0, len_t1, len_t2, len_t3, int_i, tupR_0, tupR_1, tupR_2, tupR_3, tupR_4, tupR_8, mk_0, mk_1, mk_2, mk_3, mk_4, mk_6, int_b, list_t, List.map_cons, List.map_nil, List.replicate_succ, List.replicate_zero, Nat.reduceSub, Nat.reduceAdd, List.cons_append, List.nil_append, List.set_cons_zero, List.set_cons_succ, Ty.has, Bool.not_true, Bool.not_false, decide_true, decide_false, oD_n, append_r lst_new hl, satbN, set_new] at e ⊢
        exact ⟨e.1, _, by rw [e.2]⟩
      | some tt =>
        have tb := G.tone i tt qt
        have bd := G.dr.bd x hxm
        have okx := G.dr.ok.ok x hxm
        have g1 := G.d1
        have g2 := G.d2
        cases x with
        | mix m =>
          have : 0 ≤ m := okx
          have : m < 2 ^ 200 := bd
          have e := hN (some (absI (tt - m))) (by rw [qt]; rfl)
          have s1 : sm (if m > tt then m else tt) = true := by
            split <;> exact sm_b (by omega) (by omega)
          simp only [bind_ok, stm_ok, seq_nx, seq_rt, seq_bk, seq_ct, fin_nx, fin_rt, getS_0, getS_s, ofO_s, ofB_s, ofT_s, negD_i, isN_n, isN_i, isN_t, isN_r, isN_s, isN_b, notD_b, ooR_i, asgR_s, seqI_t, kb2_, kcm'_, kcm_, kcmN_, chE_t, chE_f, kch2_, kch_, boC_tt, boC_tf, boC_ft, boC_ff, kbo_, kie_t, kie_f, kix_, ksl2_, ksl_, kck2_, kck_, kmt_, kisi_, klc_, kA2_, kA_, kst2_, kst_t, kT_, kcmT'_, kcmT_, kcmNT_, chT_t, chT_f, kchT2_, kchT_, kTs_tt, kTs_tf, kTs_ft, kTs_ff, kntT_, kzip_, kasg_, kset2_, kset_, kaug3_, kaug2_, kaug_s, kex_, kret_, kiff_t, kiff_f, kfr_, ev_var, ev_con, ev_glo, ev_b2, ev_neg, ev_cm, ev_cmN, ev_ch, ev_bo, evB_1, evB_2, ev_nt, ev_ie, ev_tp, ev_ls, ev_ix, ev_sl, ev_cf, ev_ck, ev_cb, ev_mt, ev_isi, ev_lc, evA_n, evA_c, evA_s, evO_n, evO_s, evT_v, evT_cm, evT_cmN, evT_ch, evT_bo, evT_nt, evT_y, evTs_1, evTs_2, evI_s, evI_r, evI_e, evI_z, ex_asg, ex_setl, ex_aug, ex_ex, ex_ret, ex_retn, ex_iff, ex_wh, ex_fr, ex_br, ex_ct, ex_ps, ex_n, ex_c, asG_n, asG_t, obs_s, asGs_n, asGs_c, frB_, frR_s, lcB_, lcR_s, klB2_, klB_t, klB_f, wipeS_n, wipeS_c, add_i, sub_i, ipadd_i, ipsub_i, eq_i, eq_s, eq_b, eq_ni, eq_in, eq_nn, ne_i, ne_s, ne_ni, ne_in, ne_nn, lt_i, le_i, gt_i, ge_i, tru_b, tru_i, tru_n, tru_t, it0, it1, it2, it3, abs_i, max_i, min_i, len_t0, len_t1, len_t2, len_t3, int_i, tupR_0, tupR_1, tupR_2, tupR_3, tupR_4, tupR_8, mk_0, mk_1, mk_2, mk_3, mk_4, mk_6, int_b, list_t, List.map_cons, List.map_nil, List.replicate_succ, List.replicate_zero, Nat.reduceSub, Nat.reduceAdd, List.cons_append, List.nil_append, List.set_cons_zero, List.set_cons_succ, Ty.has, Bool.not_true, Bool.not_false, decide_true, decide_false, oD_s, append_r lst_new hl, satbN, set_new, Stg.D, str_mp, str_md, Int.add_zero, mul_i s1 sm2, absI_max, Int.sub_zero] at e ⊢
          exact ⟨e.1, _, by rw [e.2]⟩
        | dial m =>
          have : -(2 ^ 200) < m ∧ m < 2 ^ 200 := bd
          have e := hN (some (absI (tt - d - m))) (by rw [qt]; rfl)
          have s1 : sm (if m + d > tt then m + d else tt) = true := by
            split <;> exact sm_b (by omega) (by omega)
          have e2 : (if m + d > tt then m + d else tt) * 2 - tt - m - d = absI (tt - d - m) := by
            have := absI_max tt (m + d)
            rw [show tt - d - m = tt - (m + d) by omega, ← this]; omega
          simp only [bind_ok, stm_ok, seq_nx, seq_rt, seq_bk, seq_ct, fin_nx, fin_rt, getS_0, getS_s, ofO_s, ofB_s, ofT_s, negD_i, isN_n, isN_i, isN_t, isN_r, isN_s, isN_b, notD_b, ooR_i, asgR_s, seqI_t, kb2_, kcm'_, kcm_, kcmN_, chE_t, chE_f, kch2_, kch_, boC_tt, boC_tf, boC_ft, boC_ff, kbo_, kie_t, kie_f, kix_, ksl2_, ksl_, kck2_, kck_, kmt_, kisi_, klc_, kA2_, kA_, kst2_, kst_t, kT_, kcmT'_, kcmT_, kcmNT_, chT_t, chT_f, kchT2_, kchT_, kTs_tt, kTs_tf, kTs_ft, kTs_ff, kntT_, kzip_, kasg_, kset2_, kset_, kaug3_, kaug2_, kaug_s, kex_, kret_, kiff_t, kiff_f, kfr_, ev_var, ev_con, ev_glo, ev_b2, ev_neg, ev_cm, ev_cmN, ev_ch, ev_bo, evB_1, evB_2, ev_nt, ev_ie, ev_tp, ev_ls, ev_ix, ev_sl, ev_cf, ev_ck, ev_cb, ev_mt, ev_isi, ev_lc, evA_n, evA_c, evA_s, evO_n, evO_s, evT_v, evT_cm, evT_cmN, evT_ch, evT_bo, evT_nt, evT_y, evTs_1, evTs_2, evI_s, evI_r, evI_e, evI_z, ex_asg, ex_setl, ex_aug, ex_ex, ex_ret, ex_retn, ex_iff, ex_wh, ex_fr, ex_br, ex_ct, ex_ps, ex_n, ex_c, asG_n, asG_t, obs_s, asGs_n, asGs_c, frB_, frR_s, lcB_, lcR_s, klB2_, klB_t, klB_f, wipeS_n, wipeS_c, add_i, sub_i, ipadd_i, ipsub_i, eq_i, eq_s, eq_b, eq_ni, eq_in, eq_nn, ne_i, ne_s, ne_ni, ne_in, ne_nn, lt_i, le_i, gt_i, ge_i, tru_b, tru_i, tru_n, tru_t, it0, it1, it2, it3, abs_i, max_i, min_i, len_t0, len_t1, len_t2, len_t3, int_i, tupR_0, tupR_1, tupR_2, tupR_3, tupR_4, tupR_8, mk_0, mk_1, mk_2, mk_3, mk_4, mk_6, int_b, list_t, List.map_cons, List.map_nil, List.replicate_succ, List.replicate_zero, Nat.reduceSub, Nat.reduceAdd, List.cons_append, List.nil_append, List.set_cons_zero, List.set_cons_succ, Ty.has, Bool.not_true, Bool.not_false, decide_true, decide_false, oD_s, append_r lst_new hl, satbN, set_new, Stg.D, str_dp, str_dd, mul_i s1 sm2, e2] at e ⊢
          exact ⟨e.1, _, by rw [e.2]⟩
        | pass l u =>
          simp only [bind_ok, stm_ok, seq_nx, seq_rt, seq_bk, seq_ct, fin_nx, fin_rt, getS_0, getS_s, ofO_s, ofB_s, ofT_s, negD_i, isN_n, isN_i, isN_t, isN_r, isN_s, isN_b, notD_b, ooR_i, asgR_s, seqI_t, kb2_, kcm'_, kcm_, kcmN_, chE_t, chE_f, kch2_, kch_, boC_tt, boC_tf, boC_ft, boC_ff, kbo_, kie_t, kie_f, kix_, ksl2_, ksl_, kck2_, kck_, kmt_, kisi_, klc_, kA2_, kA_, kst2_, kst_t, kT_, kcmT'_, kcmT_, kcmNT_, chT_t, chT_f, kchT2_, kchT_, kTs_tt, kTs_tf, kTs_ft, kTs_ff, kntT_, kzip_, kasg_, kset2_, kset_, kaug3_, kaug2_, kaug_s, kex_, kret_, kiff_t, kiff_f, kfr_, ev_var, ev_con, ev_glo, ev_b2, ev_neg, ev_cm, ev_cmN, ev_ch, ev_bo, evB_1, evB_2, ev_nt, ev_ie, ev_tp, ev_ls, ev_ix, ev_sl, ev_cf, ev_ck, ev_cb, ev_mt, ev_isi, ev_lc, evA_n, evA_c, evA_s, evO_n, evO_s, evT_v, evT_cm, evT_cmN, evT_ch, evT_bo, evT_nt, evT_y, evTs_1, evTs_2, evI_s, evI_r, evI_e, evI_z, ex_asg, ex_setl, ex_aug, ex_ex, ex_ret, ex_retn, ex_iff, ex_wh, ex_fr, ex_br, ex_ct, ex_ps, ex_n, ex_c, asG_n, asG_t, obs_s, asGs_n, asGs_c, frB_, frR_s, lcB_, lcR_s, klB2_, klB_t, klB_f, wipeS_n, wipeS_c, add_i, sub_i, ipadd_i, ipsub_i, eq_i, eq_s, eq_b, eq_ni, eq_in, eq_nn, ne_i, ne_s, ne_ni, ne_in, ne_nn, lt_i, le_i, gt_i, ge_i, tru_b, tru_i, tru_n, tru_t, it0, it1, it2, it3, abs_i, max_i, min_i, len_t0, len_t1, len_t2, len_t3, int_i, tupR_0, tupR_1, tupR_2, tupR_3, tupR_4, tupR_8, mk_0, mk_1, mk_2, mk_3, mk_4, mk_6, int_b, list_t, List.map_cons, List.map_nil, List.replicate_succ, List.replicate_zero, Nat.reduceSub, Nat.reduceAdd, List.cons_append, List.nil_append, List.set_cons_zero, List.set_cons_succ, Ty.has, Bool.not_true, Bool.not_false, decide_true, decide_false, oD_s, Stg.D, str_pp]
          by_cases c1 : tt < l
          · have e := hN none (by rw [qt]; exact (if_neg (by omega)).symm)
            simp only [c1, bind_ok, stm_ok, seq_nx, seq_rt, seq_bk, seq_ct, fin_nx, fin_rt, getS_0, getS_s, ofO_s, ofB_s, ofT_s, negD_i, isN_n, isN_i, isN_t, isN_r, isN_s, isN_b, notD_b, ooR_i, asgR_s, seqI_t, kb2_, kcm'_, kcm_, kcmN_, chE_t, chE_f, kch2_, kch_, boC_tt, boC_tf, boC_ft, boC_ff, kbo_, kie_t, kie_f, kix_, ksl2_, ksl_, kck2_, kck_, kmt_, kisi_, klc_, kA2_, kA_, kst2_, kst_t, kT_, kcmT'_, kcmT_, kcmNT_, chT_t, chT_f, kchT2_, kchT_, kTs_tt, kTs_tf, kTs_ft, kTs_ff, kntT_, kzip_, kasg_, kset2_, kset_, kaug3_, kaug2_, kaug_s, kex_, kret_, kiff_t, kiff_f, kfr_, ev_var, ev_con, ev_glo, ev_b2, ev_neg, ev_cm, ev_cmN, ev_ch, ev_bo, evB_1, evB_2, ev_nt, ev_ie, ev_tp, ev_ls, ev_ix, ev_sl, ev_cf, ev_ck, ev_cb, ev_mt, ev_isi, ev_lc, evA_n, evA_c, evA_s, evO_n, evO_s, evT_v, evT_cm, evT_cmN, evT_ch, evT_bo, evT_nt, evT_y, evTs_1, evTs_2, evI_s, evI_r, evI_e, evI_z, ex_asg, ex_setl, ex_aug, ex_ex, ex_ret, ex_retn, ex_iff, ex_wh, ex_fr, ex_br, ex_ct, ex_ps, ex_n, ex_c, asG_n, asG_t, obs_s, asGs_n, asGs_c, frB_, frR_s, lcB_, lcR_s, klB2_, klB_t, klB_f, wipeS_n, wipeS_c, add_i, sub_i, ipadd_i, ipsub_i, eq_i, eq_s, eq_b, eq_ni, eq_in, eq_nn, ne_i, ne_s, ne_ni, ne_in, ne_nn, lt_i, le_i, gt_i, ge_i, tru_b, tru_i, tru_n, tru_t, it0, it1, it2, it3, abs_i, max_i, min_i, len_t0, len_t1, len_t2, len_t3, int_i, tupR_0, tupR_1, tupR_2, tupR_3, tupR_4, tupR_8, mk_0, mk_1, mk_2, mk_3, mk_4, mk_6, int_b, list_t, List.map_cons, List.map_nil, List.replicate_succ, List.replicate_zero, Nat.reduceSub, Nat.reduceAdd, List.cons_append, List.nil_append, List.set_cons_zero, List.set_cons_succ, Ty.has, Bool.not_true, Bool.not_false, decide_true, decide_false, oD_n, append_r lst_new hl, satbN, set_new] at e ⊢
            exact ⟨e.1, _, by rw [e.2]⟩
          · by_cases c2 : u < tt
            · have e := hN none (by rw [qt]; exact (if_neg (by omega)).symm)
              simp only [c1, c2, bind_ok, stm_ok, seq_nx, seq_rt, seq_bk, seq_ct, fin_nx, fin_rt, getS_0, getS_s, ofO_s, ofB_s, ofT_s, negD_i, isN_n, isN_i, isN_t, isN_r, isN_s, isN_b, notD_b, ooR_i, asgR_s, seqI_t, kb2_, kcm'_, kcm_, kcmN_, chE_t, chE_f, kch2_, kch_, boC_tt, boC_tf, boC_ft, boC_ff, kbo_, kie_t, kie_f, kix_, ksl2_, ksl_, kck2_, kck_, kmt_, kisi_, klc_, kA2_, kA_, kst2_, kst_t, kT_, kcmT'_, kcmT_, kcmNT_, chT_t, chT_f, kchT2_, kchT_, kTs_tt, kTs_tf, kTs_ft, kTs_ff, kntT_, kzip_, kasg_, kset2_, kset_, kaug3_, kaug2_, kaug_s, kex_, kret_, kiff_t, kiff_f, kfr_, ev_var, ev_con, ev_glo, ev_b2, ev_neg, ev_cm, ev_cmN, ev_ch, ev_bo, evB_1, evB_2, ev_nt, ev_ie, ev_tp, ev_ls, ev_ix, ev_sl, ev_cf, ev_ck, ev_cb, ev_mt, ev_isi, ev_lc, evA_n, evA_c, evA_s, evO_n, evO_s, evT_v, evT_cm, evT_cmN, evT_ch, evT_bo, evT_nt, evT_y, evTs_1, evTs_2, evI_s, evI_r, evI_e, evI_z, ex_asg, ex_setl, ex_aug, ex_ex, ex_ret, ex_retn, ex_iff, ex_wh, ex_fr, ex_br, ex_ct, ex_ps, ex_n, ex_c, asG_n, asG_t, obs_s, asGs_n, asGs_c, frB_, frR_s, lcB_, lcR_s, klB2_, klB_t, klB_f, wipeS_n, wipeS_c, add_i, sub_i, ipadd_i, ipsub_i, eq_i, eq_s, eq_b, eq_ni, eq_in, eq_nn, ne_i, ne_s, ne_ni, ne_in, ne_nn, lt_i, le_i, gt_i, ge_i, tru_b, tru_i, tru_n, tru_t, it0, it1, it2, it3, abs_i, max_i, min_i, len_t0, len_t1, len_t2, len_t3, int_i, tupR_0, tupR_1, tupR_2, tupR_3, tupR_4, tupR_8, mk_0, mk_1, mk_2, mk_3, mk_4, mk_6, int_b, list_t, List.map_cons, List.map_nil, List.replicate_succ, List.replicate_zero, Nat.reduceSub, Nat.reduceAdd, List.cons_append, List.nil_append, List.set_cons_zero, List.set_cons_succ, Ty.has, Bool.not_true, Bool.not_false, decide_true, decide_false, oD_n, append_r lst_new hl, satbN, set_new] at e ⊢
              exact ⟨e.1, _, by rw [e.2]⟩
            · have e := hN (some tt) (by rw [qt]; exact (if_pos (by omega)).symm)
              simp only [c1, c2, bind_ok, stm_ok, seq_nx, seq_rt, seq_bk, seq_ct, fin_nx, fin_rt, getS_0, getS_s, ofO_s, ofB_s, ofT_s, negD_i, isN_n, isN_i, isN_t, isN_r, isN_s, isN_b, notD_b, ooR_i, asgR_s, seqI_t, kb2_, kcm'_, kcm_, kcmN_, chE_t, chE_f, kch2_, kch_, boC_tt, boC_tf, boC_ft, boC_ff, kbo_, kie_t, kie_f, kix_, ksl2_, ksl_, kck2_, kck_, kmt_, kisi_, klc_, kA2_, kA_, kst2_, kst_t, kT_, kcmT'_, kcmT_, kcmNT_, chT_t, chT_f, kchT2_, kchT_, kTs_tt, kTs_tf, kTs_ft, kTs_ff, kntT_, kzip_, kasg_, kset2_, kset_, kaug3_, kaug2_, kaug_s, kex_, kret_, kiff_t, kiff_f, kfr_, ev_var, ev_con, ev_glo, ev_b2, ev_neg, ev_cm, ev_cmN, ev_ch, ev_bo, evB_1, evB_2, ev_nt, ev_ie, ev_tp, ev_ls, ev_ix, ev_sl, ev_cf, ev_ck, ev_cb, ev_mt, ev_isi, ev_lc, evA_n, evA_c, evA_s, evO_n, evO_s, evT_v, evT_cm, evT_cmN, evT_ch, evT_bo, evT_nt, evT_y, evTs_1, evTs_2, evI_s, evI_r, evI_e, evI_z, ex_asg, ex_setl, ex_aug, ex_ex, ex_ret, ex_retn, ex_iff, ex_wh, ex_fr, ex_br, ex_ct, ex_ps, ex_n, ex_c, asG_n, asG_t, obs_s, asGs_n, asGs_c, frB_, frR_s, lcB_, lcR_s, klB2_, klB_t, klB_f, wipeS_n, wipeS_c, add_i, sub_i, ipadd_i, ipsub_i, eq_i, eq_s, eq_b, eq_ni, eq_in, eq_nn, ne_i, ne_s, ne_ni, ne_in, ne_nn, lt_i, le_i, gt_i, ge_i, tru_b, tru_i, tru_n, tru_t, it0, it1, it2, it3, abs_i, max_i, min_i, len_t0, len_t1, len_t2, len_t3, int_i, tupR_0, tupR_1, tupR_2, tupR_3, tupR_4, tupR_8, mk_0, mk_1, mk_2, mk_3, mk_4, mk_6, int_b, list_t, List.map_cons, List.map_nil, List.replicate_succ, List.replicate_zero, Nat.reduceSub, Nat.reduceAdd, List.cons_append, List.nil_append, List.set_cons_zero, List.set_cons_succ, Ty.has, Bool.not_true, Bool.not_false, decide_true, decide_false, oD_s, append_r lst_new hl, satbN, set_new] at e ⊢
              exact ⟨e.1, _, by rw [e.2]⟩
  · obtain ⟨e, y, q⟩ := hI
    rw [List.length_map] at e q
    rw [List.take_length] at q
    exact ⟨e, y, q⟩
  · obtain ⟨rfl, y, rfl⟩ := hI
    have hl : ((runs ss d s ss.length).map oD).length < lim := by unfold runs lim; simp; omega
    cases rate with
    | none =>
      simp only [bind_ok, stm_ok, seq_nx, seq_rt, seq_bk, seq_ct, fin_nx, fin_rt, getS_0, getS_s, ofO_s, ofB_s, ofT_s, negD_i, isN_n, isN_i, isN_t, isN_r, isN_s, isN_b, notD_b, ooR_i, asgR_s, seqI_t, kb2_, kcm'_, kcm_, kcmN_, chE_t, chE_f, kch2_, kch_, boC_tt, boC_tf, boC_ft, boC_ff, kbo_, kie_t, kie_f, kix_, ksl2_, ksl_, kck2_, kck_, kmt_, kisi_, klc_, kA2_, kA_, kst2_, kst_t, kT_, kcmT'_, kcmT_, kcmNT_, chT_t, chT_f, kchT2_, kchT_, kTs_tt, kTs_tf, kTs_ft, kTs_ff, kntT_, kzip_, kasg_, kset2_, kset_, kaug3_, kaug2_, kaug_s, kex_, kret_, kiff_t, kiff_f, kfr_, ev_var, ev_con, ev_glo, ev_b2, ev_neg, ev_cm, ev_cmN, ev_ch, ev_bo, evB_1, evB_2, ev_nt, ev_ie, ev_tp, ev_ls, ev_ix, ev_sl, ev_cf, ev_ck, ev_cb, ev_mt, ev_isi, ev_lc, evA_n, evA_c, evA_s, evO_n, evO_s, evT_v, evT_cm, evT_cmN, evT_ch, evT_bo, evT_nt, evT_y, evTs_1, evTs_2, evI_s, evI_r, evI_e, evI_z, ex_asg, ex_setl, ex_aug, ex_ex, ex_ret, ex_retn, ex_iff, ex_wh, ex_fr, ex_br, ex_ct, ex_ps, ex_n, ex_c, asG_n, asG_t, obs_s, asGs_n, asGs_c, frB_, frR_s, lcB_, lcR_s, klB2_, klB_t, klB_f, wipeS_n, wipeS_c, add_i, sub_i, ipadd_i, ipsub_i, eq_i, eq_s, eq_b, eq_ni, eq_in, eq_nn, ne_i, ne_s, ne_ni, ne_in, ne_nn, lt_i, le_i, gt_i, ge_i, tru_b, tru_i, tru_n, tru_t, it0, it1, it2, it3, abs_i, max_i, min_i, len_t0, len_t1, len_t2, len_t3, int_i, tupR_0, tupR_1, tupR_2, tupR_3, tupR_4, tupR_8, mk_0, mk_1, mk_2, mk_3, mk_4, mk_6, int_b, list_t, List.map_cons, List.map_nil, List.replicate_succ, List.replicate_zero, Nat.reduceSub, Nat.reduceAdd, List.cons_append, List.nil_append, List.set_cons_zero, List.set_cons_succ, Ty.has, Bool.not_true, Bool.not_false, decide_true, decide_false, oD_n, satR]
      exact ⟨_, rfl, Nat.le_refl _, lst_new, Hx.app _ _⟩
    | some r =>
      have hr := G.dr.ok.rt r rfl
      cases qt : tones ss d (some s) with
      | none =>
        simp only [bind_ok, stm_ok, seq_nx, seq_rt, seq_bk, seq_ct, fin_nx, fin_rt, getS_0, getS_s, ofO_s, ofB_s, ofT_s, negD_i, isN_n, isN_i, isN_t, isN_r, isN_s, isN_b, notD_b, ooR_i, asgR_s, seqI_t, kb2_, kcm'_, kcm_, kcmN_, chE_t, chE_f, kch2_, kch_, boC_tt, boC_tf, boC_ft, boC_ff, kbo_, kie_t, kie_f, kix_, ksl2_, ksl_, kck2_, kck_, kmt_, kisi_, klc_, kA2_, kA_, kst2_, kst_t, kT_, kcmT'_, kcmT_, kcmNT_, chT_t, chT_f, kchT2_, kchT_, kTs_tt, kTs_tf, kTs_ft, kTs_ff, kntT_, kzip_, kasg_, kset2_, kset_, kaug3_, kaug2_, kaug_s, kex_, kret_, kiff_t, kiff_f, kfr_, ev_var, ev_con, ev_glo, ev_b2, ev_neg, ev_cm, ev_cmN, ev_ch, ev_bo, evB_1, evB_2, ev_nt, ev_ie, ev_tp, ev_ls, ev_ix, ev_sl, ev_cf, ev_ck, ev_cb, ev_mt, ev_isi, ev_lc, evA_n, evA_c, evA_s, evO_n, evO_s, evT_v, evT_cm, evT_cmN, evT_ch, evT_bo, evT_nt, evT_y, evTs_1, evTs_2, evI_s, evI_r, evI_e, evI_z, ex_asg, ex_setl, ex_aug, ex_ex, ex_ret, ex_retn, ex_iff, ex_wh, ex_fr, ex_br, ex_ct, ex_ps, ex_n, ex_c, asG_n, asG_t, obs_s, asGs_n, asGs_c, frB_, frR_s, lcB_, lcR_s, klB2_, klB_t, klB_f, wipeS_n, wipeS_c, add_i, sub_i, ipadd_i, ipsub_i, eq_i, eq_s, eq_b, eq_ni, eq_in, eq_nn, ne_i, ne_s, ne_ni, ne_in, ne_nn, lt_i, le_i, gt_i, ge_i, tru_b, tru_i, tru_n, tru_t, it0, it1, it2, it3, abs_i, max_i, min_i, len_t0, len_t1, len_t2, len_t3, int_i, tupR_0, tupR_1, tupR_2, tupR_3, tupR_4, tupR_8, mk_0, mk_1, mk_2, mk_3, mk_4, mk_6, int_b, list_t, List.map_cons, List.map_nil, List.replicate_succ, List.replicate_zero, Nat.reduceSub, Nat.reduceAdd, List.cons_append, List.nil_append, List.set_cons_zero, List.set_cons_succ, Ty.has, Bool.not_true, Bool.not_false, decide_true, decide_false, oD_s, oD_n, append_r lst_new hl, set_new, satR]
        refine ⟨_, rfl, Nat.le_refl _, ?_, Hx.app _ _⟩
        rw [lst_new]
        simp [parts, toneAt, qt, sampled, oD_n]
      | some tt =>
        simp only [bind_ok, stm_ok, seq_nx, seq_rt, seq_bk, seq_ct, fin_nx, fin_rt, getS_0, getS_s, ofO_s, ofB_s, ofT_s, negD_i, isN_n, isN_i, isN_t, isN_r, isN_s, isN_b, notD_b, ooR_i, asgR_s, seqI_t, kb2_, kcm'_, kcm_, kcmN_, chE_t, chE_f, kch2_, kch_, boC_tt, boC_tf, boC_ft, boC_ff, kbo_, kie_t, kie_f, kix_, ksl2_, ksl_, kck2_, kck_, kmt_, kisi_, klc_, kA2_, kA_, kst2_, kst_t, kT_, kcmT'_, kcmT_, kcmNT_, chT_t, chT_f, kchT2_, kchT_, kTs_tt, kTs_tf, kTs_ft, kTs_ff, kntT_, kzip_, kasg_, kset2_, kset_, kaug3_, kaug2_, kaug_s, kex_, kret_, kiff_t, kiff_f, kfr_, ev_var, ev_con, ev_glo, ev_b2, ev_neg, ev_cm, ev_cmN, ev_ch, ev_bo, evB_1, evB_2, ev_nt, ev_ie, ev_tp, ev_ls, ev_ix, ev_sl, ev_cf, ev_ck, ev_cb, ev_mt, ev_isi, ev_lc, evA_n, evA_c, evA_s, evO_n, evO_s, evT_v, evT_cm, evT_cmN, evT_ch, evT_bo, evT_nt, evT_y, evTs_1, evTs_2, evI_s, evI_r, evI_e, evI_z, ex_asg, ex_setl, ex_aug, ex_ex, ex_ret, ex_retn, ex_iff, ex_wh, ex_fr, ex_br, ex_ct, ex_ps, ex_n, ex_c, asG_n, asG_t, obs_s, asGs_n, asGs_c, frB_, frR_s, lcB_, lcR_s, klB2_, klB_t, klB_f, wipeS_n, wipeS_c, add_i, sub_i, ipadd_i, ipsub_i, eq_i, eq_s, eq_b, eq_ni, eq_in, eq_nn, ne_i, ne_s, ne_ni, ne_in, ne_nn, lt_i, le_i, gt_i, ge_i, tru_b, tru_i, tru_n, tru_t, it0, it1, it2, it3, abs_i, max_i, min_i, len_t0, len_t1, len_t2, len_t3, int_i, tupR_0, tupR_1, tupR_2, tupR_3, tupR_4, tupR_8, mk_0, mk_1, mk_2, mk_3, mk_4, mk_6, int_b, list_t, List.map_cons, List.map_nil, List.replicate_succ, List.replicate_zero, Nat.reduceSub, Nat.reduceAdd, List.cons_append, List.nil_append, List.set_cons_zero, List.set_cons_succ, Ty.has, Bool.not_true, Bool.not_false, decide_true, decide_false, oD_s, mod_i (show 0 < r by omega), samp_min (show 0 < r by omega), append_r lst_new hl, set_new, satR]
        refine ⟨_, rfl, Nat.le_refl _, ?_, Hx.app _ _⟩
        rw [lst_new]
        simp [parts, toneAt, qt, sampled, oD_s]
end
end G4

/-! S7: one receiver judged. -/
namespace G4
open PySem PyProof.Rows

theorem permV_210 {a b c : D} : permV ([] ++ [a, b, c]) [2, 1, 0] = [c, b, a] := rfl
theorem permV_210' {a b c : D} : permV [a, b, c] [2, 1, 0] = [c, b, a] := rfl
theorem dials_set {x : Stg} (hx : x.dl = 0) : ∀ {ss : List Stg} {i : Nat}, dials (ss.set i x) ≤ dials ss
  | [], i => by simp
  | y :: ss, 0 => by simp [dials, hx]
  | y :: ss, i + 1 => by
    have := dials_set hx (ss := ss) (i := i)
    simp only [dials, List.set_cons_succ, List.map_cons, List.sum_cons] at this ⊢
    omega
theorem Good.set {ss : List Stg} {rate : Option Int} {d s : Int} {x : Stg} {i : Nat} (g : Good ss rate d s) (h1 : x.Ok) (h2 : x.Bd) (h3 : x.dl = 0) : Good (ss.set i x) rate d s := by
  have hx : ∀ q ∈ ss.set i x, q ∈ ss ∨ q = x := fun q hq => List.mem_or_eq_of_mem_set hq
  refine ⟨⟨⟨fun q hq => ?_, ?_, ?_, Nat.le_trans (dials_set h3) g.dr.ok.dl, g.dr.ok.rt⟩, fun q hq => ?_, g.dr.rb⟩, g.d1, g.d2, g.s0, g.s1⟩
  · rcases hx q hq with z | z
    · exact g.dr.ok.ok q z
    · rw [z]; exact h1
  · rw [List.length_set]; exact g.dr.ok.one
  · rw [List.length_set]; exact g.dr.ok.most
  · rcases hx q hq with z | z
    · exact g.dr.bd q z
    · rw [z]; exact h2
theorem bd_sz {ss : List Stg} {rate : Option Int} {d s : Int} (g : Good ss rate d s) : (∀ q ∈ ss, q.Sz) ∧ oSz rate := by
  refine ⟨fun q hq => ?_, fun r e => ?_⟩
  · have h1 := g.dr.ok.ok q hq
    have h2 := g.dr.bd q hq
    cases q with
    | mix m =>
      have : 0 ≤ m := h1
      have : m < 2 ^ 200 := h2
      exact sz_of (by omega)
    | pass l u =>
      have : 0 ≤ l ∧ l ≤ u := h1
      have : l < 2 ^ 200 ∧ u < 2 ^ 200 := h2
      exact ⟨sz_of (by omega), sz_of (by omega)⟩
    | dial m =>
      have : -(2 ^ 200) < m ∧ m < 2 ^ 200 := h2
      exact sz_of (by omega)
  · have := g.dr.ok.rt r e
    have := g.dr.rb r e
    exact sz_of (by omega)
def threeS (s : Int) : List Stg := [.mix (s / 2 + 1), .pass 0 s, .mix 3]
def osT (xs : List (Option Int)) : Str := (PyData.list (xs.map oP)).shown
def prT (xs : List (Option Int)) (x : Option Int) : Str := (PyData.list [.list (xs.map oP), oP x]).shown
theorem repr_rcv {h : Hv} {b : Nat} {ss : List Stg} {rate : Option Int} {d s : Int} (hs : h.get b = some (ss.map Stg.D)) (g : Good ss rate d s) : Bu.ev .repr [.tup [.ref b, oD rate]] h = .ok (.str (rcvP ss rate).shown) h :=
  repr_ok (dat_rcv (n := 8) hs) ((Rp_rcv (bd_sz g).1 (bd_sz g).2 g.dr.ok.most).mono (by omega) (by unfold lim; omega))
theorem repr_os {h : Hv} {r : Nat} {xs : List (Option Int)} (e : h.get r = some (xs.map oD)) (hx : ∀ x ∈ xs, oSz x) (hl : xs.length ≤ 100) : Bu.ev .repr [.ref r] h = .ok (.str (osT xs)) h :=
  repr_ok (dat_os (n := 10) e) ((Rp_os hx hl).mono (by omega) (by unfold lim; omega))
theorem repr_pair {h : Hv} {r q : Nat} {xs : List (Option Int)} {x : Option Int} (e : h.get r = some [.ref q, oD x]) (e2 : h.get q = some (xs.map oD)) (hx : ∀ x ∈ xs, oSz x) (hx2 : oSz x) (hl : xs.length ≤ 100) : Bu.ev .repr [.ref r] h = .ok (.str (prT xs x)) h := by
  refine repr_ok (dat_list (n := 11) e (by simp only [optAll, dat_os (n := 9) e2, dat_oD])) ?_
  refine (Rp_list (n := 1) (L := 200000) fun p hp => ?_).mono (by omega) (by unfold lim; simp only [List.length_cons, List.length_nil]; omega)
  simp only [List.mem_cons, List.not_mem_nil, or_false] at hp
  rcases hp with rfl | rfl
  · exact Rp_os hx hl
  · exact (Rp_oP hx2).mono (by omega) (by omega)
section
variable {T : Tab} {k : Nat} {h : Hv}
/-- the tail of a law_right: what is compared for a changed receiver -/
theorem S_right (L : LibA T) (t30 : T 30 = some f_stage_tones) (t31 : T 31 = some f_law_parts) (t : T 33 = some f_law_right) {b : Nat} {ss : List Stg} {rate : Option Int} {d s : Int} (hs : h.get b = some (ss.map Stg.D)) (G : Good ss rate d s) :
    (den T (k + 9) 33 [.tup [.ref b, oD rate], .int d, .int s] h).Sat fun x h' => x = .bl true ∧ Hx h h' := by
  have sm2 : sm 2 = true := by decide +kernel
  have hbl := get_lt hs
  have gs0 := G.s0
  have gs1 := G.s1
  have pl : ∀ ss', Good ss' rate d s → (parts ss' rate d s).length ≤ 100 := fun ss' g => by
    have := parts_len (ss := ss') (rate := rate) (d := d) (s := s)
    have := g.dr.ok.most
    omega
  rw [den_fn t rfl]
  obtain ⟨_, h1, e1, p, rfl, hp, gp, x1⟩ := (S_parts (k := k + 7) t31 hs G).get
  simp only [f_law_right, bind_ok, stm_ok, seq_nx, seq_rt, seq_bk, seq_ct, fin_nx, fin_rt, getS_0, getS_s, ofO_s, ofB_s, ofT_s, negD_i, isN_n, isN_i, isN_t, isN_r, isN_s, isN_b, notD_b, ooR_i, asgR_s, seqI_t, kb2_, kcm'_, kcm_, kcmN_, chE_t, chE_f, kch2_, kch_, boC_tt, boC_tf, boC_ft, boC_ff, kbo_, kie_t, kie_f, kix_, ksl2_, ksl_, kck2_, kck_, kmt_, kisi_, klc_, kA2_, kA_, kst2_, kst_t, kT_, kcmT'_, kcmT_, kcmNT_, chT_t, chT_f, kchT2_, kchT_, kTs_tt, kTs_tf, kTs_ft, kTs_ff, kntT_, kzip_, kasg_, kset2_, kset_, kaug3_, kaug2_, kaug_s, kex_, kret_, kiff_t, kiff_f, kfr_, ev_var, ev_con, ev_glo, ev_b2, ev_neg, ev_cm, ev_cmN, ev_ch, ev_bo, evB_1, evB_2, ev_nt, ev_ie, ev_tp, ev_ls, ev_ix, ev_sl, ev_cf, ev_ck, ev_cb, ev_mt, ev_isi, ev_lc, evA_n, evA_c, evA_s, evO_n, evO_s, evT_v, evT_cm, evT_cmN, evT_ch, evT_bo, evT_nt, evT_y, evTs_1, evTs_2, evI_s, evI_r, evI_e, evI_z, ex_asg, ex_setl, ex_aug, ex_ex, ex_ret, ex_retn, ex_iff, ex_wh, ex_fr, ex_br, ex_ct, ex_ps, ex_n, ex_c, asG_n, asG_t, obs_s, asGs_n, asGs_c, frB_, frR_s, lcB_, lcR_s, klB2_, klB_t, klB_f, wipeS_n, wipeS_c, add_i, sub_i, ipadd_i, ipsub_i, eq_i, eq_s, eq_b, eq_ni, eq_in, eq_nn, ne_i, ne_s, ne_ni, ne_in, ne_nn, lt_i, le_i, gt_i, ge_i, tru_b, tru_i, tru_n, tru_t, it0, it1, it2, it3, abs_i, max_i, min_i, len_t0, len_t1, len_t2, len_t3, int_i, tupR_0, tupR_1, tupR_2, tupR_3, tupR_4, tupR_8, mk_0, mk_1, mk_2, mk_3, mk_4, mk_6, int_b, list_t, List.map_cons, List.map_nil, List.replicate_succ, List.replicate_zero, Nat.reduceSub, Nat.reduceAdd, List.cons_append, List.nil_append, List.set_cons_zero, List.set_cons_succ, Ty.has, Bool.not_true, Bool.not_false, decide_true, decide_false, repr_rcv hs G, e1, rngI_1 (show -(2 ^ 62) ≤ (2 : Int) ∧ (2 : Int) < 2 ^ 62 by omega)]
  have hp1 := lst_lt gp
  refine RS.Sat.fin (N := fun _ _ => False) (RS.Sat.seq (forL_inv (nxt := It.nxt (.rng 0 (2 : Int).toNat))
    (B := fun τ h' => Hx h1 h' ∧ ∃ y z, τ = [some (.tup [.ref b, oD rate]), some (.int d), some (.int s), some (.str (rcvP ss rate).shown), some (.ref p), y, z, none, none, none])
    ((List.range (2 : Int).toNat).map fun j : Nat => D.int (0 + (j : Int)))
    (fun i τ h' => Hx h1 h' ∧ ∃ y z, τ = [some (.tup [.ref b, oD rate]), some (.int d), some (.int s), some (.str (rcvP ss rate).shown), some (.ref p), y, z, none, none, none])
    (fun i τ h' _ => nxt_rng i) (fun i d' τ h' hd hI => ?_) (fun τ h' hI => hI) turns 0 _ _ ⟨Hx.refl _, _, _, rfl⟩ (Nat.zero_le _) (by decide)) fun τ h' hI => ?_) (fun _ _ f => f.elim)
  · obtain ⟨x2, y, z, rfl⟩ := hI
    obtain ⟨_, h3, e3, q, rfl, hq, gq, x3⟩ := (S_stage_tones (k := k) L t30 (h := h') d s ((x1.trans x2).get hs) G.dr.ok G.s0).get
    have c1 := repr_os (get_of_lst gq) G.parts (pl _ G)
    have c2 := repr_os (x3.get (x2.get (get_of_lst gp))) G.parts (pl _ G)
    have c3 := repr_rcv ((x1.trans (x2.trans x3)).get hs) G
    have hl : ((parts ss rate d s).map oD).length < lim := by
      rw [List.length_map]; have := pl _ G; unfold lim; omega
    have hle := x2.le
    simp only [bind_ok, stm_ok, seq_nx, seq_rt, seq_bk, seq_ct, fin_nx, fin_rt, getS_0, getS_s, ofO_s, ofB_s, ofT_s, negD_i, isN_n, isN_i, isN_t, isN_r, isN_s, isN_b, notD_b, ooR_i, asgR_s, seqI_t, kb2_, kcm'_, kcm_, kcmN_, chE_t, chE_f, kch2_, kch_, boC_tt, boC_tf, boC_ft, boC_ff, kbo_, kie_t, kie_f, kix_, ksl2_, ksl_, kck2_, kck_, kmt_, kisi_, klc_, kA2_, kA_, kst2_, kst_t, kT_, kcmT'_, kcmT_, kcmNT_, chT_t, chT_f, kchT2_, kchT_, kTs_tt, kTs_tf, kTs_ft, kTs_ff, kntT_, kzip_, kasg_, kset2_, kset_, kaug3_, kaug2_, kaug_s, kex_, kret_, kiff_t, kiff_f, kfr_, ev_var, ev_con, ev_glo, ev_b2, ev_neg, ev_cm, ev_cmN, ev_ch, ev_bo, evB_1, evB_2, ev_nt, ev_ie, ev_tp, ev_ls, ev_ix, ev_sl, ev_cf, ev_ck, ev_cb, ev_mt, ev_isi, ev_lc, evA_n, evA_c, evA_s, evO_n, evO_s, evT_v, evT_cm, evT_cmN, evT_ch, evT_bo, evT_nt, evT_y, evTs_1, evTs_2, evI_s, evI_r, evI_e, evI_z, ex_asg, ex_setl, ex_aug, ex_ex, ex_ret, ex_retn, ex_iff, ex_wh, ex_fr, ex_br, ex_ct, ex_ps, ex_n, ex_c, asG_n, asG_t, obs_s, asGs_n, asGs_c, frB_, frR_s, lcB_, lcR_s, klB2_, klB_t, klB_f, wipeS_n, wipeS_c, add_i, sub_i, ipadd_i, ipsub_i, eq_i, eq_s, eq_b, eq_ni, eq_in, eq_nn, ne_i, ne_s, ne_ni, ne_in, ne_nn, lt_i, le_i, gt_i, ge_i, tru_b, tru_i, tru_n, tru_t, it0, it1, it2, it3, abs_i, max_i, min_i, len_t0, len_t1, len_t2, len_t3, int_i, tupR_0, tupR_1, tupR_2, tupR_3, tupR_4, tupR_8, mk_0, mk_1, mk_2, mk_3, mk_4, mk_6, int_b, list_t, List.map_cons, List.map_nil, List.replicate_succ, List.replicate_zero, Nat.reduceSub, Nat.reduceAdd, List.cons_append, List.nil_append, List.set_cons_zero, List.set_cons_succ, Ty.has, Bool.not_true, Bool.not_false, decide_true, decide_false, permV_210', e3, c1, c2, c3, append_r gq hl, satbN]
    exact ⟨(x2.trans x3).set (by omega), _, _, rfl⟩
  · obtain ⟨x2, y, z, rfl⟩ := hI
    obtain ⟨_, h3, e3, q, rfl, hq, gq, x3⟩ := (S_stage_tones (k := k) L t30 (h := h') d s ((x1.trans x2).get hs) G.dr.ok G.s0).get
    have c1 := repr_os (get_of_lst gq) G.parts (pl _ G)
    have c2 := repr_os (x3.get (x2.get (get_of_lst gp))) G.parts (pl _ G)
    have hs3 : h3.get b = some (ss.map Stg.D) := (x1.trans (x2.trans x3)).get hs
    have c4 := S_tone_at (k := k) L d s hs3 G.dr.ok G.s0
    have ne := parts_ne (ss := ss) (rate := rate) (d := d) (s := s) G.dr.ok.one
    have xp3 : ∀ g : Hv, Hv.get (h3 ++ g) p = some ((parts ss rate d s).map oD) := fun g => (Hx.app h3 g).get (x3.get (x2.get (get_of_lst gp)))
    have c5 : ∀ g : Hv, itemD (.ref p) (.int (-1)) (h3 ++ g) = .ok (oD (toneAt ss rate d s)) (h3 ++ g) := fun g => by
      rw [it_last (xp3 g) (by simpa using ne), List.getLast_map, parts_last G.dr.ok.one]
    have two : ∀ {g : Hv} {r : Nat}, g.get r = some [oD (toneAt ss rate d s), oD (toneAt ss rate d s)] → Bu.ev .repr [.ref r] g = .ok (.str (osT [toneAt ss rate d s, toneAt ss rate d s])) g := fun {g r} e =>
      repr_os (xs := [toneAt ss rate d s, toneAt ss rate d s]) e (fun x hx => by
        simp only [List.mem_cons, List.not_mem_nil, or_false] at hx
        rcases hx with rfl | rfl <;> exact G.toneAt) (by simp)
    have c7 : Bu.ev .repr [.tup [.ref b, oD rate]] (h3 ++ [.lst [oD (toneAt ss rate d s), oD (toneAt ss rate d s)]] ++ [.lst [oD (toneAt ss rate d s), oD (toneAt ss rate d s)]]) = _ := repr_rcv (((Hx.app h3 _).push _).get hs3) G
    have c8 : Hv.get (h3 ++ [.lst [oD (toneAt ss rate d s), oD (toneAt ss rate d s)]] ++ [.lst [oD (toneAt ss rate d s), oD (toneAt ss rate d s)]]) b = some (ss.map Stg.D) := ((Hx.app h3 _).push _).get hs3
    simp only [bind_ok, stm_ok, seq_nx, seq_rt, seq_bk, seq_ct, fin_nx, fin_rt, getS_0, getS_s, ofO_s, ofB_s, ofT_s, negD_i, isN_n, isN_i, isN_t, isN_r, isN_s, isN_b, notD_b, ooR_i, asgR_s, seqI_t, kb2_, kcm'_, kcm_, kcmN_, chE_t, chE_f, kch2_, kch_, boC_tt, boC_tf, boC_ft, boC_ff, kbo_, kie_t, kie_f, kix_, ksl2_, ksl_, kck2_, kck_, kmt_, kisi_, klc_, kA2_, kA_, kst2_, kst_t, kT_, kcmT'_, kcmT_, kcmNT_, chT_t, chT_f, kchT2_, kchT_, kTs_tt, kTs_tf, kTs_ft, kTs_ff, kntT_, kzip_, kasg_, kset2_, kset_, kaug3_, kaug2_, kaug_s, kex_, kret_, kiff_t, kiff_f, kfr_, ev_var, ev_con, ev_glo, ev_b2, ev_neg, ev_cm, ev_cmN, ev_ch, ev_bo, evB_1, evB_2, ev_nt, ev_ie, ev_tp, ev_ls, ev_ix, ev_sl, ev_cf, ev_ck, ev_cb, ev_mt, ev_isi, ev_lc, evA_n, evA_c, evA_s, evO_n, evO_s, evT_v, evT_cm, evT_cmN, evT_ch, evT_bo, evT_nt, evT_y, evTs_1, evTs_2, evI_s, evI_r, evI_e, evI_z, ex_asg, ex_setl, ex_aug, ex_ex, ex_ret, ex_retn, ex_iff, ex_wh, ex_fr, ex_br, ex_ct, ex_ps, ex_n, ex_c, asG_n, asG_t, obs_s, asGs_n, asGs_c, frB_, frR_s, lcB_, lcR_s, klB2_, klB_t, klB_f, wipeS_n, wipeS_c, add_i, sub_i, ipadd_i, ipsub_i, eq_i, eq_s, eq_b, eq_ni, eq_in, eq_nn, ne_i, ne_s, ne_ni, ne_in, ne_nn, lt_i, le_i, gt_i, ge_i, tru_b, tru_i, tru_n, tru_t, it0, it1, it2, it3, abs_i, max_i, min_i, len_t0, len_t1, len_t2, len_t3, int_i, tupR_0, tupR_1, tupR_2, tupR_3, tupR_4, tupR_8, mk_0, mk_1, mk_2, mk_3, mk_4, mk_6, int_b, list_t, List.map_cons, List.map_nil, List.replicate_succ, List.replicate_zero, Nat.reduceSub, Nat.reduceAdd, List.cons_append, List.nil_append, List.set_cons_zero, List.set_cons_succ, Ty.has, Bool.not_true, Bool.not_false, decide_true, decide_false, permV_210', e3, c1, c2, c4, Int.reduceNeg, c5, two (get_new), c7, list_r c8, fdiv_i (show (0 : Int) < 2 by omega) sm2]
    have x5 : Hx h h3 := x1.trans (x2.trans x3)
    have x6 : Hx h3 (h3 ++ [.lst [oD (toneAt ss rate d s), oD (toneAt ss rate d s)]] ++ [.lst [oD (toneAt ss rate d s), oD (toneAt ss rate d s)]] ++ [Ob.lst (ss.map Stg.D)]) := ((Hx.app h3 _).push _).push _
    generalize hh : (h3 ++ [Ob.lst [oD (toneAt ss rate d s), oD (toneAt ss rate d s)]] ++ [Ob.lst [oD (toneAt ss rate d s), oD (toneAt ss rate d s)]] : Hv) = h4 at *
    have hc4 : h3.length ≤ h4.length := by rw [← hh]; simp
    have hlc : h.length ≤ h4.length := Nat.le_trans x5.le hc4
    have gp5 : Hv.get (h4 ++ [Ob.lst (ss.map Stg.D)]) p = some ((parts ss rate d s).map oD) := x6.get (x3.get (x2.get (get_of_lst gp)))
    have hpl : p < h4.length := by have := x2.le; have := x3.le; omega
    -- the changed receivers
    have tail : ∀ (ss' : List Stg) (due : Nat) (h' : Hv), Good ss' rate d s → h'.get due = some ((parts ss' rate d s).map oD) → h'.lst h4.length = some (ss'.map Stg.D) → Hx h h' →
        ∃ h'' q1 q2 h6, den T (k + 8) 30 [.tup [.ref h4.length, oD rate], .int d, .int s] h' = .ok (.ref q1) h6 ∧ den T (k + 8) 29 [.tup [.ref h4.length, oD rate], .int d, .int s] h6 = .ok (oD (toneAt ss' rate d s)) h6 ∧
          Bu.ev .repr [.ref h6.length] (h6 ++ [.lst [.ref q1, oD (toneAt ss' rate d s)]]) = .ok (.str (prT (parts ss' rate d s) (toneAt ss' rate d s))) (h6 ++ [.lst [.ref q1, oD (toneAt ss' rate d s)]]) ∧
          itemD (.ref due) (.int (-1)) (h6 ++ [.lst [.ref q1, oD (toneAt ss' rate d s)]]) = .ok (oD (toneAt ss' rate d s)) (h6 ++ [.lst [.ref q1, oD (toneAt ss' rate d s)]]) ∧
          q2 = (h6 ++ [Ob.lst [.ref q1, oD (toneAt ss' rate d s)]]).length ∧ h'' = (h6 ++ [Ob.lst [.ref q1, oD (toneAt ss' rate d s)]]) ++ [Ob.lst [.ref due, oD (toneAt ss' rate d s)]] ∧
          Bu.ev .repr [.ref q2] h'' = .ok (.str (prT (parts ss' rate d s) (toneAt ss' rate d s))) h'' ∧ Hx h h'' ∧ h''.lst h4.length = some (ss'.map Stg.D) := by
      intro ss' due h' g e1 e2 xx
      obtain ⟨_, h6, e3, q, rfl, hq, gq, x3⟩ := (S_stage_tones (k := k) L t30 (h := h') d s (get_of_lst e2) g.dr.ok g.s0).get
      have ne := parts_ne (ss := ss') (rate := rate) (d := d) (s := s) g.dr.ok.one
      refine ⟨_, q, _, h6, e3, S_tone_at (k := k) L d s (x3.get (get_of_lst e2)) g.dr.ok g.s0, repr_pair get_new ((Hx.app h6 _).get (get_of_lst gq)) g.parts g.toneAt (pl _ g), ?_, rfl, rfl, repr_pair get_new (((Hx.app h6 _).push _).get (x3.get e1)) g.parts g.toneAt (pl _ g), ((xx.trans x3).push _).push _, ((Hx.app h6 _).push _).lst (x3.lst e2)⟩
      rw [it_last ((Hx.app h6 _).get (x3.get e1)) (by simpa using ne), List.getLast_map, parts_last g.dr.ok.one]
    refine RS.Sat.seq (forL_inv (nxt := It.nxt (.fix ((threeS s).map Stg.D)))
      (B := fun τ h' => ∃ ss' due y, Good ss' rate d s ∧ h'.get due = some ((parts ss' rate d s).map oD) ∧ h'.lst h4.length = some (ss'.map Stg.D) ∧ Hx h h' ∧
        ∃ l2 l3, τ = [some (.tup [.ref b, oD rate]), some (.int d), some (.int s), some (.str (rcvP ss rate).shown), some (.ref due), l2, l3, some (.ref h4.length), some (.tup [.ref h4.length, oD rate]), y])
      ((threeS s).map Stg.D)
      (fun i τ h' => ∃ ss' due y, Good ss' rate d s ∧ h'.get due = some ((parts ss' rate d s).map oD) ∧ h'.lst h4.length = some (ss'.map Stg.D) ∧ Hx h h' ∧
        ∃ l2 l3, τ = [some (.tup [.ref b, oD rate]), some (.int d), some (.int s), some (.str (rcvP ss rate).shown), some (.ref due), l2, l3, some (.ref h4.length), some (.tup [.ref h4.length, oD rate]), y])
      (fun i τ h' _ => rfl) (fun i d' τ h' hd hI => ?_) (fun τ h' hI => hI) turns 0 _ _ ⟨ss, p, _, G, gp5, lst_new, x5.trans x6, _, _, rfl⟩ (Nat.zero_le _) (by simp [threeS]; unfold turns; omega)) fun τ h' hI => ?_
    · obtain ⟨ss', due, y, g, e1, e2, xx, l2, l3, rfl⟩ := hI
      obtain ⟨h'', q1, q2, h6, f1, f2, f3, f4, rfl, rfl, f5, xx2, e4⟩ := tail ss' due h' g e1 e2 xx
      rw [List.getElem?_map] at hd
      obtain ⟨x, hx, rfl⟩ : ∃ x, (threeS s)[i]? = some x ∧ x.D = d' := by
        cases q : (threeS s)[i]? with
        | none => rw [q] at hd; cases hd
        | some x => rw [q] at hd; exact ⟨x, rfl, Option.some.inj hd⟩
      have hxm := List.mem_of_getElem? hx
      have ok : x.Ok ∧ x.Bd ∧ x.dl = 0 := by
        simp only [threeS, List.mem_cons, List.not_mem_nil, or_false] at hxm
        rcases hxm with rfl | rfl | rfl
        · exact ⟨show 0 ≤ s / 2 + 1 by omega, show s / 2 + 1 < 2 ^ 200 by omega, rfl⟩
        · exact ⟨⟨by omega, gs0⟩, ⟨by omega, gs1⟩, rfl⟩
        · exact ⟨show (0 : Int) ≤ 3 by omega, show (3 : Int) < 2 ^ 200 by omega, rfl⟩
      have g2 := g.set (i := ss'.length - 1) ok.1 ok.2.1 ok.2.2
      have i1 : idx (ss'.map Stg.D).length (-1) = some (ss'.length - 1) := by
        have := idx_last (n := (ss'.map Stg.D).length) (by rw [List.length_map]; exact g.dr.ok.one)
        rw [this, List.length_map]
      have m1 : (ss'.map Stg.D).set (ss'.length - 1) x.D = (ss'.set (ss'.length - 1) x).map Stg.D := List.map_set.symm
      have hset := setR_r (τ := [some (.tup [.ref b, oD rate]), some (.int d), some (.int s), some (.str (rcvP ss rate).shown), some (.ref due), l2, l3, some (.ref h4.length), some (.tup [.ref h4.length, oD rate]), some x.D]) (v := x.D) e4 i1
      rw [m1] at hset
      obtain ⟨_, h7, e7, p2, rfl, hp2, gp2, x7⟩ := (S_parts (k := k + 7) t31 (h := List.set _ _ _) (get_set (xs := (ss'.set (ss'.length - 1) x).map Stg.D) (lst_lt e4)) g2).get
      simp only [bind_ok, stm_ok, seq_nx, seq_rt, seq_bk, seq_ct, fin_nx, fin_rt, getS_0, getS_s, ofO_s, ofB_s, ofT_s, negD_i, isN_n, isN_i, isN_t, isN_r, isN_s, isN_b, notD_b, ooR_i, asgR_s, seqI_t, kb2_, kcm'_, kcm_, kcmN_, chE_t, chE_f, kch2_, kch_, boC_tt, boC_tf, boC_ft, boC_ff, kbo_, kie_t, kie_f, kix_, ksl2_, ksl_, kck2_, kck_, kmt_, kisi_, klc_, kA2_, kA_, kst2_, kst_t, kT_, kcmT'_, kcmT_, kcmNT_, chT_t, chT_f, kchT2_, kchT_, kTs_tt, kTs_tf, kTs_ft, kTs_ff, kntT_, kzip_, kasg_, kset2_, kset_, kaug3_, kaug2_, kaug_s, kex_, kret_, kiff_t, kiff_f, kfr_, ev_var, ev_con, ev_glo, ev_b2, ev_neg, ev_cm, ev_cmN, ev_ch, ev_bo, evB_1, evB_2, ev_nt, ev_ie, ev_tp, ev_ls, ev_ix, ev_sl, ev_cf, ev_ck, ev_cb, ev_mt, ev_isi, ev_lc, evA_n, evA_c, evA_s, evO_n, evO_s, evT_v, evT_cm, evT_cmN, evT_ch, evT_bo, evT_nt, evT_y, evTs_1, evTs_2, evI_s, evI_r, evI_e, evI_z, ex_asg, ex_setl, ex_aug, ex_ex, ex_ret, ex_retn, ex_iff, ex_wh, ex_fr, ex_br, ex_ct, ex_ps, ex_n, ex_c, asG_n, asG_t, obs_s, asGs_n, asGs_c, frB_, frR_s, lcB_, lcR_s, klB2_, klB_t, klB_f, wipeS_n, wipeS_c, add_i, sub_i, ipadd_i, ipsub_i, eq_i, eq_s, eq_b, eq_ni, eq_in, eq_nn, ne_i, ne_s, ne_ni, ne_in, ne_nn, lt_i, le_i, gt_i, ge_i, tru_b, tru_i, tru_n, tru_t, it0, it1, it2, it3, abs_i, max_i, min_i, len_t0, len_t1, len_t2, len_t3, int_i, tupR_0, tupR_1, tupR_2, tupR_3, tupR_4, tupR_8, mk_0, mk_1, mk_2, mk_3, mk_4, mk_6, int_b, list_t, List.map_cons, List.map_nil, List.replicate_succ, List.replicate_zero, Nat.reduceSub, Nat.reduceAdd, List.cons_append, List.nil_append, List.set_cons_zero, List.set_cons_succ, Ty.has, Bool.not_true, Bool.not_false, decide_true, decide_false, f1, f2, f3, f4, ne_s, Int.reduceNeg]
      rw [f5]
      simp only [bind_ok, stm_ok, seq_nx, seq_rt, seq_bk, seq_ct, fin_nx, fin_rt, getS_0, getS_s, ofO_s, ofB_s, ofT_s, negD_i, isN_n, isN_i, isN_t, isN_r, isN_s, isN_b, notD_b, ooR_i, asgR_s, seqI_t, kb2_, kcm'_, kcm_, kcmN_, chE_t, chE_f, kch2_, kch_, boC_tt, boC_tf, boC_ft, boC_ff, kbo_, kie_t, kie_f, kix_, ksl2_, ksl_, kck2_, kck_, kmt_, kisi_, klc_, kA2_, kA_, kst2_, kst_t, kT_, kcmT'_, kcmT_, kcmNT_, chT_t, chT_f, kchT2_, kchT_, kTs_tt, kTs_tf, kTs_ft, kTs_ff, kntT_, kzip_, kasg_, kset2_, kset_, kaug3_, kaug2_, kaug_s, kex_, kret_, kiff_t, kiff_f, kfr_, ev_var, ev_con, ev_glo, ev_b2, ev_neg, ev_cm, ev_cmN, ev_ch, ev_bo, evB_1, evB_2, ev_nt, ev_ie, ev_tp, ev_ls, ev_ix, ev_sl, ev_cf, ev_ck, ev_cb, ev_mt, ev_isi, ev_lc, evA_n, evA_c, evA_s, evO_n, evO_s, evT_v, evT_cm, evT_cmN, evT_ch, evT_bo, evT_nt, evT_y, evTs_1, evTs_2, evI_s, evI_r, evI_e, evI_z, ex_asg, ex_setl, ex_aug, ex_ex, ex_ret, ex_retn, ex_iff, ex_wh, ex_fr, ex_br, ex_ct, ex_ps, ex_n, ex_c, asG_n, asG_t, obs_s, asGs_n, asGs_c, frB_, frR_s, lcB_, lcR_s, klB2_, klB_t, klB_f, wipeS_n, wipeS_c, add_i, sub_i, ipadd_i, ipsub_i, eq_i, eq_s, eq_b, eq_ni, eq_in, eq_nn, ne_i, ne_s, ne_ni, ne_in, ne_nn, lt_i, le_i, gt_i, ge_i, tru_b, tru_i, tru_n, tru_t, it0, it1, it2, it3, abs_i, max_i, min_i, len_t0, len_t1, len_t2, len_t3, int_i, tupR_0, tupR_1, tupR_2, tupR_3, tupR_4, tupR_8, mk_0, mk_1, mk_2, mk_3, mk_4, mk_6, int_b, list_t, List.map_cons, List.map_nil, List.replicate_succ, List.replicate_zero, Nat.reduceSub, Nat.reduceAdd, List.cons_append, List.nil_append, List.set_cons_zero, List.set_cons_succ, Ty.has, Bool.not_true, Bool.not_false, decide_true, decide_false, ne_s, Int.reduceNeg, hset, e7, satbN]
      exact ⟨_, p2, _, g2, get_of_lst gp2, x7.lst (lst_set (lst_lt e4)), (xx2.set hlc).trans x7, _, _, rfl⟩
    · obtain ⟨ss', due, y, g, e1, e2, xx, l2, l3, rfl⟩ := hI
      obtain ⟨h'', q1, q2, h6, f1, f2, f3, f4, rfl, rfl, f5, xx2, e4⟩ := tail ss' due h' g e1 e2 xx
      simp only [bind_ok, stm_ok, seq_nx, seq_rt, seq_bk, seq_ct, fin_nx, fin_rt, getS_0, getS_s, ofO_s, ofB_s, ofT_s, negD_i, isN_n, isN_i, isN_t, isN_r, isN_s, isN_b, notD_b, ooR_i, asgR_s, seqI_t, kb2_, kcm'_, kcm_, kcmN_, chE_t, chE_f, kch2_, kch_, boC_tt, boC_tf, boC_ft, boC_ff, kbo_, kie_t, kie_f, kix_, ksl2_, ksl_, kck2_, kck_, kmt_, kisi_, klc_, kA2_, kA_, kst2_, kst_t, kT_, kcmT'_, kcmT_, kcmNT_, chT_t, chT_f, kchT2_, kchT_, kTs_tt, kTs_tf, kTs_ft, kTs_ff, kntT_, kzip_, kasg_, kset2_, kset_, kaug3_, kaug2_, kaug_s, kex_, kret_, kiff_t, kiff_f, kfr_, ev_var, ev_con, ev_glo, ev_b2, ev_neg, ev_cm, ev_cmN, ev_ch, ev_bo, evB_1, evB_2, ev_nt, ev_ie, ev_tp, ev_ls, ev_ix, ev_sl, ev_cf, ev_ck, ev_cb, ev_mt, ev_isi, ev_lc, evA_n, evA_c, evA_s, evO_n, evO_s, evT_v, evT_cm, evT_cmN, evT_ch, evT_bo, evT_nt, evT_y, evTs_1, evTs_2, evI_s, evI_r, evI_e, evI_z, ex_asg, ex_setl, ex_aug, ex_ex, ex_ret, ex_retn, ex_iff, ex_wh, ex_fr, ex_br, ex_ct, ex_ps, ex_n, ex_c, asG_n, asG_t, obs_s, asGs_n, asGs_c, frB_, frR_s, lcB_, lcR_s, klB2_, klB_t, klB_f, wipeS_n, wipeS_c, add_i, sub_i, ipadd_i, ipsub_i, eq_i, eq_s, eq_b, eq_ni, eq_in, eq_nn, ne_i, ne_s, ne_ni, ne_in, ne_nn, lt_i, le_i, gt_i, ge_i, tru_b, tru_i, tru_n, tru_t, it0, it1, it2, it3, abs_i, max_i, min_i, len_t0, len_t1, len_t2, len_t3, int_i, tupR_0, tupR_1, tupR_2, tupR_3, tupR_4, tupR_8, mk_0, mk_1, mk_2, mk_3, mk_4, mk_6, int_b, list_t, List.map_cons, List.map_nil, List.replicate_succ, List.replicate_zero, Nat.reduceSub, Nat.reduceAdd, List.cons_append, List.nil_append, List.set_cons_zero, List.set_cons_succ, Ty.has, Bool.not_true, Bool.not_false, decide_true, decide_false, f1, f2, f3, f4, eq_s, Int.reduceNeg, satR]
      rw [f5]
      exact ⟨by simp, xx2⟩
end
end G4

/-! S8: the law of tones by hand. -/
namespace G4
open PySem PyProof.Rows

def lcI (I : Nat → List D → Hv → Prop) (l i : Nat) (acc : List D) (o : Option D) (h' : Hv) : Prop := h'.lst l = some acc ∧ match o with
  | none => I (i + 1) acc h'
  | some y => acc.length < lim ∧ I (i + 1) (acc ++ [y]) (h'.set l (.lst (acc ++ [y])))
theorem lcL_inv {nxt : Nat → Hv → Option (Option D)} {bod : D → Hv → R (Option D)} {l : Nat} (xs : List D) (I : Nat → List D → Hv → Prop) (hn : ∀ i acc h, I i acc h → nxt i h = some xs[i]?)
    (step : ∀ i d acc h, xs[i]? = some d → I i acc h → (bod d h).Sat (lcI I l i acc)) : ∀ n i acc h, I i acc h → i ≤ xs.length → xs.length < n + i → (lcL nxt bod l n i h).Sat fun d h' => d = .ref l ∧ ∃ acc, I xs.length acc h'
  | 0, i, acc, h, hI, h1, h2 => by omega
  | n + 1, i, acc, h, hI, h1, h2 => by
    unfold lcL
    rw [hn i acc h hI]
    cases q : xs[i]? with
    | none =>
      have : i = xs.length := Nat.le_antisymm h1 (List.getElem?_eq_none_iff.mp q)
      subst this
      exact ⟨rfl, acc, hI⟩
    | some d =>
      have hi : i < xs.length := (List.getElem?_eq_some_iff.mp q).1
      obtain ⟨o, h', e, s1, s2⟩ := (step i d acc h q hI).get
      dsimp only
      rw [e]
      dsimp only
      cases o with
      | none => exact lcL_inv xs I hn step n (i + 1) acc h' s2 (by omega) (by omega)
      | some y =>
        dsimp only
        rw [s1]
        dsimp only
        rw [if_pos s2.1]
        exact lcL_inv xs I hn step n (i + 1) _ _ s2.2 (by omega) (by omega)
theorem ne_ref {h : Hv} {a b : Nat} {p q : PyData} (e1 : dat dp h (.ref a) = some p) (e2 : dat dp h (.ref b) = some q) (s1 : SeqAt.shaped p = true) (s2 : SeqAt.shaped q = true) : Oc.ev .ne (.ref a) (.ref b) h = some (!PyData.eqv p q) := by
  simp only [Oc.ev, eqD, e1, e2]
  rw [if_pos ⟨s1, s2⟩]
  rfl
theorem eq_ref {h : Hv} {a b : Nat} {p q : PyData} (e1 : dat dp h (.ref a) = some p) (e2 : dat dp h (.ref b) = some q) (s1 : SeqAt.shaped p = true) (s2 : SeqAt.shaped q = true) : Oc.ev .eq (.ref a) (.ref b) h = some (PyData.eqv p q) := by
  simp only [Oc.ev, eqD, e1, e2]
  rw [if_pos ⟨s1, s2⟩]
def zig (w : Int) : Nat → List Stg
  | 0 => []
  | n + 1 => .mix (2 ^ n * w) :: zig w n
theorem zig_len {w : Int} : ∀ n, (zig w n).length = n
  | 0 => rfl
  | n + 1 => by rw [zig, List.length_cons, zig_len n]
def Stg.snd : Stg → Int
  | .mix m => m
  | .pass l _ => l
  | .dial m => m
section
variable {T : Tab} {k : Nat} {h : Hv}
theorem S_zigzag (t : T 34 = some f_law_zigzag) {w : Int} (w0 : 0 ≤ w) (w1 : w < 2 ^ 200) : (den T (k + 1) 34 [.int w, .int 8] h).Sat (Tells h ((zig w 8).map Stg.D)) := by
  have sm2 : sm 2 = true := by decide +kernel
  rw [den_fn t rfl]
  simp only [f_law_zigzag, bind_ok, stm_ok, seq_nx, seq_rt, seq_bk, seq_ct, fin_nx, fin_rt, getS_0, getS_s, ofO_s, ofB_s, ofT_s, negD_i, isN_n, isN_i, isN_t, isN_r, isN_s, isN_b, notD_b, ooR_i, asgR_s, seqI_t, kb2_, kcm'_, kcm_, kcmN_, chE_t, chE_f, kch2_, kch_, boC_tt, boC_tf, boC_ft, boC_ff, kbo_, kie_t, kie_f, kix_, ksl2_, ksl_, kck2_, kck_, kmt_, kisi_, klc_, kA2_, kA_, kst2_, kst_t, kT_, kcmT'_, kcmT_, kcmNT_, chT_t, chT_f, kchT2_, kchT_, kTs_tt, kTs_tf, kTs_ft, kTs_ff, kntT_, kzip_, kasg_, kset2_, kset_, kaug3_, kaug2_, kaug_s, kex_, kret_, kiff_t, kiff_f, kfr_, ev_var, ev_con, ev_glo, ev_b2, ev_neg, ev_cm, ev_cmN, ev_ch, ev_bo, evB_1, evB_2, ev_nt, ev_ie, ev_tp, ev_ls, ev_ix, ev_sl, ev_cf, ev_ck, ev_cb, ev_mt, ev_isi, ev_lc, evA_n, evA_c, evA_s, evO_n, evO_s, evT_v, evT_cm, evT_cmN, evT_ch, evT_bo, evT_nt, evT_y, evTs_1, evTs_2, evI_s, evI_r, evI_e, evI_z, ex_asg, ex_setl, ex_aug, ex_ex, ex_ret, ex_retn, ex_iff, ex_wh, ex_fr, ex_br, ex_ct, ex_ps, ex_n, ex_c, asG_n, asG_t, obs_s, asGs_n, asGs_c, frB_, frR_s, lcB_, lcR_s, klB2_, klB_t, klB_f, wipeS_n, wipeS_c, add_i, sub_i, ipadd_i, ipsub_i, eq_i, eq_s, eq_b, eq_ni, eq_in, eq_nn, ne_i, ne_s, ne_ni, ne_in, ne_nn, lt_i, le_i, gt_i, ge_i, tru_b, tru_i, tru_n, tru_t, it0, it1, it2, it3, abs_i, max_i, min_i, len_t0, len_t1, len_t2, len_t3, int_i, tupR_0, tupR_1, tupR_2, tupR_3, tupR_4, tupR_8, mk_0, mk_1, mk_2, mk_3, mk_4, mk_6, int_b, list_t, List.map_cons, List.map_nil, List.replicate_succ, List.replicate_zero, Nat.reduceSub, Nat.reduceAdd, List.cons_append, List.nil_append, List.set_cons_zero, List.set_cons_succ, Ty.has, Bool.not_true, Bool.not_false, decide_true, decide_false, rngI_1 (show -(2 ^ 62) ≤ (8 : Int) ∧ (8 : Int) < 2 ^ 62 by omega)]
  refine RS.Sat.fin (N := fun _ _ => False) (RS.Sat.seq (forL_inv (nxt := It.nxt (.rng 0 (8 : Int).toNat))
    (B := fun τ h' => ∃ r y z, τ = [some (.int w), some (.int 8), some (.ref r), y, z] ∧ h'.lst r = some ((zig w 8).map Stg.D) ∧ h.length ≤ r ∧ Hx h h')
    ((List.range (8 : Int).toNat).map fun j : Nat => D.int (0 + (j : Int)))
    (fun i τ h' => i ≤ 8 ∧ ∃ r z, τ = [some (.int w), some (.int 8), some (.ref r), some (.int (2 ^ i * w)), z] ∧ h'.lst r = some ((zig w i).map Stg.D) ∧ h.length ≤ r ∧ Hx h h')
    (fun i τ h' _ => nxt_rng i) (fun i d' τ h' hd hI => ?_) (fun τ h' hI => ?_) turns 0 _ _ ⟨by omega, h.length, none, by rw [Int.pow_zero, Int.one_mul], lst_new, Nat.le_refl _, Hx.app _ _⟩ (Nat.zero_le _) (by decide)) fun τ h' hI => ?_) (fun _ _ f => f.elim)
  · obtain ⟨h8, r, z, rfl, hl, hr, x⟩ := hI
    have hi : i < 8 := by have := (List.getElem?_eq_some_iff.mp hd).1; simpa using this
    have p2 : (2 : Int) ^ i ≤ 2 ^ 8 := by exact_mod_cast Nat.pow_le_pow_right (by omega) (show i ≤ 8 by omega)
    have p1 : (0 : Int) < 2 ^ i := Int.pow_pos (by omega)
    have m1 : 0 ≤ 2 ^ i * w := Int.mul_nonneg (by omega) w0
    have m2 : 2 ^ i * w ≤ 2 ^ 8 * w := Int.mul_le_mul_of_nonneg_right p2 w0
    have s1 : sm (2 ^ i * w) = true := sm_b (by omega) (by omega)
    have c1 : ∀ g : Hv, g = h' ++ [.lst [.tup [.str "mix", .int (2 ^ i * w)]]] → O2.ev .add (.ref h'.length) (.ref r) g = .ok (.ref g.length) (g ++ [.lst ((zig w (i + 1)).map Stg.D)]) := fun g e => by
      rw [e]
      exact cat_r lst_new ((Hx.app h' _).lst hl) (by simp [zig_len]; unfold lim; omega)
    have e2 : (2 : Int) * (2 ^ i * w) = 2 ^ (i + 1) * w := by rw [Int.pow_succ, ← Int.mul_assoc, Int.mul_comm 2]
    simp only [bind_ok, stm_ok, seq_nx, seq_rt, seq_bk, seq_ct, fin_nx, fin_rt, getS_0, getS_s, ofO_s, ofB_s, ofT_s, negD_i, isN_n, isN_i, isN_t, isN_r, isN_s, isN_b, notD_b, ooR_i, asgR_s, seqI_t, kb2_, kcm'_, kcm_, kcmN_, chE_t, chE_f, kch2_, kch_, boC_tt, boC_tf, boC_ft, boC_ff, kbo_, kie_t, kie_f, kix_, ksl2_, ksl_, kck2_, kck_, kmt_, kisi_, klc_, kA2_, kA_, kst2_, kst_t, kT_, kcmT'_, kcmT_, kcmNT_, chT_t, chT_f, kchT2_, kchT_, kTs_tt, kTs_tf, kTs_ft, kTs_ff, kntT_, kzip_, kasg_, kset2_, kset_, kaug3_, kaug2_, kaug_s, kex_, kret_, kiff_t, kiff_f, kfr_, ev_var, ev_con, ev_glo, ev_b2, ev_neg, ev_cm, ev_cmN, ev_ch, ev_bo, evB_1, evB_2, ev_nt, ev_ie, ev_tp, ev_ls, ev_ix, ev_sl, ev_cf, ev_ck, ev_cb, ev_mt, ev_isi, ev_lc, evA_n, evA_c, evA_s, evO_n, evO_s, evT_v, evT_cm, evT_cmN, evT_ch, evT_bo, evT_nt, evT_y, evTs_1, evTs_2, evI_s, evI_r, evI_e, evI_z, ex_asg, ex_setl, ex_aug, ex_ex, ex_ret, ex_retn, ex_iff, ex_wh, ex_fr, ex_br, ex_ct, ex_ps, ex_n, ex_c, asG_n, asG_t, obs_s, asGs_n, asGs_c, frB_, frR_s, lcB_, lcR_s, klB2_, klB_t, klB_f, wipeS_n, wipeS_c, add_i, sub_i, ipadd_i, ipsub_i, eq_i, eq_s, eq_b, eq_ni, eq_in, eq_nn, ne_i, ne_s, ne_ni, ne_in, ne_nn, lt_i, le_i, gt_i, ge_i, tru_b, tru_i, tru_n, tru_t, it0, it1, it2, it3, abs_i, max_i, min_i, len_t0, len_t1, len_t2, len_t3, int_i, tupR_0, tupR_1, tupR_2, tupR_3, tupR_4, tupR_8, mk_0, mk_1, mk_2, mk_3, mk_4, mk_6, int_b, list_t, List.map_cons, List.map_nil, List.replicate_succ, List.replicate_zero, Nat.reduceSub, Nat.reduceAdd, List.cons_append, List.nil_append, List.set_cons_zero, List.set_cons_succ, Ty.has, Bool.not_true, Bool.not_false, decide_true, decide_false, c1 _ rfl, mul_i sm2 s1, e2, satbN]
    exact ⟨by omega, _, _, rfl, lst_new, by have := x.le; simp; omega, (x.push _).push _⟩
  · obtain ⟨h8, r, z, q, hl, hr, x⟩ := hI
    exact ⟨r, _, z, q, hl, hr, x⟩
  · obtain ⟨r, y, z, rfl, hl, hr, x⟩ := hI
    simp only [bind_ok, stm_ok, seq_nx, seq_rt, seq_bk, seq_ct, fin_nx, fin_rt, getS_0, getS_s, ofO_s, ofB_s, ofT_s, negD_i, isN_n, isN_i, isN_t, isN_r, isN_s, isN_b, notD_b, ooR_i, asgR_s, seqI_t, kb2_, kcm'_, kcm_, kcmN_, chE_t, chE_f, kch2_, kch_, boC_tt, boC_tf, boC_ft, boC_ff, kbo_, kie_t, kie_f, kix_, ksl2_, ksl_, kck2_, kck_, kmt_, kisi_, klc_, kA2_, kA_, kst2_, kst_t, kT_, kcmT'_, kcmT_, kcmNT_, chT_t, chT_f, kchT2_, kchT_, kTs_tt, kTs_tf, kTs_ft, kTs_ff, kntT_, kzip_, kasg_, kset2_, kset_, kaug3_, kaug2_, kaug_s, kex_, kret_, kiff_t, kiff_f, kfr_, ev_var, ev_con, ev_glo, ev_b2, ev_neg, ev_cm, ev_cmN, ev_ch, ev_bo, evB_1, evB_2, ev_nt, ev_ie, ev_tp, ev_ls, ev_ix, ev_sl, ev_cf, ev_ck, ev_cb, ev_mt, ev_isi, ev_lc, evA_n, evA_c, evA_s, evO_n, evO_s, evT_v, evT_cm, evT_cmN, evT_ch, evT_bo, evT_nt, evT_y, evTs_1, evTs_2, evI_s, evI_r, evI_e, evI_z, ex_asg, ex_setl, ex_aug, ex_ex, ex_ret, ex_retn, ex_iff, ex_wh, ex_fr, ex_br, ex_ct, ex_ps, ex_n, ex_c, asG_n, asG_t, obs_s, asGs_n, asGs_c, frB_, frR_s, lcB_, lcR_s, klB2_, klB_t, klB_f, wipeS_n, wipeS_c, add_i, sub_i, ipadd_i, ipsub_i, eq_i, eq_s, eq_b, eq_ni, eq_in, eq_nn, ne_i, ne_s, ne_ni, ne_in, ne_nn, lt_i, le_i, gt_i, ge_i, tru_b, tru_i, tru_n, tru_t, it0, it1, it2, it3, abs_i, max_i, min_i, len_t0, len_t1, len_t2, len_t3, int_i, tupR_0, tupR_1, tupR_2, tupR_3, tupR_4, tupR_8, mk_0, mk_1, mk_2, mk_3, mk_4, mk_6, int_b, list_t, List.map_cons, List.map_nil, List.replicate_succ, List.replicate_zero, Nat.reduceSub, Nat.reduceAdd, List.cons_append, List.nil_append, List.set_cons_zero, List.set_cons_succ, Ty.has, Bool.not_true, Bool.not_false, decide_true, decide_false, satR]
    exact ⟨r, rfl, hr, hl, x⟩
/-- the list of near numbers -/
theorem S_near {b : Nat} {ss : List Stg} {Φ : Den} {τ : Sl} (hs : h.get b = some (ss.map Stg.D)) (hl : ss.length ≤ 8) (f8 : D → Sl) (e8 : ∀ x : D, asG (.nm 8) x (wipeS τ [8]) = some (f8 x) ∧ getS (f8 x) 8 = some x) :
    (lcL (It.nxt (.lst b)) (lcB Φ [("stage", 8)] (.nm 8) .yes (.cb .abs (.cons (.ix (.var 8) (.con (.int 1))) .nil)) τ) h.length turns 0 (h ++ [Ob.lst []])).Sat fun d h' => d = .ref h.length ∧ h' = h ++ [.lst ((ss.map fun s => absI s.snd).map D.int)] := by
  have hs1 : ∀ g : Hv, Hv.get (h ++ g) b = some (ss.map Stg.D) := fun g => (Hx.app h g).get hs
  refine (lcL_inv (ss.map Stg.D) (fun i acc h' => h' = h ++ [.lst acc] ∧ acc = ((ss.take i).map fun s => absI s.snd).map D.int) (fun i acc h' hI => by rw [hI.1]; exact nxt_lst (hs1 _) i) (fun i d acc h' hd hI => ?_) turns 0 [] _ ⟨rfl, rfl⟩ (Nat.zero_le _) (by simp; unfold turns; omega)).imp fun d h' hq => ?_
  · obtain ⟨rfl, rfl⟩ := hI
    rw [List.getElem?_map] at hd
    cases q : ss[i]? with
    | none => rw [q] at hd; cases hd
    | some x =>
      rw [q] at hd
      cases hd
      obtain ⟨e1, e2⟩ := e8 x.D
      have hi : i < ss.length := (List.getElem?_eq_some_iff.mp q).1
      have it : ∀ g : Hv, itemD x.D (.int 1) g = .ok (.int x.snd) g := fun g => by cases x <;> simp only [Stg.D, it1, Stg.snd]
      simp only [lcB_, List.map_cons, List.map_nil, e1]
      simp only [bind_ok, stm_ok, seq_nx, seq_rt, seq_bk, seq_ct, fin_nx, fin_rt, getS_0, getS_s, ofO_s, ofB_s, ofT_s, negD_i, isN_n, isN_i, isN_t, isN_r, isN_s, isN_b, notD_b, ooR_i, asgR_s, seqI_t, kb2_, kcm'_, kcm_, kcmN_, chE_t, chE_f, kch2_, kch_, boC_tt, boC_tf, boC_ft, boC_ff, kbo_, kie_t, kie_f, kix_, ksl2_, ksl_, kck2_, kck_, kmt_, kisi_, klc_, kA2_, kA_, kst2_, kst_t, kT_, kcmT'_, kcmT_, kcmNT_, chT_t, chT_f, kchT2_, kchT_, kTs_tt, kTs_tf, kTs_ft, kTs_ff, kntT_, kzip_, kasg_, kset2_, kset_, kaug3_, kaug2_, kaug_s, kex_, kret_, kiff_t, kiff_f, kfr_, ev_var, ev_con, ev_glo, ev_b2, ev_neg, ev_cm, ev_cmN, ev_ch, ev_bo, evB_1, evB_2, ev_nt, ev_ie, ev_tp, ev_ls, ev_ix, ev_sl, ev_cf, ev_ck, ev_cb, ev_mt, ev_isi, ev_lc, evA_n, evA_c, evA_s, evO_n, evO_s, evT_v, evT_cm, evT_cmN, evT_ch, evT_bo, evT_nt, evT_y, evTs_1, evTs_2, evI_s, evI_r, evI_e, evI_z, ex_asg, ex_setl, ex_aug, ex_ex, ex_ret, ex_retn, ex_iff, ex_wh, ex_fr, ex_br, ex_ct, ex_ps, ex_n, ex_c, asG_n, asG_t, obs_s, asGs_n, asGs_c, frB_, frR_s, lcB_, lcR_s, klB2_, klB_t, klB_f, wipeS_n, wipeS_c, add_i, sub_i, ipadd_i, ipsub_i, eq_i, eq_s, eq_b, eq_ni, eq_in, eq_nn, ne_i, ne_s, ne_ni, ne_in, ne_nn, lt_i, le_i, gt_i, ge_i, tru_b, tru_i, tru_n, tru_t, it0, it1, it2, it3, abs_i, max_i, min_i, len_t0, len_t1, len_t2, len_t3, int_i, tupR_0, tupR_1, tupR_2, tupR_3, tupR_4, tupR_8, mk_0, mk_1, mk_2, mk_3, mk_4, mk_6, int_b, list_t, List.map_cons, List.map_nil, List.replicate_succ, List.replicate_zero, Nat.reduceSub, Nat.reduceAdd, List.cons_append, List.nil_append, List.set_cons_zero, List.set_cons_succ, Ty.has, Bool.not_true, Bool.not_false, decide_true, decide_false, e2, it, sat_ok, lcI]
      refine ⟨lst_new, by simp; unfold lim; omega, ?_, ?_⟩
      · rw [set_new]
      · rw [List.take_add_one, q]
        simp [absI]
  · obtain ⟨rfl, acc, rfl, rfl⟩ := hq
    rw [List.length_map, List.take_length]
    exact ⟨rfl, rfl⟩
end
end G4

/-! S9: the law of tones by hand, whole. -/
namespace G4
open PySem PyProof.Rows

theorem eqv_oP (x : Option Int) : PyData.eqv (oP x) (oP x) = true := by
  cases x with
  | none => rfl
  | some i => exact beq_self_eq_true i
theorem eqvAll_oP : ∀ xs : List (Option Int), PyData.eqvAll (xs.map oP) (xs.map oP) = true
  | [] => rfl
  | x :: xs => by
    show (PyData.eqv (oP x) (oP x) && PyData.eqvAll (xs.map oP) (xs.map oP)) = true
    rw [eqv_oP, eqvAll_oP xs]; rfl
theorem shaped_os (xs : List (Option Int)) : SeqAt.shaped (.list (xs.map oP)) = true := by
  unfold SeqAt.shaped
  rw [Bool.and_eq_true]
  refine ⟨canAll fun p hp => ?_, decide_eq_true (Nat.le_trans (Nat.succ_le_succ (depAll (n := 0) fun p hp => ?_)) (by omega))⟩
  · obtain ⟨x, _, rfl⟩ := List.mem_map.mp hp
    cases x <;> rfl
  · obtain ⟨x, _, rfl⟩ := List.mem_map.mp hp
    cases x <;> exact Nat.le_of_eq rfl
theorem ne_os {h : Hv} {a b : Nat} {xs : List (Option Int)} (e1 : h.get a = some (xs.map oD)) (e2 : h.get b = some (xs.map oD)) : Oc.ev .ne (.ref a) (.ref b) h = some false := by
  rw [ne_ref (dat_os (n := 10) e1) (dat_os (n := 10) e2) (shaped_os xs) (shaped_os xs)]
  show some (!PyData.eqvAll (xs.map oP) (xs.map oP)) = _
  rw [eqvAll_oP]; rfl
theorem eq_os {h : Hv} {a b : Nat} {xs : List (Option Int)} (e1 : h.get a = some (xs.map oD)) (e2 : h.get b = some (xs.map oD)) : Oc.ev .eq (.ref a) (.ref b) h = some true := by
  rw [eq_ref (dat_os (n := 10) e1) (dat_os (n := 10) e2) (shaped_os xs) (shaped_os xs)]
  show some (PyData.eqvAll (xs.map oP) (xs.map oP)) = _
  rw [eqvAll_oP]
/-- two lists in a list -/
theorem ne_oss {h : Hv} {a b a1 a2 b1 b2 : Nat} {xs ys : List (Option Int)} (e1 : h.get a = some [.ref a1, .ref a2]) (e2 : h.get b = some [.ref b1, .ref b2]) (f1 : h.get a1 = some (xs.map oD)) (f2 : h.get a2 = some (ys.map oD)) (f3 : h.get b1 = some (xs.map oD)) (f4 : h.get b2 = some (ys.map oD)) : Oc.ev .ne (.ref a) (.ref b) h = some false := by
  have d1 : dat dp h (.ref a) = some (.list [.list (xs.map oP), .list (ys.map oP)]) := dat_list (n := 11) e1 (by simp only [optAll, dat_os (n := 9) f1, dat_os (n := 9) f2])
  have d2 : dat dp h (.ref b) = some (.list [.list (xs.map oP), .list (ys.map oP)]) := dat_list (n := 11) e2 (by simp only [optAll, dat_os (n := 9) f3, dat_os (n := 9) f4])
  have sh : SeqAt.shaped (.list [.list (xs.map oP), .list (ys.map oP)]) = true := by
    have h1 := shaped_os xs
    have h2 := shaped_os ys
    unfold SeqAt.shaped at h1 h2 ⊢
    rw [Bool.and_eq_true] at h1 h2 ⊢
    have h3 : (PyData.list (xs.map oP)).depth ≤ 1 := Nat.succ_le_succ (depAll (n := 0) fun p hp => by
      obtain ⟨x, _, rfl⟩ := List.mem_map.mp hp
      cases x <;> exact Nat.le_of_eq rfl)
    have h4 : (PyData.list (ys.map oP)).depth ≤ 1 := Nat.succ_le_succ (depAll (n := 0) fun p hp => by
      obtain ⟨x, _, rfl⟩ := List.mem_map.mp hp
      cases x <;> exact Nat.le_of_eq rfl)
    refine ⟨canAll fun p hp => ?_, decide_eq_true (Nat.le_trans (Nat.succ_le_succ (depAll (n := 1) fun p hp => ?_)) (by omega))⟩
    · simp only [List.mem_cons, List.not_mem_nil, or_false] at hp
      rcases hp with rfl | rfl
      · exact h1.1
      · exact h2.1
    · simp only [List.mem_cons, List.not_mem_nil, or_false] at hp
      rcases hp with rfl | rfl
      · exact h3
      · exact h4
  rw [ne_ref d1 d2 sh sh]
  show some (!(PyData.eqvAll (xs.map oP) (xs.map oP) && (PyData.eqvAll (ys.map oP) (ys.map oP) && true))) = _
  rw [eqvAll_oP, eqvAll_oP]; rfl
structure LibK (T : Tab) : Prop where
  L : LibA T
  t12 : T 12 = some f_law_jar
  t13 : T 13 = some f_law_pick
  t14 : T 14 = some f_law_radio
  t30 : T 30 = some f_stage_tones
  t31 : T 31 = some f_law_parts
  t33 : T 33 = some f_law_right
  t34 : T 34 = some f_law_zigzag
def Tau (τ : Sl) : Prop := ∃ x1 x2 x3 x4 x5 x6 x7 x8 x9 x10 x11 x12 x13 x14 x15, τ = [some (.ref 0), x1, x2, x3, x4, x5, x6, x7, x8, x9, x10, x11, x12, x13, x14, x15]
def TauJ (a : Nat) (τ : Sl) : Prop := ∃ x1 x3 x4 x5 x6 x7 x8 x9 x10 x11 x12 x13 x14 x15, τ = [some (.ref 0), x1, some (.ref a), x3, x4, x5, x6, x7, x8, x9, x10, x11, x12, x13, x14, x15]
theorem TauJ.t {a : Nat} {τ : Sl} (h : TauJ a τ) : Tau τ := by
  obtain ⟨x1, x3, x4, x5, x6, x7, x8, x9, x10, x11, x12, x13, x14, x15, e⟩ := h
  exact ⟨x1, _, x3, x4, x5, x6, x7, x8, x9, x10, x11, x12, x13, x14, x15, e⟩
def lapB : ISs := (.cons (.asg (.nm 4) (.ix (.ls (.cons (.con (.int 9)) (.cons (.con (.int 60)) (.cons (.b2 .pow (.con (.int 10)) (.con (.int 38))) .nil)))) (.cf 13 (.cons (.var 2) (.cons (.con (.int 3)) .nil))))) 
      (.cons (.asg (.tp [.nm 5, .nm 6]) (.tp (.cons (.cf 14 (.cons (.var 2) (.cons (.con (.int 8)) (.cons (.var 4) .nil)))) (.cons (.b2 .sub (.cf 13 (.cons (.var 2) (.cons (.b2 .add (.b2 .mul (.con (.int 2)) (.var 4)) (.con (.int 1))) .nil))) (.var 4)) .nil)))) 
      (.cons (.asg (.nm 7) (.b2 .add (.lc [("stage", 8)] (.nm 8) (.seq (.ix (.var 5) (.con (.int 0)))) .no .yes (.cb .abs (.cons (.ix (.var 8) (.con (.int 1))) .nil))) (.ls (.cons (.con (.int 0)) (.cons (.ie (.cmN true (.ix (.var 5) (.con (.int 1)))) (.ix (.var 5) (.con (.int 1))) (.var 4)) .nil))))) 
      (.cons (.asg (.nm 9) (.ls (.cons (.cf 13 (.cons (.var 2) (.cons (.b2 .mul (.con (.int 4)) (.var 4)) .nil))) (.cons (.cf 13 (.cons (.var 2) (.cons (.con (.int 9)) .nil))) (.cons (.b2 .pow (.con (.int 10)) (.con (.int 39))) .nil))))) 
      (.cons (.ex (.mt .append (.var 9) (.cons (.b2 .add (.ix (.var 7) (.cf 13 (.cons (.var 2) (.cons (.cb .len (.cons (.var 7) .nil)) .nil)))) (.cf 13 (.cons (.var 2) (.cons (.con (.int 3)) .nil)))) .nil))) 
      (.cons (.fr (.nm 10) (.seq (.b2 .add (.var 9) (.ls (.cons (.cb .max (.cons (.con (.int 0)) (.cons (.b2 .sub (.b2 .add (.var 6) (.cf 13 (.cons (.var 2) (.cons (.con (.int 9)) .nil)))) (.con (.int 4))) .nil))) .nil)))) ((.cons (.iff (.nt (.v (.cf 33 (.cons (.var 5) (.cons (.var 6) (.cons (.var 10) .nil)))))) ((.cons (.ret (.con (.bl false))) 
          .nil)) .nil) 
        .nil))) 
      .nil))))))
section
variable {T : Tab} {k : Nat} {h : Hv}
theorem S_wave (L : LibK T) {b r : Nat} {ss : List Stg} {rate : Option Int} {d : Int} {ws : List Int} {a n : Nat} {x1 x3 x4 x7 x8 x9 x10 x11 x12 x13 x14 x15 : Option D} {Q : D → Hv → Prop} (hs : h.get b = some (ss.map Stg.D)) (hw : h.get r = some (ws.map D.int)) (J : Jar h a n) (hl : ws.length ≤ 10) (G : ∀ w ∈ ws, Good ss rate d w) :
    (forL (It.nxt (.lst r)) (frB (den T (k + 9)) (.nm 10) (.cons (.iff (.nt (.v (.cf 33 (.cons (.var 5) (.cons (.var 6) (.cons (.var 10) .nil)))))) ((.cons (.ret (.con (.bl false))) .nil)) .nil) .nil)) turns 0
      [some (.ref 0), x1, some (.ref a), x3, x4, some (.tup [.ref b, oD rate]), some (.int d), x7, x8, x9, x10, x11, x12, x13, x14, x15] h).Sat (fun τ h' => TauJ a τ ∧ Hx h h' ∧ Jar h' a n) Q := by
  refine forL_inv (ws.map D.int) (fun i τ h' => Hx h h' ∧ ∃ y, τ = [some (.ref 0), x1, some (.ref a), x3, x4, some (.tup [.ref b, oD rate]), some (.int d), x7, x8, x9, y, x11, x12, x13, x14, x15]) (fun i τ h' hI => nxt_lst (hI.1.get hw) i) (fun i d' τ h' hd hI => ?_) (fun τ h' hI => ?_) turns 0 _ _ ⟨Hx.refl _, _, rfl⟩ (Nat.zero_le _) (by simp; unfold turns; omega)
  · obtain ⟨x, y, rfl⟩ := hI
    rw [List.getElem?_map] at hd
    cases q : ws[i]? with
    | none => rw [q] at hd; cases hd
    | some w =>
      rw [q] at hd
      cases hd
      obtain ⟨_, h2, e, rfl, x2⟩ := (S_right (k := k) L.L L.t30 L.t31 L.t33 (h := h') (x.get hs) (G w (List.mem_of_getElem? q))).get
      simp only [bind_ok, stm_ok, seq_nx, seq_rt, seq_bk, seq_ct, fin_nx, fin_rt, getS_0, getS_s, ofO_s, ofB_s, ofT_s, negD_i, isN_n, isN_i, isN_t, isN_r, isN_s, isN_b, notD_b, ooR_i, asgR_s, seqI_t, kb2_, kcm'_, kcm_, kcmN_, chE_t, chE_f, kch2_, kch_, boC_tt, boC_tf, boC_ft, boC_ff, kbo_, kie_t, kie_f, kix_, ksl2_, ksl_, kck2_, kck_, kmt_, kisi_, klc_, kA2_, kA_, kst2_, kst_t, kT_, kcmT'_, kcmT_, kcmNT_, chT_t, chT_f, kchT2_, kchT_, kTs_tt, kTs_tf, kTs_ft, kTs_ff, kntT_, kzip_, kasg_, kset2_, kset_, kaug3_, kaug2_, kaug_s, kex_, kret_, kiff_t, kiff_f, kfr_, ev_var, ev_con, ev_glo, ev_b2, ev_neg, ev_cm, ev_cmN, ev_ch, ev_bo, evB_1, evB_2, ev_nt, ev_ie, ev_tp, ev_ls, ev_ix, ev_sl, ev_cf, ev_ck, ev_cb, ev_mt, ev_isi, ev_lc, evA_n, evA_c, evA_s, evO_n, evO_s, evT_v, evT_cm, evT_cmN, evT_ch, evT_bo, evT_nt, evT_y, evTs_1, evTs_2, evI_s, evI_r, evI_e, evI_z, ex_asg, ex_setl, ex_aug, ex_ex, ex_ret, ex_retn, ex_iff, ex_wh, ex_fr, ex_br, ex_ct, ex_ps, ex_n, ex_c, asG_n, asG_t, obs_s, asGs_n, asGs_c, frB_, frR_s, lcB_, lcR_s, klB2_, klB_t, klB_f, wipeS_n, wipeS_c, add_i, sub_i, ipadd_i, ipsub_i, eq_i, eq_s, eq_b, eq_ni, eq_in, eq_nn, ne_i, ne_s, ne_ni, ne_in, ne_nn, lt_i, le_i, gt_i, ge_i, tru_b, tru_i, tru_n, tru_t, it0, it1, it2, it3, abs_i, max_i, min_i, len_t0, len_t1, len_t2, len_t3, int_i, tupR_0, tupR_1, tupR_2, tupR_3, tupR_4, tupR_8, mk_0, mk_1, mk_2, mk_3, mk_4, mk_6, int_b, list_t, List.map_cons, List.map_nil, List.replicate_succ, List.replicate_zero, Nat.reduceSub, Nat.reduceAdd, List.cons_append, List.nil_append, List.set_cons_zero, List.set_cons_succ, Ty.has, Bool.not_true, Bool.not_false, decide_true, decide_false, e, satbN]
      exact ⟨x.trans x2, _, rfl⟩
  · obtain ⟨x, y, rfl⟩ := hI
    exact ⟨⟨_, _, _, _, _, _, _, _, _, _, _, _, _, _, rfl⟩, x, J.ext x⟩
theorem S_lap (L : LibK T) {a n : Nat} {Q : D → Hv → Prop} {x1 x3 x4 x5 x6 x7 x8 x9 x10 x11 x12 x13 x14 x15 : Option D} (h0 : 0 < a) (J : Jar h a n) (hn : n < 2 ^ 40) :
    (exSs (den T (k + 9)) lapB [some (.ref 0), x1, some (.ref a), x3, x4, x5, x6, x7, x8, x9, x10, x11, x12, x13, x14, x15] h).Sat (fun τ h' => TauJ a τ ∧ ExtX a h h' ∧ Jar h' a (n + 110)) Q := by
  have sm2 : sm 2 = true := by decide +kernel
  have sm4 : sm 4 = true := by decide +kernel
  obtain ⟨v, g1, f1, c1, c2, m1, y1, J1⟩ := S_pick' (k := k + 8) L.t13 (b := 3) (J.ext (Hx.app h [.lst [.int 9, .int 60, .int 100000000000000000000000000000000000000]])) (by omega) (by omega) (by omega)
  obtain ⟨far, hfar, f2⟩ := it_ints (h := g1) (r := h.length) (v := v) (xs := [9, 60, 100000000000000000000000000000000000000]) (y1.get (by have := J.lt; omega) get_new) c1 (by simpa using c2)
  have far0 : 9 ≤ far ∧ far < 2 ^ 130 := by
    simp only [List.mem_cons, List.not_mem_nil, or_false] at hfar
    omega
  clear hfar
  have sf : sm far = true := sm_b (by omega) (by omega)
  obtain ⟨_, g2, f3, ss, rate, b, rfl, hb, dr, hbl, y2, J2⟩ := (S_radio (k := k + 7) L.t13 L.t14 (h := g1) J1 (by omega) (by omega) far0.2).get
  obtain ⟨v2, g3, f4, c3, c4, m3, y3, J3⟩ := S_pick' (k := k + 8) L.t13 (b := 2 * far + 1) J2 (by omega) (by omega) (by omega)
  have hba : b ≠ a := by have := J1.lt; omega
  have hb3 : g3.get b = some (ss.map Stg.D) := y3.get hba (get_of_lst hb)
  unfold lapB
  simp only [bind_ok, stm_ok, seq_nx, seq_rt, seq_bk, seq_ct, fin_nx, fin_rt, getS_0, getS_s, ofO_s, ofB_s, ofT_s, negD_i, isN_n, isN_i, isN_t, isN_r, isN_s, isN_b, notD_b, ooR_i, asgR_s, seqI_t, kb2_, kcm'_, kcm_, kcmN_, chE_t, chE_f, kch2_, kch_, boC_tt, boC_tf, boC_ft, boC_ff, kbo_, kie_t, kie_f, kix_, ksl2_, ksl_, kck2_, kck_, kmt_, kisi_, klc_, kA2_, kA_, kst2_, kst_t, kT_, kcmT'_, kcmT_, kcmNT_, chT_t, chT_f, kchT2_, kchT_, kTs_tt, kTs_tf, kTs_ft, kTs_ff, kntT_, kzip_, kasg_, kset2_, kset_, kaug3_, kaug2_, kaug_s, kex_, kret_, kiff_t, kiff_f, kfr_, ev_var, ev_con, ev_glo, ev_b2, ev_neg, ev_cm, ev_cmN, ev_ch, ev_bo, evB_1, evB_2, ev_nt, ev_ie, ev_tp, ev_ls, ev_ix, ev_sl, ev_cf, ev_ck, ev_cb, ev_mt, ev_isi, ev_lc, evA_n, evA_c, evA_s, evO_n, evO_s, evT_v, evT_cm, evT_cmN, evT_ch, evT_bo, evT_nt, evT_y, evTs_1, evTs_2, evI_s, evI_r, evI_e, evI_z, ex_asg, ex_setl, ex_aug, ex_ex, ex_ret, ex_retn, ex_iff, ex_wh, ex_fr, ex_br, ex_ct, ex_ps, ex_n, ex_c, asG_n, asG_t, obs_s, asGs_n, asGs_c, frB_, frR_s, lcB_, lcR_s, klB2_, klB_t, klB_f, wipeS_n, wipeS_c, add_i, sub_i, ipadd_i, ipsub_i, eq_i, eq_s, eq_b, eq_ni, eq_in, eq_nn, ne_i, ne_s, ne_ni, ne_in, ne_nn, lt_i, le_i, gt_i, ge_i, tru_b, tru_i, tru_n, tru_t, it0, it1, it2, it3, abs_i, max_i, min_i, len_t0, len_t1, len_t2, len_t3, int_i, tupR_0, tupR_1, tupR_2, tupR_3, tupR_4, tupR_8, mk_0, mk_1, mk_2, mk_3, mk_4, mk_6, int_b, list_t, List.map_cons, List.map_nil, List.replicate_succ, List.replicate_zero, Nat.reduceSub, Nat.reduceAdd, List.cons_append, List.nil_append, List.set_cons_zero, List.set_cons_succ, Ty.has, Bool.not_true, Bool.not_false, decide_true, decide_false, p10_38, f1, f2, f3, f4, mul_i sm2 sf, seqI_r hb3]
  obtain ⟨_, _, f5, rfl, rfl⟩ := (S_near (Φ := den T (k + 9)) (τ := [some (.ref 0), x1, some (.ref a), x3, some (.int far), some (.tup [.ref b, oD rate]), some (.int (v2 - far)), x7, x8, x9, x10, x11, x12, x13, x14, x15]) hb3 dr.ok.most (fun x => [some (.ref 0), x1, some (.ref a), x3, some (.int far), some (.tup [.ref b, oD rate]), some (.int (v2 - far)), x7, some x, x9, x10, x11, x12, x13, x14, x15]) (fun x => ⟨by simp only [bind_ok, stm_ok, seq_nx, seq_rt, seq_bk, seq_ct, fin_nx, fin_rt, getS_0, getS_s, ofO_s, ofB_s, ofT_s, negD_i, isN_n, isN_i, isN_t, isN_r, isN_s, isN_b, notD_b, ooR_i, asgR_s, seqI_t, kb2_, kcm'_, kcm_, kcmN_, chE_t, chE_f, kch2_, kch_, boC_tt, boC_tf, boC_ft, boC_ff, kbo_, kie_t, kie_f, kix_, ksl2_, ksl_, kck2_, kck_, kmt_, kisi_, klc_, kA2_, kA_, kst2_, kst_t, kT_, kcmT'_, kcmT_, kcmNT_, chT_t, chT_f, kchT2_, kchT_, kTs_tt, kTs_tf, kTs_ft, kTs_ff, kntT_, kzip_, kasg_, kset2_, kset_, kaug3_, kaug2_, kaug_s, kex_, kret_, kiff_t, kiff_f, kfr_, ev_var, ev_con, ev_glo, ev_b2, ev_neg, ev_cm, ev_cmN, ev_ch, ev_bo, evB_1, evB_2, ev_nt, ev_ie, ev_tp, ev_ls, ev_ix, ev_sl, ev_cf, ev_ck, ev_cb, ev_mt, ev_isi, ev_lc, evA_n, evA_c, evA_s, evO_n, evO_s, evT_v, evT_cm, evT_cmN, evT_ch, evT_bo, evT_nt, evT_y, evTs_1, evTs_2, evI_s, evI_r, evI_e, evI_z, ex_asg, ex_setl, ex_aug, ex_ex, ex_ret, ex_retn, ex_iff, ex_wh, ex_fr, ex_br, ex_ct, ex_ps, ex_n, ex_c, asG_n, asG_t, obs_s, asGs_n, asGs_c, frB_, frR_s, lcB_, lcR_s, klB2_, klB_t, klB_f, wipeS_n, wipeS_c, add_i, sub_i, ipadd_i, ipsub_i, eq_i, eq_s, eq_b, eq_ni, eq_in, eq_nn, ne_i, ne_s, ne_ni, ne_in, ne_nn, lt_i, le_i, gt_i, ge_i, tru_b, tru_i, tru_n, tru_t, it0, it1, it2, it3, abs_i, max_i, min_i, len_t0, len_t1, len_t2, len_t3, int_i, tupR_0, tupR_1, tupR_2, tupR_3, tupR_4, tupR_8, mk_0, mk_1, mk_2, mk_3, mk_4, mk_6, int_b, list_t, List.map_cons, List.map_nil, List.replicate_succ, List.replicate_zero, Nat.reduceSub, Nat.reduceAdd, List.cons_append, List.nil_append, List.set_cons_zero, List.set_cons_succ, Ty.has, Bool.not_true, Bool.not_false, decide_true, decide_false], by simp only [bind_ok, stm_ok, seq_nx, seq_rt, seq_bk, seq_ct, fin_nx, fin_rt, getS_0, getS_s, ofO_s, ofB_s, ofT_s, negD_i, isN_n, isN_i, isN_t, isN_r, isN_s, isN_b, notD_b, ooR_i, asgR_s, seqI_t, kb2_, kcm'_, kcm_, kcmN_, chE_t, chE_f, kch2_, kch_, boC_tt, boC_tf, boC_ft, boC_ff, kbo_, kie_t, kie_f, kix_, ksl2_, ksl_, kck2_, kck_, kmt_, kisi_, klc_, kA2_, kA_, kst2_, kst_t, kT_, kcmT'_, kcmT_, kcmNT_, chT_t, chT_f, kchT2_, kchT_, kTs_tt, kTs_tf, kTs_ft, kTs_ff, kntT_, kzip_, kasg_, kset2_, kset_, kaug3_, kaug2_, kaug_s, kex_, kret_, kiff_t, kiff_f, kfr_, ev_var, ev_con, ev_glo, ev_b2, ev_neg, ev_cm, ev_cmN, ev_ch, ev_bo, evB_1, evB_2, ev_nt, ev_ie, ev_tp, ev_ls, ev_ix, ev_sl, ev_cf, ev_ck, ev_cb, ev_mt, ev_isi, ev_lc, evA_n, evA_c, evA_s, evO_n, evO_s, evT_v, evT_cm, evT_cmN, evT_ch, evT_bo, evT_nt, evT_y, evTs_1, evTs_2, evI_s, evI_r, evI_e, evI_z, ex_asg, ex_setl, ex_aug, ex_ex, ex_ret, ex_retn, ex_iff, ex_wh, ex_fr, ex_br, ex_ct, ex_ps, ex_n, ex_c, asG_n, asG_t, obs_s, asGs_n, asGs_c, frB_, frR_s, lcB_, lcR_s, klB2_, klB_t, klB_f, wipeS_n, wipeS_c, add_i, sub_i, ipadd_i, ipsub_i, eq_i, eq_s, eq_b, eq_ni, eq_in, eq_nn, ne_i, ne_s, ne_ni, ne_in, ne_nn, lt_i, le_i, gt_i, ge_i, tru_b, tru_i, tru_n, tru_t, it0, it1, it2, it3, abs_i, max_i, min_i, len_t0, len_t1, len_t2, len_t3, int_i, tupR_0, tupR_1, tupR_2, tupR_3, tupR_4, tupR_8, mk_0, mk_1, mk_2, mk_3, mk_4, mk_6, int_b, list_t, List.map_cons, List.map_nil, List.replicate_succ, List.replicate_zero, Nat.reduceSub, Nat.reduceAdd, List.cons_append, List.nil_append, List.set_cons_zero, List.set_cons_succ, Ty.has, Bool.not_true, Bool.not_false, decide_true, decide_false]⟩)).get
  have f6 : ∀ g : Hv, kie (den T (k + 9)) (.ix (.var 5) (.con (.int 1))) (.var 4) [some (.ref 0), x1, some (.ref a), x3, some (.int far), some (.tup [.ref b, oD rate]), some (.int (v2 - far)), x7, x8, x9, x10, x11, x12, x13, x14, x15] (isN true (oD rate)) g = .ok (.int (rate.getD far)) g := fun g => by
    cases rate <;> simp only [bind_ok, stm_ok, seq_nx, seq_rt, seq_bk, seq_ct, fin_nx, fin_rt, getS_0, getS_s, ofO_s, ofB_s, ofT_s, negD_i, isN_n, isN_i, isN_t, isN_r, isN_s, isN_b, notD_b, ooR_i, asgR_s, seqI_t, kb2_, kcm'_, kcm_, kcmN_, chE_t, chE_f, kch2_, kch_, boC_tt, boC_tf, boC_ft, boC_ff, kbo_, kie_t, kie_f, kix_, ksl2_, ksl_, kck2_, kck_, kmt_, kisi_, klc_, kA2_, kA_, kst2_, kst_t, kT_, kcmT'_, kcmT_, kcmNT_, chT_t, chT_f, kchT2_, kchT_, kTs_tt, kTs_tf, kTs_ft, kTs_ff, kntT_, kzip_, kasg_, kset2_, kset_, kaug3_, kaug2_, kaug_s, kex_, kret_, kiff_t, kiff_f, kfr_, ev_var, ev_con, ev_glo, ev_b2, ev_neg, ev_cm, ev_cmN, ev_ch, ev_bo, evB_1, evB_2, ev_nt, ev_ie, ev_tp, ev_ls, ev_ix, ev_sl, ev_cf, ev_ck, ev_cb, ev_mt, ev_isi, ev_lc, evA_n, evA_c, evA_s, evO_n, evO_s, evT_v, evT_cm, evT_cmN, evT_ch, evT_bo, evT_nt, evT_y, evTs_1, evTs_2, evI_s, evI_r, evI_e, evI_z, ex_asg, ex_setl, ex_aug, ex_ex, ex_ret, ex_retn, ex_iff, ex_wh, ex_fr, ex_br, ex_ct, ex_ps, ex_n, ex_c, asG_n, asG_t, obs_s, asGs_n, asGs_c, frB_, frR_s, lcB_, lcR_s, klB2_, klB_t, klB_f, wipeS_n, wipeS_c, add_i, sub_i, ipadd_i, ipsub_i, eq_i, eq_s, eq_b, eq_ni, eq_in, eq_nn, ne_i, ne_s, ne_ni, ne_in, ne_nn, lt_i, le_i, gt_i, ge_i, tru_b, tru_i, tru_n, tru_t, it0, it1, it2, it3, abs_i, max_i, min_i, len_t0, len_t1, len_t2, len_t3, int_i, tupR_0, tupR_1, tupR_2, tupR_3, tupR_4, tupR_8, mk_0, mk_1, mk_2, mk_3, mk_4, mk_6, int_b, list_t, List.map_cons, List.map_nil, List.replicate_succ, List.replicate_zero, Nat.reduceSub, Nat.reduceAdd, List.cons_append, List.nil_append, List.set_cons_zero, List.set_cons_succ, Ty.has, Bool.not_true, Bool.not_false, decide_true, decide_false, oD_n, oD_s, Option.getD]
  -- the list of near numbers
  have nb : ∀ y ∈ (ss.map fun s => absI s.snd) ++ [0, rate.getD far], 0 ≤ y ∧ y < 2 ^ 160 := fun y hy => by
    rcases List.mem_append.mp hy with q | q
    · obtain ⟨s, hs, rfl⟩ := List.mem_map.mp q
      have h1 := dr.ok.ok s hs
      have h2 := dr.bd s hs
      unfold absI
      cases s with
      | mix m =>
        have : 0 ≤ m := h1
        have : m < 2 ^ 150 := h2
        show 0 ≤ (if m < 0 then -m else m) ∧ (if m < 0 then -m else m) < 2 ^ 160
        split <;> omega
      | pass l u =>
        have : 0 ≤ l ∧ l ≤ u := h1
        have : l < 2 ^ 150 ∧ u < 2 ^ 150 := h2
        show 0 ≤ (if l < 0 then -l else l) ∧ (if l < 0 then -l else l) < 2 ^ 160
        split <;> omega
      | dial m =>
        have : -(2 ^ 150) < m ∧ m < 2 ^ 150 := h2
        show 0 ≤ (if m < 0 then -m else m) ∧ (if m < 0 then -m else m) < 2 ^ 160
        split <;> omega
    · simp only [List.mem_cons, List.not_mem_nil, or_false] at q
      rcases q with rfl | rfl
      · omega
      · cases hr : rate with
        | none => simp only [Option.getD]; omega
        | some r =>
          have := dr.ok.rt r hr
          have := dr.rb r hr
          simp only [Option.getD]; omega
  have nl : ((ss.map fun s => absI s.snd) ++ [0, rate.getD far]).length = ss.length + 2 := by simp
  generalize hys : (ss.map fun s => absI s.snd) ++ [0, rate.getD far] = ys at nb nl
  have hm8 := dr.ok.most
  have h1m := dr.ok.one
  -- the heap behind near
  have c5 : ∀ g : Hv, g = (g3 ++ [Ob.lst ((ss.map fun s => absI s.snd).map D.int)]) ++ [Ob.lst [.int 0, .int (rate.getD far)]] → O2.ev .add (.ref g3.length) (.ref (g3 ++ [Ob.lst ((ss.map fun s => absI s.snd).map D.int)]).length) g = .ok (.ref g.length) (g ++ [Ob.lst (ys.map D.int)]) := fun g e => by
    rw [e, cat_r ((Hx.app _ _).lst lst_new) lst_new (by simp; unfold lim; omega), ← hys, List.map_append]
    rfl
  simp only [bind_ok, stm_ok, seq_nx, seq_rt, seq_bk, seq_ct, fin_nx, fin_rt, getS_0, getS_s, ofO_s, ofB_s, ofT_s, negD_i, isN_n, isN_i, isN_t, isN_r, isN_s, isN_b, notD_b, ooR_i, asgR_s, seqI_t, kb2_, kcm'_, kcm_, kcmN_, chE_t, chE_f, kch2_, kch_, boC_tt, boC_tf, boC_ft, boC_ff, kbo_, kie_t, kie_f, kix_, ksl2_, ksl_, kck2_, kck_, kmt_, kisi_, klc_, kA2_, kA_, kst2_, kst_t, kT_, kcmT'_, kcmT_, kcmNT_, chT_t, chT_f, kchT2_, kchT_, kTs_tt, kTs_tf, kTs_ft, kTs_ff, kntT_, kzip_, kasg_, kset2_, kset_, kaug3_, kaug2_, kaug_s, kex_, kret_, kiff_t, kiff_f, kfr_, ev_var, ev_con, ev_glo, ev_b2, ev_neg, ev_cm, ev_cmN, ev_ch, ev_bo, evB_1, evB_2, ev_nt, ev_ie, ev_tp, ev_ls, ev_ix, ev_sl, ev_cf, ev_ck, ev_cb, ev_mt, ev_isi, ev_lc, evA_n, evA_c, evA_s, evO_n, evO_s, evT_v, evT_cm, evT_cmN, evT_ch, evT_bo, evT_nt, evT_y, evTs_1, evTs_2, evI_s, evI_r, evI_e, evI_z, ex_asg, ex_setl, ex_aug, ex_ex, ex_ret, ex_retn, ex_iff, ex_wh, ex_fr, ex_br, ex_ct, ex_ps, ex_n, ex_c, asG_n, asG_t, obs_s, asGs_n, asGs_c, frB_, frR_s, lcB_, lcR_s, klB2_, klB_t, klB_f, wipeS_n, wipeS_c, add_i, sub_i, ipadd_i, ipsub_i, eq_i, eq_s, eq_b, eq_ni, eq_in, eq_nn, ne_i, ne_s, ne_ni, ne_in, ne_nn, lt_i, le_i, gt_i, ge_i, tru_b, tru_i, tru_n, tru_t, it0, it1, it2, it3, abs_i, max_i, min_i, len_t0, len_t1, len_t2, len_t3, int_i, tupR_0, tupR_1, tupR_2, tupR_3, tupR_4, tupR_8, mk_0, mk_1, mk_2, mk_3, mk_4, mk_6, int_b, list_t, List.map_cons, List.map_nil, List.replicate_succ, List.replicate_zero, Nat.reduceSub, Nat.reduceAdd, List.cons_append, List.nil_append, List.set_cons_zero, List.set_cons_succ, Ty.has, Bool.not_true, Bool.not_false, decide_true, decide_false, f5, f6, c5 _ rfl]
  have x4 : Hx g3 (g3 ++ [Ob.lst ((ss.map fun s => absI s.snd).map D.int)] ++ [Ob.lst [.int 0, .int (rate.getD far)]] ++ [Ob.lst (ys.map D.int)]) := ((Hx.app g3 _).push _).push _
  have gn : Hv.lst (g3 ++ [Ob.lst ((ss.map fun s => absI s.snd).map D.int)] ++ [Ob.lst [.int 0, .int (rate.getD far)]] ++ [Ob.lst (ys.map D.int)]) (g3 ++ [Ob.lst ((ss.map fun s => absI s.snd).map D.int)] ++ [Ob.lst [.int 0, .int (rate.getD far)]]).length = some (ys.map D.int) := lst_new
  have nr : g3.length ≤ (g3 ++ [Ob.lst ((ss.map fun s => absI s.snd).map D.int)] ++ [Ob.lst [.int 0, .int (rate.getD far)]]).length := by simp
  generalize (g3 ++ [Ob.lst ((ss.map fun s => absI s.snd).map D.int)] ++ [Ob.lst [.int 0, .int (rate.getD far)]]).length = nr0 at *
  generalize (g3 ++ [Ob.lst ((ss.map fun s => absI s.snd).map D.int)] ++ [Ob.lst [.int 0, .int (rate.getD far)]] ++ [Ob.lst (ys.map D.int)] : Hv) = g4 at *
  have J4 := J3.ext x4
  have hal := J3.lt
  obtain ⟨w1, g5, f7, c6, c7, m5, y5, J5⟩ := S_pick' (k := k + 8) L.t13 (b := 4 * far) J4 (by omega) (by omega) (by omega)
  obtain ⟨w2, g6, f8, c8, c9, m6, y6, J6⟩ := S_pick' (k := k + 8) L.t13 (b := 9) J5 (by omega) (by omega) (by omega)
  have gn6 : g6.get nr0 = some (ys.map D.int) := y6.get (by omega) (y5.get (by omega) (get_of_lst gn))
  have gn7 := (Hx.app g6 [Ob.lst [.int w1, .int w2, .int 1000000000000000000000000000000000000000]]).get gn6
  have ll : Bu.ev .len [.ref nr0] (g6 ++ [Ob.lst [.int w1, .int w2, .int 1000000000000000000000000000000000000000]]) = .ok (.int ((ss.length : Int) + 2)) (g6 ++ [Ob.lst [.int w1, .int w2, .int 1000000000000000000000000000000000000000]]) := by
    rw [len_r gn7, List.length_map, nl]; rfl
  obtain ⟨w3, g7, f9, c10, c11, m7, y7, J7⟩ := S_pick' (k := k + 8) L.t13 (b := (ss.length : Int) + 2) (J6.ext (Hx.app g6 [Ob.lst [.int w1, .int w2, .int 1000000000000000000000000000000000000000]])) (by omega) (by omega) (by omega)
  obtain ⟨w4, hw4, f10⟩ := it_ints (h := g7) (r := nr0) (v := w3) (xs := ys) (y7.get (by omega) gn7) c10 (by omega)
  obtain ⟨w5, g8, f11, c12, c13, m8, y8, J8⟩ := S_pick' (k := k + 8) L.t13 (b := 3) J7 (by omega) (by omega) (by omega)
  have hl6 : g6.length ≠ a := by have := J6.lt; omega
  have gw : g8.lst g6.length = some ([w1, w2, 1000000000000000000000000000000000000000].map D.int) := y8.lst hl6 (y7.lst hl6 lst_new)
  obtain ⟨g9, hg9⟩ : ∃ g9 : Hv, g9 = g8.set g6.length (.lst ([w1, w2, 1000000000000000000000000000000000000000].map D.int ++ [.int (w4 + w5)])) := ⟨_, rfl⟩
  have gw2 : Me.ev .append (.ref g6.length) [.int (w4 + w5)] g8 = .ok .non g9 := by
    rw [hg9]; exact append_r gw (by simp; unfold lim; omega)
  simp only [bind_ok, stm_ok, seq_nx, seq_rt, seq_bk, seq_ct, fin_nx, fin_rt, getS_0, getS_s, ofO_s, ofB_s, ofT_s, negD_i, isN_n, isN_i, isN_t, isN_r, isN_s, isN_b, notD_b, ooR_i, asgR_s, seqI_t, kb2_, kcm'_, kcm_, kcmN_, chE_t, chE_f, kch2_, kch_, boC_tt, boC_tf, boC_ft, boC_ff, kbo_, kie_t, kie_f, kix_, ksl2_, ksl_, kck2_, kck_, kmt_, kisi_, klc_, kA2_, kA_, kst2_, kst_t, kT_, kcmT'_, kcmT_, kcmNT_, chT_t, chT_f, kchT2_, kchT_, kTs_tt, kTs_tf, kTs_ft, kTs_ff, kntT_, kzip_, kasg_, kset2_, kset_, kaug3_, kaug2_, kaug_s, kex_, kret_, kiff_t, kiff_f, kfr_, ev_var, ev_con, ev_glo, ev_b2, ev_neg, ev_cm, ev_cmN, ev_ch, ev_bo, evB_1, evB_2, ev_nt, ev_ie, ev_tp, ev_ls, ev_ix, ev_sl, ev_cf, ev_ck, ev_cb, ev_mt, ev_isi, ev_lc, evA_n, evA_c, evA_s, evO_n, evO_s, evT_v, evT_cm, evT_cmN, evT_ch, evT_bo, evT_nt, evT_y, evTs_1, evTs_2, evI_s, evI_r, evI_e, evI_z, ex_asg, ex_setl, ex_aug, ex_ex, ex_ret, ex_retn, ex_iff, ex_wh, ex_fr, ex_br, ex_ct, ex_ps, ex_n, ex_c, asG_n, asG_t, obs_s, asGs_n, asGs_c, frB_, frR_s, lcB_, lcR_s, klB2_, klB_t, klB_f, wipeS_n, wipeS_c, add_i, sub_i, ipadd_i, ipsub_i, eq_i, eq_s, eq_b, eq_ni, eq_in, eq_nn, ne_i, ne_s, ne_ni, ne_in, ne_nn, lt_i, le_i, gt_i, ge_i, tru_b, tru_i, tru_n, tru_t, it0, it1, it2, it3, abs_i, max_i, min_i, len_t0, len_t1, len_t2, len_t3, int_i, tupR_0, tupR_1, tupR_2, tupR_3, tupR_4, tupR_8, mk_0, mk_1, mk_2, mk_3, mk_4, mk_6, int_b, list_t, List.map_cons, List.map_nil, List.replicate_succ, List.replicate_zero, Nat.reduceSub, Nat.reduceAdd, List.cons_append, List.nil_append, List.set_cons_zero, List.set_cons_succ, Ty.has, Bool.not_true, Bool.not_false, decide_true, decide_false, mul_i sm4 sf, f7, f8, p10_39, ll, f9, f10, f11, gw2]
  have J9 : Jar g9 a (n + 107) := by rw [hg9]; exact (J8.mono (by omega)).keep hl6
  have gw9 : Hv.lst g9 g6.length = some ([w1, w2, 1000000000000000000000000000000000000000, w4 + w5].map D.int) := by rw [hg9]; exact lst_set (lst_lt gw)
  have hb8 : Hv.get g9 b = some (ss.map Stg.D) := by
    rw [hg9, get_set_ne (by have := get_lt hb3; have := y5.le; have := y6.le; have := x4.le; omega)]
    exact y8.get hba (y7.get hba ((Hx.app g6 _).get (y6.get hba (y5.get hba (x4.get hb3)))))
  have xx : ExtX a h g9 := by
    rw [hg9]
    have e1 : ExtX a h g8 := (Hx.app h _).x.trans (y1.trans (y2.trans (y3.trans (x4.x.trans (y5.trans (y6.trans ((Hx.app g6 _).x.trans (y7.trans y8))))))))
    refine ⟨by simpa using e1.le, fun i hi hn => ?_⟩
    have : h.length ≤ g6.length := by
      have := y1.le; have := y2.le; have := x4.le; have := y3.le; have := y5.le; have := y6.le
      have : h.length ≤ (h ++ [Ob.lst [.int 9, .int 60, .int 100000000000000000000000000000000000000]]).length := by simp
      omega
    rw [List.getElem?_set_ne (by omega)]
    exact e1.at_ i hi hn
  clear hg9
  obtain ⟨w6, g10, f12, c14, c15, m10, y10, J10⟩ := S_pick' (k := k + 8) L.t13 (b := 9) J9 (by omega) (by omega) (by omega)
  have hw4' := nb w4 hw4
  have gw10 := y10.lst hl6 gw9
  generalize hmx : (if v2 - far + w6 - 4 > 0 then v2 - far + w6 - 4 else 0) = mx
  have mx0 : 0 ≤ mx ∧ mx < 2 ^ 160 := by
    rw [← hmx]
    split <;> omega
  have c16 := cat_r (a := g6.length) (b := g10.length) (h := g10 ++ [Ob.lst [.int mx]]) ((Hx.app g10 _).lst gw10) lst_new (by simp; unfold lim; omega)
  simp only [bind_ok, stm_ok, seq_nx, seq_rt, seq_bk, seq_ct, fin_nx, fin_rt, getS_0, getS_s, ofO_s, ofB_s, ofT_s, negD_i, isN_n, isN_i, isN_t, isN_r, isN_s, isN_b, notD_b, ooR_i, asgR_s, seqI_t, kb2_, kcm'_, kcm_, kcmN_, chE_t, chE_f, kch2_, kch_, boC_tt, boC_tf, boC_ft, boC_ff, kbo_, kie_t, kie_f, kix_, ksl2_, ksl_, kck2_, kck_, kmt_, kisi_, klc_, kA2_, kA_, kst2_, kst_t, kT_, kcmT'_, kcmT_, kcmNT_, chT_t, chT_f, kchT2_, kchT_, kTs_tt, kTs_tf, kTs_ft, kTs_ff, kntT_, kzip_, kasg_, kset2_, kset_, kaug3_, kaug2_, kaug_s, kex_, kret_, kiff_t, kiff_f, kfr_, ev_var, ev_con, ev_glo, ev_b2, ev_neg, ev_cm, ev_cmN, ev_ch, ev_bo, evB_1, evB_2, ev_nt, ev_ie, ev_tp, ev_ls, ev_ix, ev_sl, ev_cf, ev_ck, ev_cb, ev_mt, ev_isi, ev_lc, evA_n, evA_c, evA_s, evO_n, evO_s, evT_v, evT_cm, evT_cmN, evT_ch, evT_bo, evT_nt, evT_y, evTs_1, evTs_2, evI_s, evI_r, evI_e, evI_z, ex_asg, ex_setl, ex_aug, ex_ex, ex_ret, ex_retn, ex_iff, ex_wh, ex_fr, ex_br, ex_ct, ex_ps, ex_n, ex_c, asG_n, asG_t, obs_s, asGs_n, asGs_c, frB_, frR_s, lcB_, lcR_s, klB2_, klB_t, klB_f, wipeS_n, wipeS_c, add_i, sub_i, ipadd_i, ipsub_i, eq_i, eq_s, eq_b, eq_ni, eq_in, eq_nn, ne_i, ne_s, ne_ni, ne_in, ne_nn, lt_i, le_i, gt_i, ge_i, tru_b, tru_i, tru_n, tru_t, it0, it1, it2, it3, abs_i, max_i, min_i, len_t0, len_t1, len_t2, len_t3, int_i, tupR_0, tupR_1, tupR_2, tupR_3, tupR_4, tupR_8, mk_0, mk_1, mk_2, mk_3, mk_4, mk_6, int_b, list_t, List.map_cons, List.map_nil, List.replicate_succ, List.replicate_zero, Nat.reduceSub, Nat.reduceAdd, List.cons_append, List.nil_append, List.set_cons_zero, List.set_cons_succ, Ty.has, Bool.not_true, Bool.not_false, decide_true, decide_false, f12, hmx, c16, seqI_r get_new]
  have W := S_wave (Q := Q) (k := k) L (h := (g10 ++ [Ob.lst [.int mx]]) ++ [Ob.lst ([w1, w2, 1000000000000000000000000000000000000000, w4 + w5].map D.int ++ [.int mx])]) (b := b) (r := (g10 ++ [Ob.lst [.int mx]]).length) (ss := ss) (rate := rate) (d := v2 - far) (ws := [w1, w2, 1000000000000000000000000000000000000000, w4 + w5, mx]) (a := a) (x1 := x1) (x3 := x3) (x4 := some (.int far)) (x7 := some (.ref nr0)) (x8 := x8) (x9 := some (.ref g6.length)) (x10 := x10) (x11 := x11) (x12 := x12) (x13 := x13) (x14 := x14) (x15 := x15)
    (((Hx.app g10 _).push _).get (y10.get hba hb8)) get_new (J10.ext ((Hx.app g10 _).push _)) (by simp) (fun w hw => by
      simp only [List.mem_cons, List.not_mem_nil, or_false] at hw
      exact ⟨dr.up, by omega, by omega, by omega, by omega⟩)
  exact RS.Sat.seq W fun τ h' hq => by
    simp only [ex_n, satN]
    exact ⟨hq.1, xx.trans (y10.trans ((((Hx.app g10 _).push _).x).trans hq.2.1.x)), hq.2.2.mono (by omega)⟩
end
end G4

/-! S10: the law of tones by hand, its end. -/
namespace G4
open PySem PyProof.Rows
def wW : Int := 1000000000000000000000000000000
theorem wW0 : 0 ≤ wW := by decide +kernel
theorem wW1 : wW < 2 ^ 200 := by decide +kernel
theorem p10_w {h : Hv} : O2.ev .pow (.int 10) (.int 30) h = .ok (.int wW) h := p10_30
section
variable {T : Tab} {k : Nat} {h : Hv}
theorem S_due {Φ : Den} {τ : Sl} (f8 : D → Sl) (h11 : ∀ x, getS (f8 x) 11 = some (.int wW)) (e8 : ∀ x : D, asG (.nm 13) x (wipeS τ [13]) = some (f8 x) ∧ getS (f8 x) 13 = some x) :
    (lcL (It.nxt (.fix [.int 128, .int 64, .int 32, .int 16, .int 8, .int 4, .int 2, .int 1])) (lcB Φ [("size", 13)] (.nm 13) .yes (.b2 .mul (.var 13) (.var 11)) τ) h.length turns 0 (h ++ [Ob.lst []])).Sat fun d h' => d = .ref h.length ∧ h' = h ++ [.lst (([128, 64, 32, 16, 8, 4, 2, 1] : List Int).map fun n => D.int (n * wW))] := by
  have s2 : sm wW = true := sm_b (by have := wW0; omega) (by have := wW1; omega)
  refine (lcL_inv (([128, 64, 32, 16, 8, 4, 2, 1] : List Int).map D.int) (fun i acc h' => i ≤ 8 ∧ h' = h ++ [.lst acc] ∧ acc = (([128, 64, 32, 16, 8, 4, 2, 1] : List Int).take i).map fun n => D.int (n * wW)) (fun i acc h' hI => rfl) (fun i d acc h' hd hI => ?_) turns 0 [] _ ⟨by omega, rfl, rfl⟩ (Nat.zero_le _) (by decide)).imp fun d h' hq => ?_
  · obtain ⟨h8, rfl, rfl⟩ := hI
    rw [List.getElem?_map] at hd
    cases q : ([128, 64, 32, 16, 8, 4, 2, 1] : List Int)[i]? with
    | none => rw [q] at hd; cases hd
    | some x =>
      rw [q] at hd
      cases hd
      obtain ⟨e1, e2⟩ := e8 (.int x)
      have hi : i < 8 := (List.getElem?_eq_some_iff.mp q).1
      have hx : x ∈ ([128, 64, 32, 16, 8, 4, 2, 1] : List Int) := List.mem_of_getElem? q
      have s1 : sm x = true := by
        simp only [List.mem_cons, List.not_mem_nil, or_false] at hx
        exact sm_b (by omega) (by omega)
      simp only [lcB_, List.map_cons, List.map_nil, e1]
      simp only [bind_ok, stm_ok, seq_nx, seq_rt, seq_bk, seq_ct, fin_nx, fin_rt, getS_0, getS_s, ofO_s, ofB_s, ofT_s, negD_i, isN_n, isN_i, isN_t, isN_r, isN_s, isN_b, notD_b, ooR_i, asgR_s, seqI_t, kb2_, kcm'_, kcm_, kcmN_, chE_t, chE_f, kch2_, kch_, boC_tt, boC_tf, boC_ft, boC_ff, kbo_, kie_t, kie_f, kix_, ksl2_, ksl_, kck2_, kck_, kmt_, kisi_, klc_, kA2_, kA_, kst2_, kst_t, kT_, kcmT'_, kcmT_, kcmNT_, chT_t, chT_f, kchT2_, kchT_, kTs_tt, kTs_tf, kTs_ft, kTs_ff, kntT_, kzip_, kasg_, kset2_, kset_, kaug3_, kaug2_, kaug_s, kex_, kret_, kiff_t, kiff_f, kfr_, ev_var, ev_con, ev_glo, ev_b2, ev_neg, ev_cm, ev_cmN, ev_ch, ev_bo, evB_1, evB_2, ev_nt, ev_ie, ev_tp, ev_ls, ev_ix, ev_sl, ev_cf, ev_ck, ev_cb, ev_mt, ev_isi, ev_lc, evA_n, evA_c, evA_s, evO_n, evO_s, evT_v, evT_cm, evT_cmN, evT_ch, evT_bo, evT_nt, evT_y, evTs_1, evTs_2, evI_s, evI_r, evI_e, evI_z, ex_asg, ex_setl, ex_aug, ex_ex, ex_ret, ex_retn, ex_iff, ex_wh, ex_fr, ex_br, ex_ct, ex_ps, ex_n, ex_c, asG_n, asG_t, obs_s, asGs_n, asGs_c, frB_, frR_s, lcB_, lcR_s, klB2_, klB_t, klB_f, wipeS_n, wipeS_c, add_i, sub_i, ipadd_i, ipsub_i, eq_i, eq_s, eq_b, eq_ni, eq_in, eq_nn, ne_i, ne_s, ne_ni, ne_in, ne_nn, lt_i, le_i, gt_i, ge_i, tru_b, tru_i, tru_n, tru_t, it0, it1, it2, it3, abs_i, max_i, min_i, len_t0, len_t1, len_t2, len_t3, int_i, tupR_0, tupR_1, tupR_2, tupR_3, tupR_4, tupR_8, mk_0, mk_1, mk_2, mk_3, mk_4, mk_6, int_b, list_t, List.map_cons, List.map_nil, List.replicate_succ, List.replicate_zero, Nat.reduceSub, Nat.reduceAdd, List.cons_append, List.nil_append, List.set_cons_zero, List.set_cons_succ, Ty.has, Bool.not_true, Bool.not_false, decide_true, decide_false, e2, h11, mul_i s1 s2, sat_ok, lcI]
      refine ⟨lst_new, by rw [List.length_map, List.length_take]; unfold lim; omega, by omega, ?_, ?_⟩
      · rw [set_new]
      · rw [List.take_add_one, q]
        simp
  · obtain ⟨rfl, acc, _, rfl, rfl⟩ := hq
    exact ⟨rfl, rfl⟩
/-- closed receivers -/
theorem ok_zig (rate : Option Int) (hr : ∀ r, rate = some r → 2 ≤ r) : RcvOk (zig wW 8) rate := by
  have h0 := wW0
  refine ⟨fun s hs => ?_, by rw [zig_len]; omega, by rw [zig_len]; omega, by decide, hr⟩
  simp only [zig, List.mem_cons, List.not_mem_nil, or_false] at hs
  rcases hs with rfl | rfl | rfl | rfl | rfl | rfl | rfl | rfl <;> exact Int.mul_nonneg (by decide) h0
theorem parts_zig : (parts (zig wW 8) none 0 0) = [some (128 * wW), some (64 * wW), some (32 * wW), some (16 * wW), some (8 * wW), some (4 * wW), some (2 * wW), some (1 * wW)] := by decide +kernel
theorem tone_zig : toneAt (zig wW 8) (some (2 * wW)) 0 (257 * wW + 1) = some 1 := by decide +kernel
def r1 : List Stg := [.mix 5, .mix 2]
def r2 : List Stg := [.dial 0, .pass 3 6]
def r3 : List Stg := [.mix 0]
theorem ok_r1 : RcvOk r1 (some 4) := ⟨fun s hs => by
  simp only [r1, List.mem_cons, List.not_mem_nil, or_false] at hs
  rcases hs with rfl | rfl
  · exact (show (0 : Int) ≤ 5 by omega)
  · exact (show (0 : Int) ≤ 2 by omega), by decide, by decide, by decide, fun r e => by cases e; omega⟩
theorem ok_r2 : RcvOk r2 (some 7) := ⟨fun s hs => by
  simp only [r2, List.mem_cons, List.not_mem_nil, or_false] at hs
  rcases hs with rfl | rfl
  · trivial
  · exact (show (0 : Int) ≤ 3 ∧ (3 : Int) ≤ 6 by omega), by decide, by decide, by decide, fun r e => by cases e; omega⟩
theorem ok_r3 (rate : Option Int) (h : ∀ r, rate = some r → 2 ≤ r) : RcvOk r3 rate := ⟨fun s hs => by
  simp only [r3, List.mem_cons, List.not_mem_nil, or_false] at hs
  rcases hs with rfl
  exact (show (0 : Int) ≤ 0 by omega), by decide, by decide, by decide, h⟩
theorem parts_r1 : parts r1 (some 4) 0 11 = [some 6, some 4, some 0] := by decide +kernel
theorem parts_r2 : parts r2 (some 7) 10 8 = [some 2, none, none] := by decide +kernel
def rts : List (Option Int) := [some 7, some 2, none]
theorem tones_r3 : (rts.map fun r => toneAt r3 r 0 (wW - 1)) = [some 0, some 1, some (wW - 1)] := by decide +kernel
theorem S_rates (L : LibA T) {τ : Sl} (f8 : D → Sl) (e8 : ∀ x : D, asG (.nm 15) x (wipeS τ [15]) = some (f8 x) ∧ getS (f8 x) 15 = some x) :
    (lcL (It.nxt (.fix [.int 7, .int 2, .non])) (lcB (den T (k + 9)) [("rate_here", 15)] (.nm 15) .yes (.cf 29 (.cons (.tp (.cons (.ls (.cons (.tp (.cons (.con (.str "mix")) (.cons (.con (.int 0)) .nil))) .nil)) (.cons (.var 15) .nil))) (.cons (.con (.int 0)) (.cons (.b2 .sub (.b2 .pow (.con (.int 10)) (.con (.int 30))) (.con (.int 1))) .nil)))) τ) h.length turns 0 (h ++ [Ob.lst []])).Sat fun d h' => d = .ref h.length ∧ h'.lst h.length = some ((rts.map fun r => toneAt r3 r 0 (wW - 1)).map oD) ∧ Hx h h' := by
  refine (lcL_inv (rts.map oD) (fun i acc h' => h'.lst h.length = some acc ∧ acc = ((rts.take i).map fun r => toneAt r3 r 0 (wW - 1)).map oD ∧ Hx h h') (fun i acc h' hI => rfl) (fun i d acc h' hd hI => ?_) turns 0 [] _ ⟨lst_new, rfl, Hx.app _ _⟩ (Nat.zero_le _) (by decide)).imp fun d h' hq => ?_
  · obtain ⟨hl, rfl, x⟩ := hI
    rw [List.getElem?_map] at hd
    cases q : rts[i]? with
    | none => rw [q] at hd; cases hd
    | some r =>
      rw [q] at hd
      cases hd
      obtain ⟨e1, e2⟩ := e8 (oD r)
      have hr : r ∈ rts := List.mem_of_getElem? q
      have hi : i < 3 := (List.getElem?_eq_some_iff.mp q).1
      have hr2 : ∀ z, r = some z → 2 ≤ z := fun z e => by
        subst e
        simp only [rts, List.mem_cons, List.not_mem_nil, or_false, Option.some.injEq, reduceCtorEq] at hr
        omega
      have c := S_tone_at (k := k + 1) L (a := h'.length) (ss := r3) (rate := r) 0 (wW - 1) (h := h' ++ [.lst [.tup [.str "mix", .int 0]]]) get_new (ok_r3 r hr2) (by decide +kernel)
      simp only [lcB_, List.map_cons, List.map_nil, e1]
      simp only [bind_ok, stm_ok, seq_nx, seq_rt, seq_bk, seq_ct, fin_nx, fin_rt, getS_0, getS_s, ofO_s, ofB_s, ofT_s, negD_i, isN_n, isN_i, isN_t, isN_r, isN_s, isN_b, notD_b, ooR_i, asgR_s, seqI_t, kb2_, kcm'_, kcm_, kcmN_, chE_t, chE_f, kch2_, kch_, boC_tt, boC_tf, boC_ft, boC_ff, kbo_, kie_t, kie_f, kix_, ksl2_, ksl_, kck2_, kck_, kmt_, kisi_, klc_, kA2_, kA_, kst2_, kst_t, kT_, kcmT'_, kcmT_, kcmNT_, chT_t, chT_f, kchT2_, kchT_, kTs_tt, kTs_tf, kTs_ft, kTs_ff, kntT_, kzip_, kasg_, kset2_, kset_, kaug3_, kaug2_, kaug_s, kex_, kret_, kiff_t, kiff_f, kfr_, ev_var, ev_con, ev_glo, ev_b2, ev_neg, ev_cm, ev_cmN, ev_ch, ev_bo, evB_1, evB_2, ev_nt, ev_ie, ev_tp, ev_ls, ev_ix, ev_sl, ev_cf, ev_ck, ev_cb, ev_mt, ev_isi, ev_lc, evA_n, evA_c, evA_s, evO_n, evO_s, evT_v, evT_cm, evT_cmN, evT_ch, evT_bo, evT_nt, evT_y, evTs_1, evTs_2, evI_s, evI_r, evI_e, evI_z, ex_asg, ex_setl, ex_aug, ex_ex, ex_ret, ex_retn, ex_iff, ex_wh, ex_fr, ex_br, ex_ct, ex_ps, ex_n, ex_c, asG_n, asG_t, obs_s, asGs_n, asGs_c, frB_, frR_s, lcB_, lcR_s, klB2_, klB_t, klB_f, wipeS_n, wipeS_c, add_i, sub_i, ipadd_i, ipsub_i, eq_i, eq_s, eq_b, eq_ni, eq_in, eq_nn, ne_i, ne_s, ne_ni, ne_in, ne_nn, lt_i, le_i, gt_i, ge_i, tru_b, tru_i, tru_n, tru_t, it0, it1, it2, it3, abs_i, max_i, min_i, len_t0, len_t1, len_t2, len_t3, int_i, tupR_0, tupR_1, tupR_2, tupR_3, tupR_4, tupR_8, mk_0, mk_1, mk_2, mk_3, mk_4, mk_6, int_b, list_t, List.map_cons, List.map_nil, List.replicate_succ, List.replicate_zero, Nat.reduceSub, Nat.reduceAdd, List.cons_append, List.nil_append, List.set_cons_zero, List.set_cons_succ, Ty.has, Bool.not_true, Bool.not_false, decide_true, decide_false, e2, p10_w, c, sat_ok, lcI]
      have hl2 := (Hx.app h' [Ob.lst [.tup [.str "mix", .int 0]]]).lst hl
      refine ⟨hl2, by rw [List.length_map, List.length_map, List.length_take]; unfold lim; omega, lst_set (lst_lt hl2), ?_, (x.push _).set (Nat.le_refl _)⟩
      rw [List.take_add_one, q]
      simp
  · obtain ⟨rfl, acc, hl, rfl, x⟩ := hq
    exact ⟨rfl, hl, x⟩
end
end G4

/-! S11: the law of tones by hand answers true. -/
namespace G4
open PySem PyProof.Rows
theorem RS.Sat.toB {r : RS} {N B : Sl → Hv → Prop} {Q : D → Hv → Prop} (s : r.Sat N Q) : r.SatB N B Q := by
  cases r <;> first | exact s | exact False.elim s
section
variable {T : Tab} {k : Nat}
theorem S_law (L : LibK T) (t : T 35 = some f_law_3) {ns : List Int} (hn : ns.length ≤ 63) : (den T (k + 10) 35 [.ref 0] [.scr (ns.map D.int)]).Sat fun d _ => d = .bl true := by
  have hs : Hv.get [.scr (ns.map D.int)] 0 = some (ns.map D.int) := rfl
  have sm2 : sm 2 = true := by decide +kernel
  have sm257 : sm 257 = true := by decide +kernel
  have sW : sm wW = true := sm_b (by have := wW0; omega) (by have := wW1; omega)
  rw [den_fn t rfl]
  generalize hm : (if (if ((ns.map D.int).length : Int) < 8 then ((ns.map D.int).length : Int) else 8) > 1 then (if ((ns.map D.int).length : Int) < 8 then ((ns.map D.int).length : Int) else 8) else 1) = m
  have m8 : 1 ≤ m ∧ m ≤ 8 := by rw [← hm]; split <;> split at * <;> omega
  simp only [f_law_3, bind_ok, stm_ok, seq_nx, seq_rt, seq_bk, seq_ct, fin_nx, fin_rt, getS_0, getS_s, ofO_s, ofB_s, ofT_s, negD_i, isN_n, isN_i, isN_t, isN_r, isN_s, isN_b, notD_b, ooR_i, asgR_s, seqI_t, kb2_, kcm'_, kcm_, kcmN_, chE_t, chE_f, kch2_, kch_, boC_tt, boC_tf, boC_ft, boC_ff, kbo_, kie_t, kie_f, kix_, ksl2_, ksl_, kck2_, kck_, kmt_, kisi_, klc_, kA2_, kA_, kst2_, kst_t, kT_, kcmT'_, kcmT_, kcmNT_, chT_t, chT_f, kchT2_, kchT_, kTs_tt, kTs_tf, kTs_ft, kTs_ff, kntT_, kzip_, kasg_, kset2_, kset_, kaug3_, kaug2_, kaug_s, kex_, kret_, kiff_t, kiff_f, kfr_, ev_var, ev_con, ev_glo, ev_b2, ev_neg, ev_cm, ev_cmN, ev_ch, ev_bo, evB_1, evB_2, ev_nt, ev_ie, ev_tp, ev_ls, ev_ix, ev_sl, ev_cf, ev_ck, ev_cb, ev_mt, ev_isi, ev_lc, evA_n, evA_c, evA_s, evO_n, evO_s, evT_v, evT_cm, evT_cmN, evT_ch, evT_bo, evT_nt, evT_y, evTs_1, evTs_2, evI_s, evI_r, evI_e, evI_z, ex_asg, ex_setl, ex_aug, ex_ex, ex_ret, ex_retn, ex_iff, ex_wh, ex_fr, ex_br, ex_ct, ex_ps, ex_n, ex_c, asG_n, asG_t, obs_s, asGs_n, asGs_c, frB_, frR_s, lcB_, lcR_s, klB2_, klB_t, klB_f, wipeS_n, wipeS_c, add_i, sub_i, ipadd_i, ipsub_i, eq_i, eq_s, eq_b, eq_ni, eq_in, eq_nn, ne_i, ne_s, ne_ni, ne_in, ne_nn, lt_i, le_i, gt_i, ge_i, tru_b, tru_i, tru_n, tru_t, it0, it1, it2, it3, abs_i, max_i, min_i, len_t0, len_t1, len_t2, len_t3, int_i, tupR_0, tupR_1, tupR_2, tupR_3, tupR_4, tupR_8, mk_0, mk_1, mk_2, mk_3, mk_4, mk_6, int_b, list_t, List.map_cons, List.map_nil, List.replicate_succ, List.replicate_zero, Nat.reduceSub, Nat.reduceAdd, List.cons_append, List.nil_append, List.set_cons_zero, List.set_cons_succ, Ty.has, Bool.not_true, Bool.not_false, decide_true, decide_false, len_r hs, hm, rngI_1 (show -(2 ^ 62) ≤ m ∧ m < 2 ^ 62 by omega)]
  generalize [Ob.scr (ns.map D.int)] = h0 at hs ⊢
  refine RS.Sat.fin (N := fun _ _ => False) (RS.Sat.seq (forL_inv (nxt := It.nxt (.rng 0 m.toNat)) (B := fun τ h' => Tau τ ∧ Hx h0 h') ((List.range m.toNat).map fun j : Nat => D.int (0 + (j : Int)))
    (fun i τ h' => Tau τ ∧ Hx h0 h') (fun i τ h' _ => nxt_rng i) (fun i d τ h' hd hI => ?_) (fun τ h' hI => hI) turns 0 _ _ ⟨⟨_, _, _, _, _, _, _, _, _, _, _, _, _, _, _, rfl⟩, Hx.refl _⟩ (Nat.zero_le _) (by rw [List.length_map, List.length_range]; unfold turns; omega)) fun τ h' hI => ?_) (fun _ _ f => f.elim)
  · obtain ⟨⟨x1, x2, x3, x4, x5, x6, x7, x8, x9, x10, x11, x12, x13, x14, x15, rfl⟩, x⟩ := hI
    have hi : i < m.toNat := by have := (List.getElem?_eq_some_iff.mp hd).1; simpa using this
    simp only [List.getElem?_map, List.getElem?_range hi, Option.map_some, Option.some.injEq] at hd
    subst hd
    obtain ⟨_, g, e, a, rfl, ha, xg, J⟩ := (S_jar (k := k + 8) L.t12 i (by omega) (x.get hs)).get
    have hl0 := get_lt hs
    have := x.le
    simp only [bind_ok, stm_ok, seq_nx, seq_rt, seq_bk, seq_ct, fin_nx, fin_rt, getS_0, getS_s, ofO_s, ofB_s, ofT_s, negD_i, isN_n, isN_i, isN_t, isN_r, isN_s, isN_b, notD_b, ooR_i, asgR_s, seqI_t, kb2_, kcm'_, kcm_, kcmN_, chE_t, chE_f, kch2_, kch_, boC_tt, boC_tf, boC_ft, boC_ff, kbo_, kie_t, kie_f, kix_, ksl2_, ksl_, kck2_, kck_, kmt_, kisi_, klc_, kA2_, kA_, kst2_, kst_t, kT_, kcmT'_, kcmT_, kcmNT_, chT_t, chT_f, kchT2_, kchT_, kTs_tt, kTs_tf, kTs_ft, kTs_ff, kntT_, kzip_, kasg_, kset2_, kset_, kaug3_, kaug2_, kaug_s, kex_, kret_, kiff_t, kiff_f, kfr_, ev_var, ev_con, ev_glo, ev_b2, ev_neg, ev_cm, ev_cmN, ev_ch, ev_bo, evB_1, evB_2, ev_nt, ev_ie, ev_tp, ev_ls, ev_ix, ev_sl, ev_cf, ev_ck, ev_cb, ev_mt, ev_isi, ev_lc, evA_n, evA_c, evA_s, evO_n, evO_s, evT_v, evT_cm, evT_cmN, evT_ch, evT_bo, evT_nt, evT_y, evTs_1, evTs_2, evI_s, evI_r, evI_e, evI_z, ex_asg, ex_setl, ex_aug, ex_ex, ex_ret, ex_retn, ex_iff, ex_wh, ex_fr, ex_br, ex_ct, ex_ps, ex_n, ex_c, asG_n, asG_t, obs_s, asGs_n, asGs_c, frB_, frR_s, lcB_, lcR_s, klB2_, klB_t, klB_f, wipeS_n, wipeS_c, add_i, sub_i, ipadd_i, ipsub_i, eq_i, eq_s, eq_b, eq_ni, eq_in, eq_nn, ne_i, ne_s, ne_ni, ne_in, ne_nn, lt_i, le_i, gt_i, ge_i, tru_b, tru_i, tru_n, tru_t, it0, it1, it2, it3, abs_i, max_i, min_i, len_t0, len_t1, len_t2, len_t3, int_i, tupR_0, tupR_1, tupR_2, tupR_3, tupR_4, tupR_8, mk_0, mk_1, mk_2, mk_3, mk_4, mk_6, int_b, list_t, List.map_cons, List.map_nil, List.replicate_succ, List.replicate_zero, Nat.reduceSub, Nat.reduceAdd, List.cons_append, List.nil_append, List.set_cons_zero, List.set_cons_succ, Ty.has, Bool.not_true, Bool.not_false, decide_true, decide_false, Int.zero_add, e, rngI_1 (show -(2 ^ 62) ≤ (6 : Int) ∧ (6 : Int) < 2 ^ 62 by omega)]
    refine RS.Sat.seqB (forL_inv (nxt := It.nxt (.rng 0 (6 : Int).toNat)) (B := fun τ h' => Tau τ ∧ Hx h0 h') ((List.range (6 : Int).toNat).map fun j : Nat => D.int (0 + (j : Int)))
      (fun j τ h'' => TauJ a τ ∧ ExtX a g h'' ∧ Jar h'' a (110 * j) ∧ j ≤ 6) (fun i τ h' _ => nxt_rng i) (fun j d τ h'' hd hI => ?_) (fun τ h'' hI => ?_) turns 0 _ _ ⟨⟨_, _, _, _, _, _, _, _, _, _, _, _, _, _, rfl⟩, ExtX.refl _ _, J, by omega⟩ (Nat.zero_le _) (by decide)) fun τ h' hI => ?_
    · obtain ⟨⟨y1, y3, y4, y5, y6, y7, y8, y9, y10, y11, y12, y13, y14, y15, rfl⟩, xj, Jj, hj6⟩ := hI
      have hj : j < 6 := by have := (List.getElem?_eq_some_iff.mp hd).1; simpa using this
      have := S_lap (k := k) (h := h'') (Q := fun d _ => d = .bl true) (x1 := y1) (x3 := some d) (x4 := y4) (x5 := y5) (x6 := y6) (x7 := y7) (x8 := y8) (x9 := y9) (x10 := y10) (x11 := y11) (x12 := y12) (x13 := y13) (x14 := y14) (x15 := y15) L (by omega) Jj (by omega)
      simp only [frB_, asG_n, frR_s, List.set_cons_succ, List.set_cons_zero]
      exact RS.Sat.toB (RS.Sat.imp this (fun τ h3 hN => ⟨hN.1, xj.trans hN.2.1, hN.2.2.mono (by omega), by omega⟩) fun _ _ q => q)
    · obtain ⟨tj, xj, _, _⟩ := hI
      refine ⟨tj.t, ⟨by have := xg.le; have := xj.le; omega, fun i hi => ?_⟩⟩
      rw [xj.at_ i (by have := xg.le; omega) (by omega), xg.at_ i (by omega), x.at_ i hi]
    · simp only [bind_ok, stm_ok, seq_nx, seq_rt, seq_bk, seq_ct, fin_nx, fin_rt, getS_0, getS_s, ofO_s, ofB_s, ofT_s, negD_i, isN_n, isN_i, isN_t, isN_r, isN_s, isN_b, notD_b, ooR_i, asgR_s, seqI_t, kb2_, kcm'_, kcm_, kcmN_, chE_t, chE_f, kch2_, kch_, boC_tt, boC_tf, boC_ft, boC_ff, kbo_, kie_t, kie_f, kix_, ksl2_, ksl_, kck2_, kck_, kmt_, kisi_, klc_, kA2_, kA_, kst2_, kst_t, kT_, kcmT'_, kcmT_, kcmNT_, chT_t, chT_f, kchT2_, kchT_, kTs_tt, kTs_tf, kTs_ft, kTs_ff, kntT_, kzip_, kasg_, kset2_, kset_, kaug3_, kaug2_, kaug_s, kex_, kret_, kiff_t, kiff_f, kfr_, ev_var, ev_con, ev_glo, ev_b2, ev_neg, ev_cm, ev_cmN, ev_ch, ev_bo, evB_1, evB_2, ev_nt, ev_ie, ev_tp, ev_ls, ev_ix, ev_sl, ev_cf, ev_ck, ev_cb, ev_mt, ev_isi, ev_lc, evA_n, evA_c, evA_s, evO_n, evO_s, evT_v, evT_cm, evT_cmN, evT_ch, evT_bo, evT_nt, evT_y, evTs_1, evTs_2, evI_s, evI_r, evI_e, evI_z, ex_asg, ex_setl, ex_aug, ex_ex, ex_ret, ex_retn, ex_iff, ex_wh, ex_fr, ex_br, ex_ct, ex_ps, ex_n, ex_c, asG_n, asG_t, obs_s, asGs_n, asGs_c, frB_, frR_s, lcB_, lcR_s, klB2_, klB_t, klB_f, wipeS_n, wipeS_c, add_i, sub_i, ipadd_i, ipsub_i, eq_i, eq_s, eq_b, eq_ni, eq_in, eq_nn, ne_i, ne_s, ne_ni, ne_in, ne_nn, lt_i, le_i, gt_i, ge_i, tru_b, tru_i, tru_n, tru_t, it0, it1, it2, it3, abs_i, max_i, min_i, len_t0, len_t1, len_t2, len_t3, int_i, tupR_0, tupR_1, tupR_2, tupR_3, tupR_4, tupR_8, mk_0, mk_1, mk_2, mk_3, mk_4, mk_6, int_b, list_t, List.map_cons, List.map_nil, List.replicate_succ, List.replicate_zero, Nat.reduceSub, Nat.reduceAdd, List.cons_append, List.nil_append, List.set_cons_zero, List.set_cons_succ, Ty.has, Bool.not_true, Bool.not_false, decide_true, decide_false, satbN]
      exact hI
  · obtain ⟨⟨x1, x2, x3, x4, x5, x6, x7, x8, x9, x10, x11, x12, x13, x14, x15, rfl⟩, x⟩ := hI
    obtain ⟨_, _, d1, rfl, rfl⟩ := (S_due (h := h') (Φ := den T (k + 9)) (τ := [some (.ref 0), x1, x2, x3, x4, x5, x6, x7, x8, x9, x10, some (.int wW), x12, x13, x14, x15]) (fun x => [some (.ref 0), x1, x2, x3, x4, x5, x6, x7, x8, x9, x10, some (.int wW), x12, some x, x14, x15]) (fun x => by simp only [bind_ok, stm_ok, seq_nx, seq_rt, seq_bk, seq_ct, fin_nx, fin_rt, getS_0, getS_s, ofO_s, ofB_s, ofT_s, negD_i, isN_n, isN_i, isN_t, isN_r, isN_s, isN_b, notD_b, ooR_i, asgR_s, seqI_t, kb2_, kcm'_, kcm_, kcmN_, chE_t, chE_f, kch2_, kch_, boC_tt, boC_tf, boC_ft, boC_ff, kbo_, kie_t, kie_f, kix_, ksl2_, ksl_, kck2_, kck_, kmt_, kisi_, klc_, kA2_, kA_, kst2_, kst_t, kT_, kcmT'_, kcmT_, kcmNT_, chT_t, chT_f, kchT2_, kchT_, kTs_tt, kTs_tf, kTs_ft, kTs_ff, kntT_, kzip_, kasg_, kset2_, kset_, kaug3_, kaug2_, kaug_s, kex_, kret_, kiff_t, kiff_f, kfr_, ev_var, ev_con, ev_glo, ev_b2, ev_neg, ev_cm, ev_cmN, ev_ch, ev_bo, evB_1, evB_2, ev_nt, ev_ie, ev_tp, ev_ls, ev_ix, ev_sl, ev_cf, ev_ck, ev_cb, ev_mt, ev_isi, ev_lc, evA_n, evA_c, evA_s, evO_n, evO_s, evT_v, evT_cm, evT_cmN, evT_ch, evT_bo, evT_nt, evT_y, evTs_1, evTs_2, evI_s, evI_r, evI_e, evI_z, ex_asg, ex_setl, ex_aug, ex_ex, ex_ret, ex_retn, ex_iff, ex_wh, ex_fr, ex_br, ex_ct, ex_ps, ex_n, ex_c, asG_n, asG_t, obs_s, asGs_n, asGs_c, frB_, frR_s, lcB_, lcR_s, klB2_, klB_t, klB_f, wipeS_n, wipeS_c, add_i, sub_i, ipadd_i, ipsub_i, eq_i, eq_s, eq_b, eq_ni, eq_in, eq_nn, ne_i, ne_s, ne_ni, ne_in, ne_nn, lt_i, le_i, gt_i, ge_i, tru_b, tru_i, tru_n, tru_t, it0, it1, it2, it3, abs_i, max_i, min_i, len_t0, len_t1, len_t2, len_t3, int_i, tupR_0, tupR_1, tupR_2, tupR_3, tupR_4, tupR_8, mk_0, mk_1, mk_2, mk_3, mk_4, mk_6, int_b, list_t, List.map_cons, List.map_nil, List.replicate_succ, List.replicate_zero, Nat.reduceSub, Nat.reduceAdd, List.cons_append, List.nil_append, List.set_cons_zero, List.set_cons_succ, Ty.has, Bool.not_true, Bool.not_false, decide_true, decide_false]) (fun x => ⟨by simp only [bind_ok, stm_ok, seq_nx, seq_rt, seq_bk, seq_ct, fin_nx, fin_rt, getS_0, getS_s, ofO_s, ofB_s, ofT_s, negD_i, isN_n, isN_i, isN_t, isN_r, isN_s, isN_b, notD_b, ooR_i, asgR_s, seqI_t, kb2_, kcm'_, kcm_, kcmN_, chE_t, chE_f, kch2_, kch_, boC_tt, boC_tf, boC_ft, boC_ff, kbo_, kie_t, kie_f, kix_, ksl2_, ksl_, kck2_, kck_, kmt_, kisi_, klc_, kA2_, kA_, kst2_, kst_t, kT_, kcmT'_, kcmT_, kcmNT_, chT_t, chT_f, kchT2_, kchT_, kTs_tt, kTs_tf, kTs_ft, kTs_ff, kntT_, kzip_, kasg_, kset2_, kset_, kaug3_, kaug2_, kaug_s, kex_, kret_, kiff_t, kiff_f, kfr_, ev_var, ev_con, ev_glo, ev_b2, ev_neg, ev_cm, ev_cmN, ev_ch, ev_bo, evB_1, evB_2, ev_nt, ev_ie, ev_tp, ev_ls, ev_ix, ev_sl, ev_cf, ev_ck, ev_cb, ev_mt, ev_isi, ev_lc, evA_n, evA_c, evA_s, evO_n, evO_s, evT_v, evT_cm, evT_cmN, evT_ch, evT_bo, evT_nt, evT_y, evTs_1, evTs_2, evI_s, evI_r, evI_e, evI_z, ex_asg, ex_setl, ex_aug, ex_ex, ex_ret, ex_retn, ex_iff, ex_wh, ex_fr, ex_br, ex_ct, ex_ps, ex_n, ex_c, asG_n, asG_t, obs_s, asGs_n, asGs_c, frB_, frR_s, lcB_, lcR_s, klB2_, klB_t, klB_f, wipeS_n, wipeS_c, add_i, sub_i, ipadd_i, ipsub_i, eq_i, eq_s, eq_b, eq_ni, eq_in, eq_nn, ne_i, ne_s, ne_ni, ne_in, ne_nn, lt_i, le_i, gt_i, ge_i, tru_b, tru_i, tru_n, tru_t, it0, it1, it2, it3, abs_i, max_i, min_i, len_t0, len_t1, len_t2, len_t3, int_i, tupR_0, tupR_1, tupR_2, tupR_3, tupR_4, tupR_8, mk_0, mk_1, mk_2, mk_3, mk_4, mk_6, int_b, list_t, List.map_cons, List.map_nil, List.replicate_succ, List.replicate_zero, Nat.reduceSub, Nat.reduceAdd, List.cons_append, List.nil_append, List.set_cons_zero, List.set_cons_succ, Ty.has, Bool.not_true, Bool.not_false, decide_true, decide_false], by simp only [bind_ok, stm_ok, seq_nx, seq_rt, seq_bk, seq_ct, fin_nx, fin_rt, getS_0, getS_s, ofO_s, ofB_s, ofT_s, negD_i, isN_n, isN_i, isN_t, isN_r, isN_s, isN_b, notD_b, ooR_i, asgR_s, seqI_t, kb2_, kcm'_, kcm_, kcmN_, chE_t, chE_f, kch2_, kch_, boC_tt, boC_tf, boC_ft, boC_ff, kbo_, kie_t, kie_f, kix_, ksl2_, ksl_, kck2_, kck_, kmt_, kisi_, klc_, kA2_, kA_, kst2_, kst_t, kT_, kcmT'_, kcmT_, kcmNT_, chT_t, chT_f, kchT2_, kchT_, kTs_tt, kTs_tf, kTs_ft, kTs_ff, kntT_, kzip_, kasg_, kset2_, kset_, kaug3_, kaug2_, kaug_s, kex_, kret_, kiff_t, kiff_f, kfr_, ev_var, ev_con, ev_glo, ev_b2, ev_neg, ev_cm, ev_cmN, ev_ch, ev_bo, evB_1, evB_2, ev_nt, ev_ie, ev_tp, ev_ls, ev_ix, ev_sl, ev_cf, ev_ck, ev_cb, ev_mt, ev_isi, ev_lc, evA_n, evA_c, evA_s, evO_n, evO_s, evT_v, evT_cm, evT_cmN, evT_ch, evT_bo, evT_nt, evT_y, evTs_1, evTs_2, evI_s, evI_r, evI_e, evI_z, ex_asg, ex_setl, ex_aug, ex_ex, ex_ret, ex_retn, ex_iff, ex_wh, ex_fr, ex_br, ex_ct, ex_ps, ex_n, ex_c, asG_n, asG_t, obs_s, asGs_n, asGs_c, frB_, frR_s, lcB_, lcR_s, klB2_, klB_t, klB_f, wipeS_n, wipeS_c, add_i, sub_i, ipadd_i, ipsub_i, eq_i, eq_s, eq_b, eq_ni, eq_in, eq_nn, ne_i, ne_s, ne_ni, ne_in, ne_nn, lt_i, le_i, gt_i, ge_i, tru_b, tru_i, tru_n, tru_t, it0, it1, it2, it3, abs_i, max_i, min_i, len_t0, len_t1, len_t2, len_t3, int_i, tupR_0, tupR_1, tupR_2, tupR_3, tupR_4, tupR_8, mk_0, mk_1, mk_2, mk_3, mk_4, mk_6, int_b, list_t, List.map_cons, List.map_nil, List.replicate_succ, List.replicate_zero, Nat.reduceSub, Nat.reduceAdd, List.cons_append, List.nil_append, List.set_cons_zero, List.set_cons_succ, Ty.has, Bool.not_true, Bool.not_false, decide_true, decide_false]⟩)).get
    obtain ⟨h1, hh1⟩ : ∃ h1 : Hv, h1 = h' ++ [.lst (([128, 64, 32, 16, 8, 4, 2, 1] : List Int).map fun n => D.int (n * wW))] := ⟨_, rfl⟩
    have due1 : h1.get h'.length = some ((parts (zig wW 8) none 0 0).map oD) := by
      rw [hh1, get_new, parts_zig]; rfl
    rw [← hh1] at d1
    clear hh1
    obtain ⟨_, h2, e1, z1, rfl, l1, g1, y1⟩ := (S_zigzag (k := k + 8) (h := h1) L.t34 wW0 wW1).get
    obtain ⟨_, h3, e2, q1, rfl, l2, g2, y2⟩ := (S_stage_tones (k := k + 1) (h := h2) L.L L.t30 (rate := none) 0 0 (get_of_lst g1) (ok_zig none (fun r e => by cases e)) (by omega)).get
    have n1 : Oc.ev .ne (.ref q1) (.ref h'.length) h3 = some false := ne_os (get_of_lst g2) (y2.get (y1.get due1))
    obtain ⟨_, h4, e3, z2, rfl, l3, g3, y3⟩ := (S_zigzag (k := k + 8) (h := h3) L.t34 wW0 wW1).get
    have e4 := S_tone_at (k := k + 1) (h := h4) L.L (rate := some (2 * wW)) 0 (257 * wW + 1) (get_of_lst g3) (ok_zig _ (fun r e => by cases e; decide +kernel)) (by decide +kernel)
    rw [tone_zig] at e4
    obtain ⟨_, h5, e5, q2, rfl, l4, g4, y4⟩ := (S_stage_tones (k := k + 1) (h := h4 ++ [.lst [.tup [.str "mix", .int 5], .tup [.str "mix", .int 2]]]) L.L L.t30 (a := h4.length) (ss := r1) (rate := some 4) 0 11 get_new ok_r1 (by omega)).get
    obtain ⟨_, h6, e6, q3, rfl, l5, g5, y5⟩ := (S_stage_tones (k := k + 1) (h := h5 ++ [.lst [.tup [.str "dial", .int 0], .tup [.str "pass", .int 3, .int 6]]]) L.L L.t30 (a := h5.length) (ss := r2) (rate := some 7) 10 8 get_new ok_r2 (by omega)).get
    rw [parts_r1] at g4
    rw [parts_r2] at g5
    simp only [oD_n, oD_s] at e2 e4 e5 e6
    obtain ⟨h7, hh7⟩ : ∃ h7 : Hv, h7 = h6 ++ [.lst [.ref q2, .ref q3]] ++ [.lst [.int 6, .int 4, .int 0]] ++ [.lst [.int 2, .non, .non]] ++ [.lst [.ref (h6 ++ [Ob.lst [.ref q2, .ref q3]]).length, .ref (h6 ++ [Ob.lst [.ref q2, .ref q3]] ++ [Ob.lst [.int 6, .int 4, .int 0]]).length]] := ⟨_, rfl⟩
    have xe6 : Hx h6 h7 := by rw [hh7]; exact (((Hx.app h6 _).push _).push _).push _
    have n2 : Oc.ev .ne (.ref h6.length) (.ref (h6 ++ [Ob.lst [.ref q2, .ref q3]] ++ [Ob.lst [.int 6, .int 4, .int 0]] ++ [Ob.lst [.int 2, .non, .non]]).length) h7 = some false := by
      refine ne_oss (a1 := q2) (a2 := q3) (xs := [some 6, some 4, some 0]) (ys := [some 2, none, none]) ?_ (by rw [hh7]; exact get_new) (xe6.get (y5.get ((Hx.app h5 _).get (get_of_lst g4)))) (xe6.get (get_of_lst g5)) ?_ ?_
      · rw [hh7]
        exact ((((Hx.app _ _).push _).push _).get get_new)
      · rw [hh7]
        exact (((Hx.app _ _).push _).get get_new)
      · rw [hh7]
        exact ((Hx.app _ _).get get_new)
    obtain ⟨_, h8, e8, rfl, g6, y6⟩ := (S_rates (k := k) (h := h7) L.L (τ := [some (.ref 0), x1, x2, x3, x4, x5, x6, x7, x8, x9, x10, some (.int wW), some (.ref h'.length), x13, some (.ref h6.length), x15]) (fun x => [some (.ref 0), x1, x2, x3, x4, x5, x6, x7, x8, x9, x10, some (.int wW), some (.ref h'.length), x13, some (.ref h6.length), some x]) (fun x => ⟨by simp only [bind_ok, stm_ok, seq_nx, seq_rt, seq_bk, seq_ct, fin_nx, fin_rt, getS_0, getS_s, ofO_s, ofB_s, ofT_s, negD_i, isN_n, isN_i, isN_t, isN_r, isN_s, isN_b, notD_b, ooR_i, asgR_s, seqI_t, kb2_, kcm'_, kcm_, kcmN_, chE_t, chE_f, kch2_, kch_, boC_tt, boC_tf, boC_ft, boC_ff, kbo_, kie_t, kie_f, kix_, ksl2_, ksl_, kck2_, kck_, kmt_, kisi_, klc_, kA2_, kA_, kst2_, kst_t, kT_, kcmT'_, kcmT_, kcmNT_, chT_t, chT_f, kchT2_, kchT_, kTs_tt, kTs_tf, kTs_ft, kTs_ff, kntT_, kzip_, kasg_, kset2_, kset_, kaug3_, kaug2_, kaug_s, kex_, kret_, kiff_t, kiff_f, kfr_, ev_var, ev_con, ev_glo, ev_b2, ev_neg, ev_cm, ev_cmN, ev_ch, ev_bo, evB_1, evB_2, ev_nt, ev_ie, ev_tp, ev_ls, ev_ix, ev_sl, ev_cf, ev_ck, ev_cb, ev_mt, ev_isi, ev_lc, evA_n, evA_c, evA_s, evO_n, evO_s, evT_v, evT_cm, evT_cmN, evT_ch, evT_bo, evT_nt, evT_y, evTs_1, evTs_2, evI_s, evI_r, evI_e, evI_z, ex_asg, ex_setl, ex_aug, ex_ex, ex_ret, ex_retn, ex_iff, ex_wh, ex_fr, ex_br, ex_ct, ex_ps, ex_n, ex_c, asG_n, asG_t, obs_s, asGs_n, asGs_c, frB_, frR_s, lcB_, lcR_s, klB2_, klB_t, klB_f, wipeS_n, wipeS_c, add_i, sub_i, ipadd_i, ipsub_i, eq_i, eq_s, eq_b, eq_ni, eq_in, eq_nn, ne_i, ne_s, ne_ni, ne_in, ne_nn, lt_i, le_i, gt_i, ge_i, tru_b, tru_i, tru_n, tru_t, it0, it1, it2, it3, abs_i, max_i, min_i, len_t0, len_t1, len_t2, len_t3, int_i, tupR_0, tupR_1, tupR_2, tupR_3, tupR_4, tupR_8, mk_0, mk_1, mk_2, mk_3, mk_4, mk_6, int_b, list_t, List.map_cons, List.map_nil, List.replicate_succ, List.replicate_zero, Nat.reduceSub, Nat.reduceAdd, List.cons_append, List.nil_append, List.set_cons_zero, List.set_cons_succ, Ty.has, Bool.not_true, Bool.not_false, decide_true, decide_false], by simp only [bind_ok, stm_ok, seq_nx, seq_rt, seq_bk, seq_ct, fin_nx, fin_rt, getS_0, getS_s, ofO_s, ofB_s, ofT_s, negD_i, isN_n, isN_i, isN_t, isN_r, isN_s, isN_b, notD_b, ooR_i, asgR_s, seqI_t, kb2_, kcm'_, kcm_, kcmN_, chE_t, chE_f, kch2_, kch_, boC_tt, boC_tf, boC_ft, boC_ff, kbo_, kie_t, kie_f, kix_, ksl2_, ksl_, kck2_, kck_, kmt_, kisi_, klc_, kA2_, kA_, kst2_, kst_t, kT_, kcmT'_, kcmT_, kcmNT_, chT_t, chT_f, kchT2_, kchT_, kTs_tt, kTs_tf, kTs_ft, kTs_ff, kntT_, kzip_, kasg_, kset2_, kset_, kaug3_, kaug2_, kaug_s, kex_, kret_, kiff_t, kiff_f, kfr_, ev_var, ev_con, ev_glo, ev_b2, ev_neg, ev_cm, ev_cmN, ev_ch, ev_bo, evB_1, evB_2, ev_nt, ev_ie, ev_tp, ev_ls, ev_ix, ev_sl, ev_cf, ev_ck, ev_cb, ev_mt, ev_isi, ev_lc, evA_n, evA_c, evA_s, evO_n, evO_s, evT_v, evT_cm, evT_cmN, evT_ch, evT_bo, evT_nt, evT_y, evTs_1, evTs_2, evI_s, evI_r, evI_e, evI_z, ex_asg, ex_setl, ex_aug, ex_ex, ex_ret, ex_retn, ex_iff, ex_wh, ex_fr, ex_br, ex_ct, ex_ps, ex_n, ex_c, asG_n, asG_t, obs_s, asGs_n, asGs_c, frB_, frR_s, lcB_, lcR_s, klB2_, klB_t, klB_f, wipeS_n, wipeS_c, add_i, sub_i, ipadd_i, ipsub_i, eq_i, eq_s, eq_b, eq_ni, eq_in, eq_nn, ne_i, ne_s, ne_ni, ne_in, ne_nn, lt_i, le_i, gt_i, ge_i, tru_b, tru_i, tru_n, tru_t, it0, it1, it2, it3, abs_i, max_i, min_i, len_t0, len_t1, len_t2, len_t3, int_i, tupR_0, tupR_1, tupR_2, tupR_3, tupR_4, tupR_8, mk_0, mk_1, mk_2, mk_3, mk_4, mk_6, int_b, list_t, List.map_cons, List.map_nil, List.replicate_succ, List.replicate_zero, Nat.reduceSub, Nat.reduceAdd, List.cons_append, List.nil_append, List.set_cons_zero, List.set_cons_succ, Ty.has, Bool.not_true, Bool.not_false, decide_true, decide_false]⟩)).get
    have n3 : Oc.ev .eq (.ref h7.length) (.ref h8.length) (h8 ++ [.lst [.int 0, .int 1, .int (wW - 1)]]) = some true := eq_os (xs := [some 0, some 1, some (wW - 1)]) (by
      rw [tones_r3] at g6
      exact (Hx.app h8 _).get (get_of_lst g6)) get_new
    simp only [bind_ok, stm_ok, seq_nx, seq_rt, seq_bk, seq_ct, fin_nx, fin_rt, getS_0, getS_s, ofO_s, ofB_s, ofT_s, negD_i, isN_n, isN_i, isN_t, isN_r, isN_s, isN_b, notD_b, ooR_i, asgR_s, seqI_t, kb2_, kcm'_, kcm_, kcmN_, chE_t, chE_f, kch2_, kch_, boC_tt, boC_tf, boC_ft, boC_ff, kbo_, kie_t, kie_f, kix_, ksl2_, ksl_, kck2_, kck_, kmt_, kisi_, klc_, kA2_, kA_, kst2_, kst_t, kT_, kcmT'_, kcmT_, kcmNT_, chT_t, chT_f, kchT2_, kchT_, kTs_tt, kTs_tf, kTs_ft, kTs_ff, kntT_, kzip_, kasg_, kset2_, kset_, kaug3_, kaug2_, kaug_s, kex_, kret_, kiff_t, kiff_f, kfr_, ev_var, ev_con, ev_glo, ev_b2, ev_neg, ev_cm, ev_cmN, ev_ch, ev_bo, evB_1, evB_2, ev_nt, ev_ie, ev_tp, ev_ls, ev_ix, ev_sl, ev_cf, ev_ck, ev_cb, ev_mt, ev_isi, ev_lc, evA_n, evA_c, evA_s, evO_n, evO_s, evT_v, evT_cm, evT_cmN, evT_ch, evT_bo, evT_nt, evT_y, evTs_1, evTs_2, evI_s, evI_r, evI_e, evI_z, ex_asg, ex_setl, ex_aug, ex_ex, ex_ret, ex_retn, ex_iff, ex_wh, ex_fr, ex_br, ex_ct, ex_ps, ex_n, ex_c, asG_n, asG_t, obs_s, asGs_n, asGs_c, frB_, frR_s, lcB_, lcR_s, klB2_, klB_t, klB_f, wipeS_n, wipeS_c, add_i, sub_i, ipadd_i, ipsub_i, eq_i, eq_s, eq_b, eq_ni, eq_in, eq_nn, ne_i, ne_s, ne_ni, ne_in, ne_nn, lt_i, le_i, gt_i, ge_i, tru_b, tru_i, tru_n, tru_t, it0, it1, it2, it3, abs_i, max_i, min_i, len_t0, len_t1, len_t2, len_t3, int_i, tupR_0, tupR_1, tupR_2, tupR_3, tupR_4, tupR_8, mk_0, mk_1, mk_2, mk_3, mk_4, mk_6, int_b, list_t, List.map_cons, List.map_nil, List.replicate_succ, List.replicate_zero, Nat.reduceSub, Nat.reduceAdd, List.cons_append, List.nil_append, List.set_cons_zero, List.set_cons_succ, Ty.has, Bool.not_true, Bool.not_false, decide_true, decide_false, p10_w, d1, e1, e2, n1, e3, mul_i sm2 sW, mul_i sm257 sW, e4, e5, e6]
    rw [← hh7, n2]
    simp only [bind_ok, stm_ok, seq_nx, seq_rt, seq_bk, seq_ct, fin_nx, fin_rt, getS_0, getS_s, ofO_s, ofB_s, ofT_s, negD_i, isN_n, isN_i, isN_t, isN_r, isN_s, isN_b, notD_b, ooR_i, asgR_s, seqI_t, kb2_, kcm'_, kcm_, kcmN_, chE_t, chE_f, kch2_, kch_, boC_tt, boC_tf, boC_ft, boC_ff, kbo_, kie_t, kie_f, kix_, ksl2_, ksl_, kck2_, kck_, kmt_, kisi_, klc_, kA2_, kA_, kst2_, kst_t, kT_, kcmT'_, kcmT_, kcmNT_, chT_t, chT_f, kchT2_, kchT_, kTs_tt, kTs_tf, kTs_ft, kTs_ff, kntT_, kzip_, kasg_, kset2_, kset_, kaug3_, kaug2_, kaug_s, kex_, kret_, kiff_t, kiff_f, kfr_, ev_var, ev_con, ev_glo, ev_b2, ev_neg, ev_cm, ev_cmN, ev_ch, ev_bo, evB_1, evB_2, ev_nt, ev_ie, ev_tp, ev_ls, ev_ix, ev_sl, ev_cf, ev_ck, ev_cb, ev_mt, ev_isi, ev_lc, evA_n, evA_c, evA_s, evO_n, evO_s, evT_v, evT_cm, evT_cmN, evT_ch, evT_bo, evT_nt, evT_y, evTs_1, evTs_2, evI_s, evI_r, evI_e, evI_z, ex_asg, ex_setl, ex_aug, ex_ex, ex_ret, ex_retn, ex_iff, ex_wh, ex_fr, ex_br, ex_ct, ex_ps, ex_n, ex_c, asG_n, asG_t, obs_s, asGs_n, asGs_c, frB_, frR_s, lcB_, lcR_s, klB2_, klB_t, klB_f, wipeS_n, wipeS_c, add_i, sub_i, ipadd_i, ipsub_i, eq_i, eq_s, eq_b, eq_ni, eq_in, eq_nn, ne_i, ne_s, ne_ni, ne_in, ne_nn, lt_i, le_i, gt_i, ge_i, tru_b, tru_i, tru_n, tru_t, it0, it1, it2, it3, abs_i, max_i, min_i, len_t0, len_t1, len_t2, len_t3, int_i, tupR_0, tupR_1, tupR_2, tupR_3, tupR_4, tupR_8, mk_0, mk_1, mk_2, mk_3, mk_4, mk_6, int_b, list_t, List.map_cons, List.map_nil, List.replicate_succ, List.replicate_zero, Nat.reduceSub, Nat.reduceAdd, List.cons_append, List.nil_append, List.set_cons_zero, List.set_cons_succ, Ty.has, Bool.not_true, Bool.not_false, decide_true, decide_false, e8, p10_w, n3, satR]
end
end G4

namespace Tx
open PySem PySem.Spec PyProof.Rows L2 G4
def tab : List (Nat × Fn) := [(22, f_stage_tone), (23, f_sampled_tone), (24, f_tone_of), (6, f_is_integer), (7, f_is_at_least), (8, f_is_pair), (9, f_is_stage), (10, f_receiver_fault), (25, f_require_receiver), (26, f_require_dial), (27, f_require_signal), (28, f_require_heard), (29, f_tone_at), (30, f_stage_tones), (12, f_law_jar), (13, f_law_pick), (14, f_law_radio), (31, f_law_parts), (32, f_law_tone), (33, f_law_right), (34, f_law_zigzag), (35, f_law_3)]
def T : Tab := tabF tab
def nml : List (Nat × Str) := [(22, "stage_tone"), (23, "sampled_tone"), (24, "tone_of"), (6, "is_integer"), (7, "is_at_least"), (8, "is_pair"), (9, "is_stage"), (10, "receiver_fault"), (25, "require_receiver"), (26, "require_dial"), (27, "require_signal"), (28, "require_heard"), (29, "tone_at"), (30, "stage_tones"), (12, "_law_jar"), (13, "_law_pick"), (14, "_law_radio"), (31, "_law_parts"), (32, "_law_tone"), (33, "_law_right"), (34, "_law_zigzag"), (35, "law")]
def bll : List Str := ["len", "abs", "min", "max", "isinstance", "int", "range", "enumerate", "repr", "list", "tuple", "bool"]
def gll : List (Str × D) := [("MOST_STAGES", .int 8)]
def kwl : List (Nat × List (Nat × List Str × List Nat)) := [(30, [(0, ["signal", "dial", "receiver"], [2, 1, 0])]), (29, [(0, ["signal", "dial", "receiver"], [2, 1, 0])])]
def cc : Cc := ⟨nmF nml, bll, glF gll, kwF (kwL kwl)⟩
def top (i : Nat) : Stmt := PySem.Challenge.pw_imagetones_k02_tones_by_hand.main.body.getD i (.Pass ⟨0, 0, 0, 0⟩)
abbrev dd (x : Str) (i : Nat) : He.DefD := ⟨(x, none), x, x, defArgs (top i), defBody (top i), defScope (top i), [], []⟩
def dl : List He.DefD := [dd "stage_tone" 1, dd "sampled_tone" 2, dd "tone_of" 3, dd "is_integer" 11, dd "is_at_least" 12, dd "is_pair" 13, dd "is_stage" 14, dd "receiver_fault" 15, dd "require_receiver" 16, dd "require_dial" 17, dd "require_signal" 18, dd "require_heard" 20, dd "tone_at" 21, dd "stage_tones" 22, dd "_law_jar" 24, dd "_law_pick" 25, dd "_law_radio" 26, dd "_law_parts" 27, dd "_law_tone" 28, dd "_law_right" 29, dd "_law_zigzag" 30, dd "law" 31]
def fa : List He.Fa := [.glo "stage_tone", .glo "sampled_tone", .glo "tone_of", .glo "is_integer", .glo "is_at_least", .glo "is_pair", .glo "is_stage", .glo "receiver_fault", .glo "require_receiver", .glo "require_dial", .glo "require_signal", .glo "require_heard", .glo "tone_at", .glo "stage_tones", .glo "_law_jar", .glo "_law_pick", .glo "_law_radio", .glo "_law_parts", .glo "_law_tone", .glo "_law_right", .glo "_law_zigzag", .glo "law"] ++ (bll.map He.Fa.free ++ faG gll)
def loose0 : List Str := [("stage_tone" : Str), ("sampled_tone" : Str), ("tone_of" : Str), ("is_integer" : Str), ("is_at_least" : Str), ("is_pair" : Str), ("is_stage" : Str), ("receiver_fault" : Str), ("require_receiver" : Str), ("require_dial" : Str), ("require_signal" : Str), ("require_heard" : Str), ("tone_at" : Str), ("stage_tones" : Str), ("_law_jar" : Str), ("_law_pick" : Str), ("_law_radio" : Str), ("_law_parts" : Str), ("_law_tone" : Str), ("_law_right" : Str), ("_law_zigzag" : Str), ("ToneError" : Str), ("InvalidSignal" : Str), ("InvalidDial" : Str), ("InvalidReceiver" : Str), ("MOST_STAGES" : Str)]
abbrev loose : List Str := loose0
abbrev R : PySem.W.OpenRow := PySem.W.OpenLaw.row PySem.Challenge.rw_imagetones_k02_tones_by_hand
abbrev hk : PySem.W.Hook := He.hookD 5 fa dl
def ob (s : PySem.W.SharedT) : He.AlD := He.obsDG 5 fa dl (HandSHeadRun.getT s)
theorem ob_eq (s : PySem.W.SharedT) : ob s = hk.obs s.abs := He.obsDG_eq (HandSHeadRun.getT_eq s)
theorem run (w : World) : HandSHeadRun.RunEq R (PySem.W.view R.prog [31]) hk ob 5000 loose w := by
  intro os
  kernel_rfl
def N_stage_tone : List Str := ["stage", "dial", "tone"]
def P_stage_tone : List Str := ["stage", "dial", "tone"]
theorem sc_stage_tone : scB N_stage_tone P_stage_tone (defScope (top 1)) = true := by decide +kernel
theorem ck_stage_tone : chkSs T cc N_stage_tone (defScope (top 1)) f_stage_tone.body (defBody (top 1)) = true := by decide +kernel
theorem da_stage_tone {K : PySem.W.Frag} {h : Heap} {mg : Str → Option Value} (X : K.In h) (G : h.Ns mainGlobals mg) (c : He.SaysD fa dl K) : DefAt T cc K mg 22 f_stage_tone := by
  obtain ⟨fd, F⟩ := c.def_ 0 (d := dd "stage_tone" 1) rfl
  exact defAt_of (kl := kwL kwl) N_stage_tone P_stage_tone F (He.glo_ok X G (c.fact 0 (f := .glo "stage_tone") rfl)) rfl rfl rfl sc_stage_tone ck_stage_tone (fun _ _ _ _ _ _ us hl => match us, hl with | [_, _, _], _ => rfl) (fun _ _ _ _ _ _ => trivial)
def N_sampled_tone : List Str := ["rate", "tone", "rest"]
def P_sampled_tone : List Str := ["rate", "tone"]
theorem sc_sampled_tone : scB N_sampled_tone P_sampled_tone (defScope (top 2)) = true := by decide +kernel
theorem ck_sampled_tone : chkSs T cc N_sampled_tone (defScope (top 2)) f_sampled_tone.body (defBody (top 2)) = true := by decide +kernel
theorem da_sampled_tone {K : PySem.W.Frag} {h : Heap} {mg : Str → Option Value} (X : K.In h) (G : h.Ns mainGlobals mg) (c : He.SaysD fa dl K) : DefAt T cc K mg 23 f_sampled_tone := by
  obtain ⟨fd, F⟩ := c.def_ 1 (d := dd "sampled_tone" 2) rfl
  exact defAt_of (kl := kwL kwl) N_sampled_tone P_sampled_tone F (He.glo_ok X G (c.fact 1 (f := .glo "sampled_tone") rfl)) rfl rfl rfl sc_sampled_tone ck_sampled_tone (fun _ _ _ _ _ _ us hl => match us, hl with | [_, _], _ => rfl) (fun _ _ _ _ _ _ => trivial)
def N_tone_of : List Str := ["receiver", "dial", "signal", "stages", "rate", "tone", "stage"]
def P_tone_of : List Str := ["receiver", "dial", "signal"]
theorem sc_tone_of : scB N_tone_of P_tone_of (defScope (top 3)) = true := by decide +kernel
theorem ck_tone_of : chkSs T cc N_tone_of (defScope (top 3)) f_tone_of.body (defBody (top 3)) = true := by decide +kernel
theorem da_tone_of {K : PySem.W.Frag} {h : Heap} {mg : Str → Option Value} (X : K.In h) (G : h.Ns mainGlobals mg) (c : He.SaysD fa dl K) : DefAt T cc K mg 24 f_tone_of := by
  obtain ⟨fd, F⟩ := c.def_ 2 (d := dd "tone_of" 3) rfl
  exact defAt_of (kl := kwL kwl) N_tone_of P_tone_of F (He.glo_ok X G (c.fact 2 (f := .glo "tone_of") rfl)) rfl rfl rfl sc_tone_of ck_tone_of (fun _ _ _ _ _ _ us hl => match us, hl with | [_, _, _], _ => rfl) (fun _ _ _ _ _ _ => trivial)
def N_is_integer : List Str := ["value"]
def P_is_integer : List Str := ["value"]
theorem sc_is_integer : scB N_is_integer P_is_integer (defScope (top 11)) = true := by decide +kernel
theorem ck_is_integer : chkSs T cc N_is_integer (defScope (top 11)) f_is_integer.body (defBody (top 11)) = true := by decide +kernel
theorem da_is_integer {K : PySem.W.Frag} {h : Heap} {mg : Str → Option Value} (X : K.In h) (G : h.Ns mainGlobals mg) (c : He.SaysD fa dl K) : DefAt T cc K mg 6 f_is_integer := by
  obtain ⟨fd, F⟩ := c.def_ 3 (d := dd "is_integer" 11) rfl
  exact defAt_of (kl := kwL kwl) N_is_integer P_is_integer F (He.glo_ok X G (c.fact 3 (f := .glo "is_integer") rfl)) rfl rfl rfl sc_is_integer ck_is_integer (fun _ _ _ _ _ _ us hl => match us, hl with | [_], _ => rfl) (fun _ _ _ _ _ _ => trivial)
def N_is_at_least : List Str := ["value", "least"]
def P_is_at_least : List Str := ["value", "least"]
theorem sc_is_at_least : scB N_is_at_least P_is_at_least (defScope (top 12)) = true := by decide +kernel
theorem ck_is_at_least : chkSs T cc N_is_at_least (defScope (top 12)) f_is_at_least.body (defBody (top 12)) = true := by decide +kernel
theorem da_is_at_least {K : PySem.W.Frag} {h : Heap} {mg : Str → Option Value} (X : K.In h) (G : h.Ns mainGlobals mg) (c : He.SaysD fa dl K) : DefAt T cc K mg 7 f_is_at_least := by
  obtain ⟨fd, F⟩ := c.def_ 4 (d := dd "is_at_least" 12) rfl
  exact defAt_of (kl := kwL kwl) N_is_at_least P_is_at_least F (He.glo_ok X G (c.fact 4 (f := .glo "is_at_least") rfl)) rfl rfl rfl sc_is_at_least ck_is_at_least (fun _ _ _ _ _ _ us hl => match us, hl with | [_, _], _ => rfl) (fun _ _ _ _ _ _ => trivial)
def N_is_pair : List Str := ["least", "greatest"]
def P_is_pair : List Str := ["least", "greatest"]
theorem sc_is_pair : scB N_is_pair P_is_pair (defScope (top 13)) = true := by decide +kernel
theorem ck_is_pair : chkSs T cc N_is_pair (defScope (top 13)) f_is_pair.body (defBody (top 13)) = true := by decide +kernel
theorem da_is_pair {K : PySem.W.Frag} {h : Heap} {mg : Str → Option Value} (X : K.In h) (G : h.Ns mainGlobals mg) (c : He.SaysD fa dl K) : DefAt T cc K mg 8 f_is_pair := by
  obtain ⟨fd, F⟩ := c.def_ 5 (d := dd "is_pair" 13) rfl
  exact defAt_of (kl := kwL kwl) N_is_pair P_is_pair F (He.glo_ok X G (c.fact 5 (f := .glo "is_pair") rfl)) rfl rfl rfl sc_is_pair ck_is_pair (fun _ _ _ _ _ _ us hl => match us, hl with | [_, _], _ => rfl) (fun _ _ _ _ _ _ => trivial)
def N_is_stage : List Str := ["value"]
def P_is_stage : List Str := ["value"]
theorem sc_is_stage : scB N_is_stage P_is_stage (defScope (top 14)) = true := by decide +kernel
theorem ck_is_stage : chkSs T cc N_is_stage (defScope (top 14)) f_is_stage.body (defBody (top 14)) = true := by decide +kernel
theorem da_is_stage {K : PySem.W.Frag} {h : Heap} {mg : Str → Option Value} (X : K.In h) (G : h.Ns mainGlobals mg) (c : He.SaysD fa dl K) : DefAt T cc K mg 9 f_is_stage := by
  obtain ⟨fd, F⟩ := c.def_ 6 (d := dd "is_stage" 14) rfl
  exact defAt_of (kl := kwL kwl) N_is_stage P_is_stage F (He.glo_ok X G (c.fact 6 (f := .glo "is_stage") rfl)) rfl rfl rfl sc_is_stage ck_is_stage (fun _ _ _ _ _ _ us hl => match us, hl with | [_], _ => rfl) (fun _ _ _ _ _ _ => trivial)
def N_receiver_fault : List Str := ["value", "stages", "rate", "dials", "index", "stage"]
def P_receiver_fault : List Str := ["value"]
theorem sc_receiver_fault : scB N_receiver_fault P_receiver_fault (defScope (top 15)) = true := by decide +kernel
theorem ck_receiver_fault : chkSs T cc N_receiver_fault (defScope (top 15)) f_receiver_fault.body (defBody (top 15)) = true := by decide +kernel
theorem da_receiver_fault {K : PySem.W.Frag} {h : Heap} {mg : Str → Option Value} (X : K.In h) (G : h.Ns mainGlobals mg) (c : He.SaysD fa dl K) : DefAt T cc K mg 10 f_receiver_fault := by
  obtain ⟨fd, F⟩ := c.def_ 7 (d := dd "receiver_fault" 15) rfl
  exact defAt_of (kl := kwL kwl) N_receiver_fault P_receiver_fault F (He.glo_ok X G (c.fact 7 (f := .glo "receiver_fault") rfl)) rfl rfl rfl sc_receiver_fault ck_receiver_fault (fun _ _ _ _ _ _ us hl => match us, hl with | [_], _ => rfl) (fun _ _ _ _ _ _ => trivial)
def N_require_receiver : List Str := ["receiver", "fault"]
def P_require_receiver : List Str := ["receiver"]
theorem sc_require_receiver : scB N_require_receiver P_require_receiver (defScope (top 16)) = true := by decide +kernel
theorem ck_require_receiver : chkSs T cc N_require_receiver (defScope (top 16)) f_require_receiver.body (defBody (top 16)) = true := by decide +kernel
theorem da_require_receiver {K : PySem.W.Frag} {h : Heap} {mg : Str → Option Value} (X : K.In h) (G : h.Ns mainGlobals mg) (c : He.SaysD fa dl K) : DefAt T cc K mg 25 f_require_receiver := by
  obtain ⟨fd, F⟩ := c.def_ 8 (d := dd "require_receiver" 16) rfl
  exact defAt_of (kl := kwL kwl) N_require_receiver P_require_receiver F (He.glo_ok X G (c.fact 8 (f := .glo "require_receiver") rfl)) rfl rfl rfl sc_require_receiver ck_require_receiver (fun _ _ _ _ _ _ us hl => match us, hl with | [_], _ => rfl) (fun _ _ _ _ _ _ => trivial)
def N_require_dial : List Str := ["dial"]
def P_require_dial : List Str := ["dial"]
theorem sc_require_dial : scB N_require_dial P_require_dial (defScope (top 17)) = true := by decide +kernel
theorem ck_require_dial : chkSs T cc N_require_dial (defScope (top 17)) f_require_dial.body (defBody (top 17)) = true := by decide +kernel
theorem da_require_dial {K : PySem.W.Frag} {h : Heap} {mg : Str → Option Value} (X : K.In h) (G : h.Ns mainGlobals mg) (c : He.SaysD fa dl K) : DefAt T cc K mg 26 f_require_dial := by
  obtain ⟨fd, F⟩ := c.def_ 9 (d := dd "require_dial" 17) rfl
  exact defAt_of (kl := kwL kwl) N_require_dial P_require_dial F (He.glo_ok X G (c.fact 9 (f := .glo "require_dial") rfl)) rfl rfl rfl sc_require_dial ck_require_dial (fun _ _ _ _ _ _ us hl => match us, hl with | [_], _ => rfl) (fun _ _ _ _ _ _ => trivial)
def N_require_signal : List Str := ["signal"]
def P_require_signal : List Str := ["signal"]
theorem sc_require_signal : scB N_require_signal P_require_signal (defScope (top 18)) = true := by decide +kernel
theorem ck_require_signal : chkSs T cc N_require_signal (defScope (top 18)) f_require_signal.body (defBody (top 18)) = true := by decide +kernel
theorem da_require_signal {K : PySem.W.Frag} {h : Heap} {mg : Str → Option Value} (X : K.In h) (G : h.Ns mainGlobals mg) (c : He.SaysD fa dl K) : DefAt T cc K mg 27 f_require_signal := by
  obtain ⟨fd, F⟩ := c.def_ 10 (d := dd "require_signal" 18) rfl
  exact defAt_of (kl := kwL kwl) N_require_signal P_require_signal F (He.glo_ok X G (c.fact 10 (f := .glo "require_signal") rfl)) rfl rfl rfl sc_require_signal ck_require_signal (fun _ _ _ _ _ _ us hl => match us, hl with | [_], _ => rfl) (fun _ _ _ _ _ _ => trivial)
def N_require_heard : List Str := ["receiver", "dial", "signal"]
def P_require_heard : List Str := ["receiver", "dial", "signal"]
theorem sc_require_heard : scB N_require_heard P_require_heard (defScope (top 20)) = true := by decide +kernel
theorem ck_require_heard : chkSs T cc N_require_heard (defScope (top 20)) f_require_heard.body (defBody (top 20)) = true := by decide +kernel
theorem da_require_heard {K : PySem.W.Frag} {h : Heap} {mg : Str → Option Value} (X : K.In h) (G : h.Ns mainGlobals mg) (c : He.SaysD fa dl K) : DefAt T cc K mg 28 f_require_heard := by
  obtain ⟨fd, F⟩ := c.def_ 11 (d := dd "require_heard" 20) rfl
  exact defAt_of (kl := kwL kwl) N_require_heard P_require_heard F (He.glo_ok X G (c.fact 11 (f := .glo "require_heard") rfl)) rfl rfl rfl sc_require_heard ck_require_heard (fun _ _ _ _ _ _ us hl => match us, hl with | [_, _, _], _ => rfl) (fun _ _ _ _ _ _ => trivial)
def N_tone_at : List Str := ["receiver", "dial", "signal"]
def P_tone_at : List Str := ["receiver", "dial", "signal"]
theorem sc_tone_at : scB N_tone_at P_tone_at (defScope (top 21)) = true := by decide +kernel
theorem ck_tone_at : chkSs T cc N_tone_at (defScope (top 21)) f_tone_at.body (defBody (top 21)) = true := by decide +kernel
theorem da_tone_at {K : PySem.W.Frag} {h : Heap} {mg : Str → Option Value} (X : K.In h) (G : h.Ns mainGlobals mg) (c : He.SaysD fa dl K) : DefAt T cc K mg 29 f_tone_at := by
  obtain ⟨fd, F⟩ := c.def_ 12 (d := dd "tone_at" 21) rfl
  exact defAt_of (kl := kwL kwl) N_tone_at P_tone_at F (He.glo_ok X G (c.fact 12 (f := .glo "tone_at") rfl)) rfl rfl rfl sc_tone_at ck_tone_at (fun _ _ _ _ _ _ us hl => match us, hl with | [_, _, _], _ => rfl) (fun _ _ _ _ _ _ => ⟨⟨rfl, by decide, fun us ws h1 h2 => match us, ws, h1, h2 with | [], [_, _, _], _, _ => rfl⟩, trivial⟩)
def N_stage_tones : List Str := ["receiver", "dial", "signal", "stages", "rate", "found", "tone", "stage"]
def P_stage_tones : List Str := ["receiver", "dial", "signal"]
theorem sc_stage_tones : scB N_stage_tones P_stage_tones (defScope (top 22)) = true := by decide +kernel
theorem ck_stage_tones : chkSs T cc N_stage_tones (defScope (top 22)) f_stage_tones.body (defBody (top 22)) = true := by decide +kernel
theorem da_stage_tones {K : PySem.W.Frag} {h : Heap} {mg : Str → Option Value} (X : K.In h) (G : h.Ns mainGlobals mg) (c : He.SaysD fa dl K) : DefAt T cc K mg 30 f_stage_tones := by
  obtain ⟨fd, F⟩ := c.def_ 13 (d := dd "stage_tones" 22) rfl
  exact defAt_of (kl := kwL kwl) N_stage_tones P_stage_tones F (He.glo_ok X G (c.fact 13 (f := .glo "stage_tones") rfl)) rfl rfl rfl sc_stage_tones ck_stage_tones (fun _ _ _ _ _ _ us hl => match us, hl with | [_, _, _], _ => rfl) (fun _ _ _ _ _ _ => ⟨⟨rfl, by decide, fun us ws h1 h2 => match us, ws, h1, h2 with | [], [_, _, _], _, _ => rfl⟩, trivial⟩)
def N_law_jar : List Str := ["script", "at", "cell"]
def P_law_jar : List Str := ["script", "at"]
theorem sc_law_jar : scB N_law_jar P_law_jar (defScope (top 24)) = true := by decide +kernel
theorem ck_law_jar : chkSs T cc N_law_jar (defScope (top 24)) f_law_jar.body (defBody (top 24)) = true := by decide +kernel
theorem da_law_jar {K : PySem.W.Frag} {h : Heap} {mg : Str → Option Value} (X : K.In h) (G : h.Ns mainGlobals mg) (c : He.SaysD fa dl K) : DefAt T cc K mg 12 f_law_jar := by
  obtain ⟨fd, F⟩ := c.def_ 14 (d := dd "_law_jar" 24) rfl
  exact defAt_of (kl := kwL kwl) N_law_jar P_law_jar F (He.glo_ok X G (c.fact 14 (f := .glo "_law_jar") rfl)) rfl rfl rfl sc_law_jar ck_law_jar (fun _ _ _ _ _ _ us hl => match us, hl with | [_, _], _ => rfl) (fun _ _ _ _ _ _ => trivial)
def N_law_pick : List Str := ["jar", "bound", "drawn", "mixed"]
def P_law_pick : List Str := ["jar", "bound"]
theorem sc_law_pick : scB N_law_pick P_law_pick (defScope (top 25)) = true := by decide +kernel
theorem ck_law_pick : chkSs T cc N_law_pick (defScope (top 25)) f_law_pick.body (defBody (top 25)) = true := by decide +kernel
theorem da_law_pick {K : PySem.W.Frag} {h : Heap} {mg : Str → Option Value} (X : K.In h) (G : h.Ns mainGlobals mg) (c : He.SaysD fa dl K) : DefAt T cc K mg 13 f_law_pick := by
  obtain ⟨fd, F⟩ := c.def_ 15 (d := dd "_law_pick" 25) rfl
  exact defAt_of (kl := kwL kwl) N_law_pick P_law_pick F (He.glo_ok X G (c.fact 15 (f := .glo "_law_pick") rfl)) rfl rfl rfl sc_law_pick ck_law_pick (fun _ _ _ _ _ _ us hl => match us, hl with | [_, _], _ => rfl) (fun _ _ _ _ _ _ => trivial)
def N_law_radio : List Str := ["jar", "most", "far", "stages", "spot", "lap", "kind", "low"]
def P_law_radio : List Str := ["jar", "most", "far"]
theorem sc_law_radio : scB N_law_radio P_law_radio (defScope (top 26)) = true := by decide +kernel
theorem ck_law_radio : chkSs T cc N_law_radio (defScope (top 26)) f_law_radio.body (defBody (top 26)) = true := by decide +kernel
theorem da_law_radio {K : PySem.W.Frag} {h : Heap} {mg : Str → Option Value} (X : K.In h) (G : h.Ns mainGlobals mg) (c : He.SaysD fa dl K) : DefAt T cc K mg 14 f_law_radio := by
  obtain ⟨fd, F⟩ := c.def_ 16 (d := dd "_law_radio" 26) rfl
  exact defAt_of (kl := kwL kwl) N_law_radio P_law_radio F (He.glo_ok X G (c.fact 16 (f := .glo "_law_radio") rfl)) rfl rfl rfl sc_law_radio ck_law_radio (fun _ _ _ _ _ _ us hl => match us, hl with | [_, _, _], _ => rfl) (fun _ _ _ _ _ _ => trivial)
def N_law_parts : List Str := ["radio", "tuned", "wave", "found", "here", "stage"]
def P_law_parts : List Str := ["radio", "tuned", "wave"]
theorem sc_law_parts : scB N_law_parts P_law_parts (defScope (top 27)) = true := by decide +kernel
theorem ck_law_parts : chkSs T cc N_law_parts (defScope (top 27)) f_law_parts.body (defBody (top 27)) = true := by decide +kernel
theorem da_law_parts {K : PySem.W.Frag} {h : Heap} {mg : Str → Option Value} (X : K.In h) (G : h.Ns mainGlobals mg) (c : He.SaysD fa dl K) : DefAt T cc K mg 31 f_law_parts := by
  obtain ⟨fd, F⟩ := c.def_ 17 (d := dd "_law_parts" 27) rfl
  exact defAt_of (kl := kwL kwl) N_law_parts P_law_parts F (He.glo_ok X G (c.fact 17 (f := .glo "_law_parts") rfl)) rfl rfl rfl sc_law_parts ck_law_parts (fun _ _ _ _ _ _ us hl => match us, hl with | [_, _, _], _ => rfl) (fun _ _ _ _ _ _ => trivial)
def N_law_tone : List Str := ["radio", "tuned", "wave"]
def P_law_tone : List Str := ["radio", "tuned", "wave"]
theorem sc_law_tone : scB N_law_tone P_law_tone (defScope (top 28)) = true := by decide +kernel
theorem ck_law_tone : chkSs T cc N_law_tone (defScope (top 28)) f_law_tone.body (defBody (top 28)) = true := by decide +kernel
theorem da_law_tone {K : PySem.W.Frag} {h : Heap} {mg : Str → Option Value} (X : K.In h) (G : h.Ns mainGlobals mg) (c : He.SaysD fa dl K) : DefAt T cc K mg 32 f_law_tone := by
  obtain ⟨fd, F⟩ := c.def_ 18 (d := dd "_law_tone" 28) rfl
  exact defAt_of (kl := kwL kwl) N_law_tone P_law_tone F (He.glo_ok X G (c.fact 18 (f := .glo "_law_tone") rfl)) rfl rfl rfl sc_law_tone ck_law_tone (fun _ _ _ _ _ _ us hl => match us, hl with | [_, _, _], _ => rfl) (fun _ _ _ _ _ _ => trivial)
def N_law_right : List Str := ["radio", "tuned", "wave", "kept", "due", "lap", "told", "stages", "later", "stage"]
def P_law_right : List Str := ["radio", "tuned", "wave"]
theorem sc_law_right : scB N_law_right P_law_right (defScope (top 29)) = true := by decide +kernel
theorem ck_law_right : chkSs T cc N_law_right (defScope (top 29)) f_law_right.body (defBody (top 29)) = true := by decide +kernel
theorem da_law_right {K : PySem.W.Frag} {h : Heap} {mg : Str → Option Value} (X : K.In h) (G : h.Ns mainGlobals mg) (c : He.SaysD fa dl K) : DefAt T cc K mg 33 f_law_right := by
  obtain ⟨fd, F⟩ := c.def_ 19 (d := dd "_law_right" 29) rfl
  exact defAt_of (kl := kwL kwl) N_law_right P_law_right F (He.glo_ok X G (c.fact 19 (f := .glo "_law_right") rfl)) rfl rfl rfl sc_law_right ck_law_right (fun _ _ _ _ _ _ us hl => match us, hl with | [_, _, _], _ => rfl) (fun _ _ _ _ _ _ => trivial)
def N_law_zigzag : List Str := ["wide", "count", "stages", "size", "lap"]
def P_law_zigzag : List Str := ["wide", "count"]
theorem sc_law_zigzag : scB N_law_zigzag P_law_zigzag (defScope (top 30)) = true := by decide +kernel
theorem ck_law_zigzag : chkSs T cc N_law_zigzag (defScope (top 30)) f_law_zigzag.body (defBody (top 30)) = true := by decide +kernel
theorem da_law_zigzag {K : PySem.W.Frag} {h : Heap} {mg : Str → Option Value} (X : K.In h) (G : h.Ns mainGlobals mg) (c : He.SaysD fa dl K) : DefAt T cc K mg 34 f_law_zigzag := by
  obtain ⟨fd, F⟩ := c.def_ 20 (d := dd "_law_zigzag" 30) rfl
  exact defAt_of (kl := kwL kwl) N_law_zigzag P_law_zigzag F (He.glo_ok X G (c.fact 20 (f := .glo "_law_zigzag") rfl)) rfl rfl rfl sc_law_zigzag ck_law_zigzag (fun _ _ _ _ _ _ us hl => match us, hl with | [_, _], _ => rfl) (fun _ _ _ _ _ _ => trivial)
def N_law_3 : List Str := ["script", "at", "jar", "lap", "far", "radio", "tuned", "near", "stage", "waves", "wave", "wide", "due", "size", "told", "rate_here"]
def P_law_3 : List Str := ["script"]
theorem sc_law_3 : scB N_law_3 P_law_3 (defScope (top 31)) = true := by decide +kernel
theorem ck_law_3 : chkSs T cc N_law_3 (defScope (top 31)) f_law_3.body (defBody (top 31)) = true := by decide +kernel
theorem da_law_3 {K : PySem.W.Frag} {h : Heap} {mg : Str → Option Value} (X : K.In h) (G : h.Ns mainGlobals mg) (c : He.SaysD fa dl K) : DefAt T cc K mg 35 f_law_3 := by
  obtain ⟨fd, F⟩ := c.def_ 21 (d := dd "law" 31) rfl
  exact defAt_of (kl := kwL kwl) N_law_3 P_law_3 F (He.glo_ok X G (c.fact 21 (f := .glo "law") rfl)) rfl rfl rfl sc_law_3 ck_law_3 (fun _ _ _ _ _ _ us hl => match us, hl with | [_], _ => rfl) (fun _ _ _ _ _ _ => trivial)
theorem facts {K : PySem.W.Frag} {h : Heap} {mg : Str → Option Value} (X : K.In h) (G : h.Ns mainGlobals mg) (c : He.SaysD fa dl K) :
    (∀ f fn, T f = some fn → DefAt T cc K mg f fn) ∧ (∀ x ∈ cc.bl, mg x = none) ∧ ∀ x d, cc.gl x = some d → ∃ u v, mg x = some u ∧ RelV v u ∧ ∀ ρ H, RelD ρ H d v :=
  ⟨DefAll.get (l := tab) ⟨da_stage_tone X G c, da_sampled_tone X G c, da_tone_of X G c, da_is_integer X G c, da_is_at_least X G c, da_is_pair X G c, da_is_stage X G c, da_receiver_fault X G c, da_require_receiver X G c, da_require_dial X G c, da_require_signal X G c, da_require_heard X G c, da_tone_at X G c, da_stage_tones X G c, da_law_jar X G c, da_law_pick X G c, da_law_radio X G c, da_law_parts X G c, da_law_tone X G c, da_law_right X G c, da_law_zigzag X G c, da_law_3 X G c, trivial⟩,
    fun x hx => He.free_ok X G (c.facts (List.mem_append_right _ (List.mem_append_left _ (List.mem_map_of_mem hx)))),
    gl_of X G (by decide) fun f hf => c.facts (List.mem_append_right _ (List.mem_append_right _ hf))⟩
theorem hm : ∀ ns : List Int, ns.length ≤ 63 → ∃ h', den T 10 35 [.ref 0] [.scr (ns.map D.int)] = .ok (.bl true) h' := by
  intro ns hn
  obtain ⟨d, h', e, rfl⟩ := (S_law (T := T) (k := 0) ⟨⟨rfl, rfl, rfl, rfl, rfl, rfl, rfl, rfl, rfl, rfl, rfl, rfl, rfl⟩, rfl, rfl, rfl, rfl, rfl, rfl, rfl⟩ rfl hn).get
  exact ⟨h', e⟩
end Tx
open PySem PySem.W PySem.Calls PyProof.Rows
theorem PySem.Challenge.cw_imagetones_k02_tones_by_hand_holds : PySem.Challenge.rw_imagetones_k02_tones_by_hand.Holds := by
  w_on; o_law
  refine HandSHeadRun.head_any (r := OpenLaw.row PySem.Challenge.rw_imagetones_k02_tones_by_hand) (q := view (OpenLaw.row PySem.Challenge.rw_imagetones_k02_tones_by_hand).prog [31]) (H := Tx.hk) (ob := Tx.ob) (M := 5000) (loose := Tx.loose) (d := HandSHeadRun.topDef (OpenLaw.row PySem.Challenge.rw_imagetones_k02_tones_by_hand).prog 31) (kwd := []) Tx.ob_eq
    (by kernel_rfl) (fun s => by kernel_rfl) Tx.run (by kernel_rfl) (by kernel_rfl) (by kernel_rfl) (by rfl) (by first | assumption | decide +kernel) (by decide +kernel) ⟨rfl, rfl, rfl, rfl, rfl, by decide +kernel⟩ ?hw ?hc
  case hw => w_witness2
  case hc =>
    refine G4.walk_G (l := PySem.Challenge.rw_imagetones_k02_tones_by_hand) (n := 63) (k := 10) (lw := 35) (T := Tx.T) (cc := Tx.cc) (fn := G4.f_law_3) (XI := fun _ => ⟨fun _ => 0, fun _ => none⟩) rfl (by decide) (by kernel_rfl) ⟨rfl, by decide, by decide⟩ rfl rfl (by kernel_rfl) ?F Tx.hm
    intro w mg h Y G
    obtain ⟨K, KX, c⟩ := Y
    exact ⟨K, KX, Tx.facts KX G c⟩
