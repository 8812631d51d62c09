import PyProof.Rows.All
import PySem.Syntax
import HandS.ForMost
import HandS.ForExc
import HandS.Star
import HandS.DictComp
import HandS.CallSlots
import HandS.HeadHook2
import KE.DataEq
import KE.DataCmp
import KE.SortData
import HandS.TupAny
import HandS.Wide
import HandS.IsInst
import HandS.Deep
import HandS.TupLen
import HandS.Flow
import HandS.FStr
import HandS.Rev
import HandS.Zip
import HandS.Style
import HandS.ExcIs
import HandS.HotCalls
import PyProof.ExcBaseAll.ValueError
import HandS.Defaults
import HandS.Head0
import HandS.Head1
import HandS.Head2
import HandS.HeadEnd
import HandS.HeadHook1
import KE.KStateDown
import HandS.More
import PySem.Challenge.RW_tokenward_k02_whole_turned_nets_and_neig
set_option Elab.async false
section
set_option linter.all false
set_option maxRecDepth 100000
/-! A small evaluator of its own over plain data (values are trees; what is changed is owned by one name), for the part of the language that the given texts use. -/
namespace Tk
open PySem

/-! ## data -/
inductive D where
  | non | bl (b : Bool) | int (i : Int) | str (x : Str)
  | tup (xs : List D) | lst (xs : List D) | dic (ks vs : List D)
  | ins (c : Str) (ns : List Str) (vs : List D)
  | exn (c : Str) (ns : List Str) (vs : List D)
  /-- the script -/
  | scr (is : List Int)
  deriving Inhabited

mutual
def D.beq : D → D → Bool
  | .non, .non => true
  | .bl a, .bl b => a == b
  | .int a, .int b => decide (a = b)
  | .str a, .str b => decide (a = b)
  | .tup a, .tup b => D.beqs a b
  | .lst a, .lst b => D.beqs a b
  | .dic a c, .dic b d => D.beqs a b && D.beqs c d
  | .ins a n c, .ins b m d => decide (a = b) && (decide (n = m) && D.beqs c d)
  | .exn a n c, .exn b m d => decide (a = b) && (decide (n = m) && D.beqs c d)
  | .scr a, .scr b => decide (a = b)
  | _, _ => false
def D.beqs : List D → List D → Bool
  | [], [] => true
  | a :: as, b :: bs => D.beq a b && D.beqs as bs
  | _, _ => false
end
mutual
theorem D.beq_self : ∀ a : D, D.beq a a = true
  | .non => rfl
  | .bl a => by simp [D.beq]
  | .int a => by simp [D.beq]
  | .str a => by simp [D.beq]
  | .tup a => by simp [D.beq, D.beqs_self a]
  | .lst a => by simp [D.beq, D.beqs_self a]
  | .dic a c => by simp [D.beq, D.beqs_self a, D.beqs_self c]
  | .ins a n c => by simp [D.beq, D.beqs_self c]
  | .exn a n c => by simp [D.beq, D.beqs_self c]
  | .scr a => by simp [D.beq]
theorem D.beqs_self : ∀ a : List D, D.beqs a a = true
  | [] => rfl
  | a :: as => by simp [D.beqs, D.beq_self a, D.beqs_self as]
end
mutual
theorem D.eq_of : ∀ a b : D, D.beq a b = true → a = b
  | .non, b, h => by cases b <;> simp [D.beq] at h <;> rfl
  | .bl a, b, h => by cases b <;> simp [D.beq] at h; rw [h]
  | .int a, b, h => by cases b <;> simp [D.beq] at h; rw [h]
  | .str a, b, h => by cases b <;> simp [D.beq] at h; rw [h]
  | .tup a, b, h => by cases b <;> simp [D.beq] at h; rw [D.eqs_of _ _ h]
  | .lst a, b, h => by cases b <;> simp [D.beq] at h; rw [D.eqs_of _ _ h]
  | .dic a c, b, h => by cases b <;> simp [D.beq] at h; rw [D.eqs_of _ _ h.1, D.eqs_of _ _ h.2]
  | .ins a n c, b, h => by cases b <;> simp [D.beq] at h; rw [h.1, h.2.1, D.eqs_of _ _ h.2.2]
  | .exn a n c, b, h => by cases b <;> simp [D.beq] at h; rw [h.1, h.2.1, D.eqs_of _ _ h.2.2]
  | .scr a, b, h => by cases b <;> simp [D.beq] at h; rw [h]
theorem D.eqs_of : ∀ a b : List D, D.beqs a b = true → a = b
  | [], b, h => by cases b <;> simp [D.beqs] at h <;> rfl
  | a :: as, b, h => by
    cases b with
    | nil => simp [D.beqs] at h
    | cons b bs => simp [D.beqs] at h; rw [D.eq_of _ _ h.1, D.eqs_of _ _ h.2]
end
instance : DecidableEq D := fun a b => if h : D.beq a b = true then .isTrue (D.eq_of a b h) else .isFalse fun e => h (e ▸ D.beq_self a)

/-- owned trees: what may still be changed; leaf: what no one changes any more -/
inductive OT where
  | leaf (d : D)
  | lst (ts : List OT)
  | dic (ks : List D) (ts : List OT)
  | ins (c : Str) (ns : List Str) (ts : List OT)
  deriving Inhabited
mutual
def OT.frz : OT → D
  | .leaf d => d
  | .lst ts => .lst (OT.frzs ts)
  | .dic ks ts => .dic ks (OT.frzs ts)
  | .ins c ns ts => .ins c ns (OT.frzs ts)
def OT.frzs : List OT → List D
  | [] => []
  | t :: ts => t.frz :: OT.frzs ts
end
def leafs (ds : List D) : List OT := ds.map .leaf
theorem frzs_leafs (ds : List D) : OT.frzs (leafs ds) = ds := by
  induction ds with
  | nil => rfl
  | cons d ds ih => show OT.frz (.leaf d) :: OT.frzs (leafs ds) = _; rw [ih]; rfl
def OT.isLeaf : OT → Bool
  | .leaf _ => true
  | _ => false
/-- its own children are leaves -/
def OT.flat : OT → Bool
  | .leaf _ => true
  | .lst ts => ts.all OT.isLeaf
  | .dic _ ts => ts.all OT.isLeaf
  | .ins _ _ ts => ts.all OT.isLeaf
/-- the node stays owned, all below becomes leaves -/
def OT.flatten : OT → OT
  | .leaf d => .leaf d
  | .lst ts => .lst (leafs (OT.frzs ts))
  | .dic ks ts => .dic ks (leafs (OT.frzs ts))
  | .ins c ns ts => .ins c ns (leafs (OT.frzs ts))
/-- a made thing as an owned one -/
def D.fresh : D → OT
  | .lst ds => .lst (leafs ds)
  | .dic ks ds => .dic ks (leafs ds)
  | d => .leaf d

/-! ## slots -/
inductive Sl where
  | un | own (t : OT)
  deriving Inhabited
abbrev SS := List Sl
inductive R (α : Type) where
  | ok (a : α) (S : SS) | exc (x : D) (S : SS) | bad
  deriving Inhabited
def R.bind {α β : Type} (r : R α) (f : α → SS → R β) : R β := match r with
  | .ok a S => f a S
  | .exc x S => .exc x S
  | .bad => .bad
inductive FR where
  | ok (t : OT) (ps : List (Option OT)) | exc (x : D) (ps : List (Option OT)) | bad
  deriving Inhabited
inductive Fl where
  | nx (S : SS) | ret (t : OT) (S : SS) | brk (S : SS) | cnt (S : SS) | exc (x : D) (S : SS) | bad
  deriving Inhabited

/-! ## paths -/
inductive Pst where
  | attr (f : Str) | at (d : D)
def lookN : List Str → List α → Str → Option α
  | n :: ns, v :: vs, f => if n = f then some v else lookN ns vs f
  | _, _, _ => none
def putN : List Str → List α → Str → α → List Str × List α
  | n :: ns, v :: vs, f, x => if n = f then (n :: ns, x :: vs) else let r := putN ns vs f x; (n :: r.1, v :: r.2)
  | _, _, f, x => ([f], [x])
def lookD : List D → List α → D → Option α
  | k :: ks, v :: vs, d => if k = d then some v else lookD ks vs d
  | _, _, _ => none
def putD : List D → List α → D → α → List D × List α
  | k :: ks, v :: vs, d, x => if k = d then (k :: ks, x :: vs) else let r := putD ks vs d x; (k :: r.1, v :: r.2)
  | _, _, d, x => ([d], [x])
def delD : List D → List α → D → List D × List α
  | k :: ks, v :: vs, d => if k = d then (ks, vs) else let r := delD ks vs d; (k :: r.1, v :: r.2)
  | _, _, _ => ([], [])
/-- the place of an index, negative ones from behind -/
def ixOf (i : Int) (n : Nat) : Option Nat :=
  if 0 ≤ i then (if i < n then some i.toNat else none) else (if -(n : Int) ≤ i then some (i + n).toNat else none)
def isKey1 : D → Bool
  | .int _ => true
  | .str _ => true
  | _ => false
def keyT (ds : List D) : Bool := ds.all isKey1
def keyK : D → Nat
  | .int _ => 1
  | .str _ => 1
  | .tup ds => if keyT ds then 2 else 0
  | _ => 0
/-- a key of a dict with these keys -/
def keyOk (ks : List D) (k : D) : Bool := keyK k != 0 && match ks with
  | [] => true
  | k' :: _ => keyK k == keyK k'
def atL (l : List α) (i : Int) : Option α := (ixOf i l.length).bind fun k => l[k]?
def D.get (d : D) (s : Pst) : Option D := match d, s with
  | .ins _ ns vs, .attr f => lookN ns vs f
  | .exn _ ns vs, .attr f => lookN ns vs f
  | .lst ds, .at (.int i) => atL ds i
  | .tup ds, .at (.int i) => atL ds i
  | .dic ks vs, .at k => if keyOk ks k then lookD ks vs k else none
  | _, _ => none
def OT.get (t : OT) (s : Pst) : Option OT := match t, s with
  | .leaf d, s => (d.get s).map .leaf
  | .ins _ ns ts, .attr f => lookN ns ts f
  | .lst ts, .at (.int i) => atL ts i
  | .dic ks ts, .at k => if keyOk ks k then lookD ks ts k else none
  | _, _ => none
def OT.put (t : OT) (s : Pst) (u : OT) : Option OT := match t, s with
  | .ins c ns ts, .attr f => match lookN ns ts f with
    | some _ => let r := putN ns ts f u; some (.ins c r.1 r.2)
    | none => none
  | .lst ts, .at (.int i) => (ixOf i ts.length).map fun k => .lst (ts.set k u)
  | .dic ks ts, .at k => match lookD ks ts k with
    | some _ => let r := putD ks ts k u; some (.dic r.1 r.2)
    | none => none
  | _, _ => none
def OT.getP : OT → List Pst → Option OT
  | t, [] => some t
  | t, s :: ss => (t.get s).bind fun u => u.getP ss
def OT.putP : OT → List Pst → OT → Option OT
  | _, [], u => some u
  | t, s :: ss, u => (t.get s).bind fun v => (v.putP ss u).bind fun w => t.put s w

/-! ## operators -/
inductive P where
  | add | sub | mul | fdiv | mod | pow | band | bor | shl | shr | neg
  | eq | ne | lt | le | gt | ge | isN | notN | isT | isF | notT | in_ | nin
  | idx | slc (lo hi : Bool) | rev
  | len | abs | max | min | sum | all | any | sorted | list | tuple | dict | int | str | bool | isinst (c : List Str) | lrange | lrev | lset | sset | repr
  | zipd | lzip | lvals | litems | lkeys
  | get1 | get2 | join | split | starts | ends | index | count | lower | upper | replace | fstr
  deriving DecidableEq, Inhabited
/-- truth -/
def D.truth : D → Option Bool
  | .non => some false
  | .bl b => some b
  | .int i => some (i != 0)
  | .str x => if x.cps.size ≤ 16777216 then some (x.cps.size != 0) else none
  | .tup ds => some (!ds.isEmpty)
  | .lst ds => some (!ds.isEmpty)
  | _ => none
def lim : Nat := 16777216
def chk (b : Bool) (d : D) : Option D := match b with
  | true => some d
  | false => none
/-- as == tells (True is 1) -/
def D.num : D → Option Int
  | .bl b => some (if b then 1 else 0)
  | .int i => some i
  | _ => none
mutual
def D.eqv : D → D → Bool
  | .non, .non => true
  | .bl a, b => match b.num with | some j => decide ((if a then (1 : Int) else 0) = j) | none => false
  | .int a, b => match b.num with | some j => decide (a = j) | none => false
  | .str a, .str b => decide (a = b)
  | .tup a, .tup b => D.eqvs a b
  | .lst a, .lst b => D.eqvs a b
  | _, _ => false
def D.eqvs : List D → List D → Bool
  | [], [] => true
  | a :: as, b :: bs => D.eqv a b && D.eqvs as bs
  | _, _ => false
end
mutual
/-- data without dicts and instances, so deep -/
def D.plainN : Nat → D → Bool
  | _, .non => true
  | _, .bl _ => true
  | _, .int _ => true
  | _, .str _ => true
  | n + 1, .tup a => D.plainsN n a
  | n + 1, .lst a => D.plainsN n a
  | _, _ => false
def D.plainsN : Nat → List D → Bool
  | _, [] => true
  | n, a :: as => D.plainN n a && D.plainsN n as
end
def D.plain (d : D) : Bool := D.plainN 60 d
def D.plains (ds : List D) : Bool := D.plainsN 59 ds
mutual
/-- two things that can be ordered: the same shape -/
def D.alike : D → D → Bool
  | .bl _, .bl _ => true
  | .int _, .int _ => true
  | .str _, .str _ => true
  | .tup a, .tup b => D.alikes a b
  | .lst a, .lst b => D.alikes a b
  | .non, .non => true
  | _, _ => false
def D.alikes : List D → List D → Bool
  | a :: as, b :: bs => D.alike a b && D.alikes as bs
  | _, _ => true
end
mutual
def D.lt : D → D → Bool
  | .bl a, .bl b => !a && b
  | .int a, .int b => decide (a < b)
  | .str a, .str b => decide (a.cps.toList < b.cps.toList)
  | .tup a, .tup b => D.lts a b
  | .lst a, .lst b => D.lts a b
  | _, _ => false
def D.lts : List D → List D → Bool
  | [], _ :: _ => true
  | a :: as, b :: bs => if D.eqv a b then D.lts as bs else D.lt a b
  | _, _ => false
end
/-- sorted, stable -/
def sortD (ds : List D) : List D := ds.mergeSort fun a b => !D.lt b a
/-- what the sort takes: all tuples that are not empty, or none a tuple -/
def sortable (ds : List D) : Bool := (ds.all fun d => match d with | .tup (_ :: _) => true | _ => false) || ds.all fun d => match d with | .tup _ => false | .non => false | _ => true
def nubD : List D → List D
  | [] => []
  | x :: xs => let r := nubD xs; x :: r.filter fun y => !(decide (y = x))
def alikeAll (ds : List D) : Bool := ds.all fun a => ds.all fun b => D.alike a b
def canSort (ds : List D) : Bool := alikeAll ds && (D.plains ds && sortable ds)
def sumI : List D → Option Int
  | [] => some 0
  | .int i :: r => (sumI r).map (i + ·)
  | .bl b :: r => (sumI r).map ((if b then 1 else 0) + ·)
  | _ => none
def intsOf : List D → Option (List Int)
  | [] => some []
  | .int i :: r => (intsOf r).map (i :: ·)
  | _ => none
def maxI : Int → List Int → Int
  | m, [] => m
  | m, d :: ds => maxI (if m < d then d else m) ds
def minI : Int → List Int → Int
  | m, [] => m
  | m, d :: ds => minI (if d < m then d else m) ds
def boolsOf : List D → Option (List Bool)
  | [] => some []
  | .bl b :: r => (boolsOf r).map (b :: ·)
  | _ => none
def strsOf : List D → Option (List Str)
  | [] => some []
  | .str b :: r => (strsOf r).map (b :: ·)
  | _ => none
def items? : D → Option (List D)
  | .tup ds => some ds
  | .lst ds => some ds
  | _ => none
def rangeD (lo : Int) : Nat → List D
  | 0 => []
  | n + 1 => .int lo :: rangeD (lo + 1) n
def rangeC (lo c : Int) : Nat → List D
  | 0 => []
  | n + 1 => .int lo :: rangeC (lo + c) c n
def okR (i : Int) : Bool := decide (-(2 ^ 62) ≤ i) && decide (i < 2 ^ 62)
def range? : List D → Option (List D)
  | [.int n] => if okR n then some (rangeD 0 n.toNat) else none
  | [.int a, .int b] => if okR a && okR b then some (rangeD a (b - a).toNat) else none
  | [.int a, .int b, .int c] => if okR a && okR b && decide (c = -1) then some (rangeC a c (a - b).toNat) else none
  | _ => none
def zip2 : List D → List D → List D
  | a :: as, b :: bs => .tup [a, b] :: zip2 as bs
  | _, _ => []
def zip3 : List D → List D → List D → List D
  | a :: as, b :: bs, c :: cs => .tup [a, b, c] :: zip3 as bs cs
  | _, _, _ => []
def enumD (i : Int) : List D → List D
  | [] => []
  | d :: ds => .tup [.int i, d] :: enumD (i + 1) ds
def signs (x : Str) : List D := x.cps.toList.map fun c => .str ⟨#[c]⟩
/-- keys with values, later ones win -/
def putAll : List D → List α → List (D × α) → Option (List D × List α)
  | ks, vs, [] => some (ks, vs)
  | ks, vs, (k, v) :: r => if keyOk ks k then (let p := putD ks vs k v; putAll p.1 p.2 r) else none
def pairsOf : List D → Option (List (D × D))
  | [] => some []
  | .tup [k, v] :: r => (pairsOf r).map ((k, v) :: ·)
  | _ => none
def strN (i : Int) : Str := Str.ofString (toString i)
def joinS (sep : Str) : List Str → Str
  | [] => ⟨#[]⟩
  | [x] => x
  | x :: xs => ⟨x.cps ++ sep.cps ++ (joinS sep xs).cps⟩
def totalS : List Str → Nat
  | [] => 0
  | x :: xs => x.cps.size + 1 + totalS xs
/-- split at one sign -/
def splitC (c : Nat) (cur : List Nat) : List Nat → List (List Nat)
  | [] => [cur.reverse]
  | x :: xs => if x = c then cur.reverse :: splitC c [] xs else splitC c (x :: cur) xs
def isPre : List Nat → List Nat → Bool
  | [], _ => true
  | a :: as, b :: bs => decide (a = b) && isPre as bs
  | _, _ => false
def isSub (a : List Nat) : List Nat → Bool
  | [] => a.isEmpty
  | b :: bs => isPre a (b :: bs) || isSub a bs
/-- the number that figures write -/
def intOf (l : List Nat) : Option Int :=
  let (neg, r) := match l with | 45 :: r => (true, r) | r => (false, r)
  if r.isEmpty || r.length > 600 || !(r.all fun c => decide (48 ≤ c) && decide (c ≤ 57)) then none
  else let n : Nat := r.foldl (fun a c => a * 10 + (c - 48)) 0
    some (if neg then -(n : Int) else n)
/-- a slice's bound -/
def clampI (n d : Nat) : Option Int → Nat
  | none => d
  | some i => if i < 0 then (i + (n : Int)).toNat else min i.toNat n
def sliceL (lo hi : Option Int) (l : List α) : List α := (l.drop (clampI l.length 0 lo)).take (clampI l.length l.length hi - clampI l.length 0 lo)
def sliceD (lo hi : Option Int) : D → Option D
  | .lst ds => some (.lst (sliceL lo hi ds))
  | .tup ds => some (.tup (sliceL lo hi ds))
  | _ => none
def fmt1 : D → Option Str
  | .str x => some x
  | .int i => if i.natAbs.log2 < 1920 then some (strN i) else none
  | _ => none
def fmts : List D → Option (List Str)
  | [] => some []
  | d :: r => (fmt1 d).bind fun x => (fmts r).map (x :: ·)
def catS : List Str → Str
  | [] => ⟨#[]⟩
  | x :: xs => ⟨x.cps ++ (catS xs).cps⟩
def wideOk (a b : Int) : Bool := decide (a.natAbs < 2 ^ 64) || decide (b.natAbs < 2 ^ 64) || decide (a.natAbs.log2 + b.natAbs.log2 < 900000)
def firstIx (x : D) : Nat → List D → Option Nat
  | _, [] => none
  | i, d :: ds => if D.eqv d x then some i else firstIx x (i + 1) ds
def maxL : D → List D → D
  | m, [] => m
  | m, d :: ds => maxL (if D.lt m d then d else m) ds
def minL : D → List D → D
  | m, [] => m
  | m, d :: ds => minL (if D.lt d m then d else m) ds
def ordOk (a b : D) : Bool := D.alike a b && (a.plain && (b.plain && !decide (a = .non)))
def sAdd (l : List D) : Option D := match l with
  | [.int a, .int b] => some (.int (a + b))
  | [.str a, .str b] => chk (decide (a.cps.size + b.cps.size ≤ lim)) (.str ⟨a.cps ++ b.cps⟩)
  | [.lst a, .lst b] => chk (decide (a.length + b.length ≤ lim)) (.lst (a ++ b))
  | [.tup a, .tup b] => chk (decide (a.length + b.length ≤ lim)) (.tup (a ++ b))
  | _ => none
def sSub (l : List D) : Option D := match l with
  | [.int a, .int b] => some (.int (a - b))
  | _ => none
def sMul (l : List D) : Option D := match l with
  | [.int a, .int b] => chk (wideOk a b) (.int (a * b))
  | [.lst a, .int n] => chk (okR n && decide (a.length * n.toNat ≤ lim)) (.lst (List.replicate n.toNat a).flatten)
  | [.str a, .int n] => chk (okR n && decide (a.cps.size * n.toNat ≤ lim)) (.str ⟨(List.replicate n.toNat a.cps.toList).flatten.toArray⟩)
  | _ => none
def sFdiv (l : List D) : Option D := match l with
  | [.int a, .int b] => chk (decide (b ≠ 0) && decide (b.natAbs < 1073741824)) (.int (a.fdiv b))
  | _ => none
def sMod (l : List D) : Option D := match l with
  | [.int a, .int b] => chk (decide (b ≠ 0)) (.int (a.fmod b))
  | _ => none
def sPow (l : List D) : Option D := match l with
  | [.int a, .int b] => chk (decide (0 ≤ b) && decide (b ≤ 1000000) && decide (a.natAbs < 2 ^ 64)) (.int (a ^ b.toNat))
  | _ => none
def sShl (l : List D) : Option D := match l with
  | [.int a, .int b] => chk (decide (0 ≤ b) && decide (b ≤ 1000000)) (.int (a * 2 ^ b.toNat))
  | _ => none
def sShr (l : List D) : Option D := match l with
  | [.int a, .int b] => chk (decide (0 ≤ b)) (.int (a / 2 ^ b.toNat))
  | _ => none
def sBand (l : List D) : Option D := match l with
  | [.int a, .int b] => chk (decide (0 ≤ a) && decide (0 ≤ b)) (.int ((a.toNat &&& b.toNat : Nat)))
  | _ => none
def sBor (l : List D) : Option D := match l with
  | [.int a, .int b] => chk (decide (0 ≤ a) && decide (0 ≤ b)) (.int ((a.toNat ||| b.toNat : Nat)))
  | _ => none
def sNeg (l : List D) : Option D := match l with
  | [.int a] => some (.int (-a))
  | _ => none
def sEq (l : List D) : Option D := match l with
  | [a, b] => chk (a.plain && b.plain) (.bl (D.eqv a b))
  | _ => none
def sNe (l : List D) : Option D := match l with
  | [a, b] => chk (a.plain && b.plain) (.bl (!D.eqv a b))
  | _ => none
def sLt (l : List D) : Option D := match l with
  | [a, b] => chk (ordOk a b) (.bl (D.lt a b))
  | _ => none
def sLe (l : List D) : Option D := match l with
  | [a, b] => chk (ordOk a b) (.bl (!D.lt b a))
  | _ => none
def sGt (l : List D) : Option D := match l with
  | [a, b] => chk (ordOk a b) (.bl (D.lt b a))
  | _ => none
def sGe (l : List D) : Option D := match l with
  | [a, b] => chk (ordOk a b) (.bl (!D.lt a b))
  | _ => none
def sIsN (l : List D) : Option D := match l with
  | [a] => some (.bl (decide (a = .non)))
  | _ => none
def sNotN (l : List D) : Option D := match l with
  | [a] => some (.bl (!decide (a = .non)))
  | _ => none
def sIsT (l : List D) : Option D := match l with
  | [a] => some (.bl (decide (a = .bl true)))
  | _ => none
def sIsF (l : List D) : Option D := match l with
  | [a] => some (.bl (decide (a = .bl false)))
  | _ => none
def sNotT (l : List D) : Option D := match l with
  | [a] => some (.bl (!decide (a = .bl true)))
  | _ => none
def sIn (l : List D) : Option D := match l with
  | [a, .dic ks vs] => chk (keyOk ks a) (.bl ((lookD ks vs a).isSome))
  | [a, .tup ds] => chk (a.plain && D.plains ds) (.bl (ds.any fun d => D.eqv d a))
  | [a, .lst ds] => chk (a.plain && D.plains ds) (.bl (ds.any fun d => D.eqv d a))
  | _ => none
def sNin (l : List D) : Option D := match l with
  | [a, .dic ks vs] => chk (keyOk ks a) (.bl (!(lookD ks vs a).isSome))
  | [a, .tup ds] => chk (a.plain && D.plains ds) (.bl (!ds.any fun d => D.eqv d a))
  | [a, .lst ds] => chk (a.plain && D.plains ds) (.bl (!ds.any fun d => D.eqv d a))
  | _ => none
def sIdx (l : List D) : Option D := match l with
  | [.str x, .int i] => if x.cps.size ≤ lim then (atL x.cps.toList i).map fun c => .str ⟨#[c]⟩ else none
  | [.dic ks vs, k] => if keyOk ks k then lookD ks vs k else none
  | [d, i] => d.get (.at i)
  | _ => none
def sSlcFF (l : List D) : Option D := match l with
  | [d] => sliceD none none d
  | _ => none
def sSlcTF (l : List D) : Option D := match l with
  | [d, .int i] => sliceD (some i) none d
  | _ => none
def sSlcFT (l : List D) : Option D := match l with
  | [d, .int i] => sliceD none (some i) d
  | _ => none
def sSlcTT (l : List D) : Option D := match l with
  | [d, .int i, .int j] => sliceD (some i) (some j) d
  | _ => none
def sRev (l : List D) : Option D := match l with
  | [.lst ds] => some (.lst ds.reverse)
  | [.tup ds] => some (.tup ds.reverse)
  | [.str x] => some (.str ⟨x.cps.reverse⟩)
  | _ => none
def sLen (l : List D) : Option D := match l with
  | [.str x] => chk (decide (x.cps.size ≤ lim)) (.int x.cps.size)
  | [.tup ds] => some (.int ds.length)
  | [.lst ds] => some (.int ds.length)
  | [.dic ks _] => some (.int ks.length)
  | [.scr is] => some (.int is.length)
  | _ => none
def sAbs (l : List D) : Option D := match l with
  | [.int a] => some (.int (if a < 0 then -a else a))
  | _ => none
def sMax (l : List D) : Option D := match l with
  | [.int a, .int b] => some (.int (if b > a then b else a))
  | [.lst ds] => (intsOf ds).bind fun ns => match ns with
    | x :: xs => some (.int (maxI x xs))
    | [] => none
  | _ => none
def sMin (l : List D) : Option D := match l with
  | [.int a, .int b] => some (.int (if b < a then b else a))
  | [.lst ds] => (intsOf ds).bind fun ns => match ns with
    | x :: xs => some (.int (minI x xs))
    | [] => none
  | _ => none
def sSum (l : List D) : Option D := match l with
  | [.lst ds] => (intsOf ds).map fun ns => .int ns.sum
  | _ => none
def sAll (l : List D) : Option D := match l with
  | [.lst ds] => (boolsOf ds).map fun bs => .bl (bs.all id)
  | _ => none
def sAny (l : List D) : Option D := match l with
  | [.lst ds] => (boolsOf ds).map fun bs => .bl (bs.any id)
  | _ => none
def sSorted (l : List D) : Option D := match l with
  | [.lst ds] => chk (canSort ds) (.lst (sortD ds))
  | _ => none
def sSset (l : List D) : Option D := match l with
  | [d] => (items? d).bind fun ds => chk (canSort ds) (.lst (sortD (nubD ds)))
  | _ => none
def sLset (l : List D) : Option D := match l with
  | [d] => (items? d).bind fun ds => chk (D.plains ds) (.int (nubD ds).length)
  | _ => none
def sList (l : List D) : Option D := match l with
  | [.lst ds] => some (.lst ds)
  | [.tup ds] => some (.lst ds)
  | _ => none
def sTuple (l : List D) : Option D := match l with
  | [.lst ds] => some (.tup ds)
  | [.tup ds] => some (.tup ds)
  | _ => none
def sDict (l : List D) : Option D := match l with
  | [.dic ks vs] => some (.dic ks vs)
  | [d] => (items? d).bind fun ds => (pairsOf ds).bind fun ps => (putAll [] [] ps).map fun r => .dic r.1 r.2
  | _ => none
def sZipd (l : List D) : Option D := match l with
  | [a, b] => (items? a).bind fun xs => (items? b).bind fun ys => (putAll [] [] (xs.zip ys)).map fun r => .dic r.1 r.2
  | _ => none
def sLzip (l : List D) : Option D := match l with
  | [a, b] => (items? a).bind fun xs => (items? b).bind fun ys => some (.lst (zip2 xs ys))
  | _ => none
def sLvals (l : List D) : Option D := match l with
  | [.dic _ vs] => some (.lst vs)
  | _ => none
def sLitems (l : List D) : Option D := match l with
  | [.dic ks vs] => some (.lst (zip2 ks vs))
  | _ => none
def sLkeys (l : List D) : Option D := match l with
  | [.dic ks _] => some (.lst ks)
  | _ => none
def sInt (l : List D) : Option D := match l with
  | [.int i] => some (.int i)
  | [.bl b] => some (.int (if b then 1 else 0))
  | _ => none
def sBool (l : List D) : Option D := match l with
  | [d] => d.truth.map .bl
  | _ => none
def sStr (l : List D) : Option D := match l with
  | [.int i] => chk (decide (i.natAbs.log2 < 1920)) (.str (strN i))
  | _ => none
def kindN : D → Option String
  | .non => some "NoneType"
  | .bl _ => some "bool"
  | .int _ => some "int"
  | .str _ => some "str"
  | .tup _ => some "tuple"
  | .lst _ => some "list"
  | .dic .. => some "dict"
  | _ => none
/-- the built-in classes asked for -/
def clsN (c : Str) : Option String := if c = "int" then some "int" else if c = "bool" then some "bool" else if c = "str" then some "str" else if c = "tuple" then some "tuple" else if c = "list" then some "list" else if c = "dict" then some "dict" else none
def subN (a b : String) : Bool := a == b || (a == "bool" && b == "int")
def isKind (d : D) (c : Str) : Option Bool := (kindN d).bind fun a => (clsN c).map fun b => subN a b
def isKinds (d : D) : List Str → Option Bool
  | [] => some false
  | c :: cs => (isKind d c).bind fun b => (isKinds d cs).map fun r => b || r
def sIsinst (cs : List Str) (l : List D) : Option D := match l with
  | [d] => (isKinds d cs).map .bl
  | _ => none
def sLrange (l : List D) : Option D := match l with
  | ds => (range? ds).map .lst
def sLrev (l : List D) : Option D := match l with
  | [.lst ds] => some (.lst ds.reverse)
  | _ => none
def sGet1 (l : List D) : Option D := match l with
  | [.dic ks vs, k] => chk (keyOk ks k) ((lookD ks vs k).getD .non)
  | _ => none
def sGet2 (l : List D) : Option D := match l with
  | [.dic ks vs, k, x] => chk (keyOk ks k) ((lookD ks vs k).getD x)
  | _ => none
def sJoin (l : List D) : Option D := match l with
  | [.str s, .lst ds] => (strsOf ds).bind fun xs => chk (decide ((xs.map (·.length)).sum + xs.length * s.length ≤ lim)) (.str (Str.join s xs))
  | [.str s, .tup ds] => (strsOf ds).bind fun xs => chk (decide ((xs.map (·.length)).sum + xs.length * s.length ≤ lim)) (.str (Str.join s xs))
  | _ => none
def sSplit (l : List D) : Option D := match l with
  | [.str x, .str s] => match s.cps.toList with
    | [c] => chk (decide (x.cps.size + 2 ≤ lim)) (.lst ((splitC c [] x.cps.toList).map fun l => .str ⟨l.toArray⟩))
    | _ => none
  | _ => none
def sStarts (l : List D) : Option D := match l with
  | [.str x, .str y] => some (.bl (isPre y.cps.toList x.cps.toList))
  | _ => none
def sEnds (l : List D) : Option D := match l with
  | [.str x, .str y] => some (.bl (isPre y.cps.toList.reverse x.cps.toList.reverse))
  | _ => none
def sIndex (l : List D) : Option D := match l with
  | [d, x] => (items? d).bind fun ds => if x.plain && D.plains ds then (firstIx x 0 ds).map fun k => .int k else none
  | _ => none
def sCount (l : List D) : Option D := match l with
  | [.lst ds, x] => chk (x.plain && D.plains ds) (.int ((ds.filter fun d => D.eqv d x).length))
  | [.tup ds, x] => chk (x.plain && D.plains ds) (.int ((ds.filter fun d => D.eqv d x).length))
  | _ => none
def sFstr (l : List D) : Option D := match l with
  | ds => (fmts ds).bind fun xs => chk (decide (totalS xs ≤ lim)) (.str (catS xs))
def P.sem (sup : Str → List Str) (p : P) (l : List D) : Option D := match p with
  | .add => sAdd l
  | .sub => sSub l
  | .mul => sMul l
  | .fdiv => sFdiv l
  | .mod => sMod l
  | .pow => sPow l
  | .shl => sShl l
  | .shr => sShr l
  | .band => sBand l
  | .bor => sBor l
  | .neg => sNeg l
  | .eq => sEq l
  | .ne => sNe l
  | .lt => sLt l
  | .le => sLe l
  | .gt => sGt l
  | .ge => sGe l
  | .isN => sIsN l
  | .notN => sNotN l
  | .isT => sIsT l
  | .isF => sIsF l
  | .notT => sNotT l
  | .in_ => sIn l
  | .nin => sNin l
  | .idx => sIdx l
  | .slc false false => sSlcFF l
  | .slc true false => sSlcTF l
  | .slc false true => sSlcFT l
  | .slc true true => sSlcTT l
  | .rev => sRev l
  | .len => sLen l
  | .abs => sAbs l
  | .max => sMax l
  | .min => sMin l
  | .sum => sSum l
  | .all => sAll l
  | .any => sAny l
  | .sorted => sSorted l
  | .sset => sSset l
  | .lset => sLset l
  | .list => sList l
  | .tuple => sTuple l
  | .dict => sDict l
  | .zipd => sZipd l
  | .lzip => sLzip l
  | .lvals => sLvals l
  | .litems => sLitems l
  | .lkeys => sLkeys l
  | .int => sInt l
  | .bool => sBool l
  | .str => sStr l
  | .isinst cs => sIsinst cs l
  | .lrange => sLrange l
  | .lrev => sLrev l
  | .get1 => sGet1 l
  | .get2 => sGet2 l
  | .join => sJoin l
  | .split => sSplit l
  | .starts => sStarts l
  | .ends => sEnds l
  | .index => sIndex l
  | .count => sCount l
  | .fstr => sFstr l
  | .repr => none
  | .lower => none
  | .upper => none
  | .replace => none
/-- the answer may hold parts of what it is given -/
def P.keeps : P → Bool
  | .add | .mul | .idx | .slc .. | .rev | .max | .min | .sorted | .sset | .list | .tuple | .dict | .zipd | .lzip | .lvals | .litems | .lkeys | .lrev | .get1 | .get2 => true
  | _ => false
/-- makes a new list or dict -/
def P.made : P → Bool
  | .add | .mul | .slc .. | .rev | .sorted | .list | .dict | .lrange | .lrev | .sset | .split | .zipd | .lzip | .lvals | .litems | .lkeys => true
  | _ => false

/-! ## changes -/
inductive M where
  | append | extend | insert | pop0 | popAt | remove | setI | update | popK | popKd | sdef | augI (p : P) | setA (c f : Str) | augA (f : Str) (p : P) | delK | sdefApp
  deriving DecidableEq, Inhabited
def eraseAt (l : List α) (k : Nat) : List α := l.eraseIdx k
/-- the changed thing and the answer -/
def M.sem (sup : Str → List Str) (m : M) (t : OT) (as : List OT) : Option (OT × OT) := match m, t, as with
  | .append, .lst ts, [a] => if ts.length < lim then some (.lst (ts ++ [a]), .leaf .non) else none
  | .extend, .lst ts, [a] => (items? a.frz).bind fun ds => if ts.length + ds.length ≤ lim then some (.lst (ts ++ leafs ds), .leaf .non) else none
  | .insert, .lst ts, [i, a] => match i with
    | .leaf (.int i) => if ts.length < lim ∧ okR i = true then (let k := clampI ts.length 0 (some i); some (.lst (ts.take k ++ a :: ts.drop k), .leaf .non)) else none
    | _ => none
  | .pop0, .lst ts, [] => match ts.getLast? with
    | some t => some (.lst ts.dropLast, t)
    | none => none
  | .popAt, .lst ts, [.leaf (.int i)] => if ts.length ≤ lim then (ixOf i ts.length).bind fun k => (ts[k]?).map fun t => (.lst (ts.eraseIdx k), t) else none
  | .popK, .dic ks ts, [.leaf k] => if keyOk ks k then (lookD ks ts k).map fun t => (let r := delD ks ts k; (.dic r.1 r.2, t)) else none
  | .popKd, .dic ks ts, [.leaf k, d] => if keyOk ks k then match lookD ks ts k with
    | some t => let r := delD ks ts k; some (.dic r.1 r.2, t)
    | none => some (.dic ks ts, d)
    else none
  | .delK, .dic ks ts, [.leaf k] => if keyOk ks k then (lookD ks ts k).map fun _ => (let r := delD ks ts k; (.dic r.1 r.2, .leaf .non)) else none
  | .remove, .lst ts, [.leaf x] => if x.plain && D.plains (OT.frzs ts) && ts.all OT.isLeaf then (firstIx x 0 (OT.frzs ts)).map fun k => (.lst (ts.eraseIdx k), .leaf .non) else none
  | .setI, .lst ts, [.leaf (.int i), a] => (ixOf i ts.length).map fun k => (.lst (ts.set k a), .leaf .non)
  | .setI, .dic ks ts, [.leaf k, a] => if keyOk ks k && decide (ks.length < lim) then (let r := putD ks ts k a; some (.dic r.1 r.2, .leaf .non)) else none
  | .update, .dic ks ts, [a] => match a.frz with
    | .dic ks' vs => (putAll ks ts (ks'.zip (leafs vs))).bind fun r => if r.1.length ≤ lim then some (.dic r.1 r.2, .leaf .non) else none
    | _ => none
  | .sdef, .dic ks ts, [.leaf k, a] => if keyOk ks k && decide (ks.length < lim) then match lookD ks ts k with
    | some t => if t.isLeaf then some (.dic ks ts, t) else none
    | none => if a.isLeaf then (let r := putD ks ts k a; some (.dic r.1 r.2, a)) else none
    else none
  | .sdefApp, .dic ks ts, [.leaf k, a] => if keyOk ks k && decide (ks.length < lim) then match lookD ks ts k with
    | some (.lst us) => if us.length < lim then (let r := putD ks ts k (.lst (us ++ [a])); some (.dic r.1 r.2, .leaf .non)) else none
    | none => (let r := putD ks ts k (.lst [a]); some (.dic r.1 r.2, .leaf .non))
    | _ => none
    else none
  | .augI p, .lst ts, [.leaf (.int i), a] => (ixOf i ts.length).bind fun k => match ts[k]? with
    | some (.leaf d) => (p.sem sup [d, a.frz]).bind fun r => match r with
      | .int j => some (.lst (ts.set k (.leaf (.int j))), .leaf .non)
      | .str j => some (.lst (ts.set k (.leaf (.str j))), .leaf .non)
      | _ => none
    | _ => none
  | .augI p, .dic ks ts, [.leaf k, a] => if keyOk ks k then match lookD ks ts k with
    | some (.leaf d) => (p.sem sup [d, a.frz]).bind fun r => match r with
      | .int j => (let r := putD ks ts k (.leaf (.int j)); some (.dic r.1 r.2, .leaf .non))
      | _ => none
    | _ => none
    else none
  | .setA k f, .ins c ns ts, [a] => if ns.length < 900 ∧ k = c then (let r := putN ns ts f a; some (.ins c r.1 r.2, .leaf .non)) else none
  | .augA f p, .ins c ns ts, [a] => match lookN ns ts f with
    | some (.leaf d) => (p.sem sup [d, a.frz]).bind fun r => match r with
      | .int j => (let r := putN ns ts f (.leaf (.int j)); some (.ins c r.1 r.2, .leaf .non))
      | _ => none
    | _ => none
  | _, _, _ => none

/-! ## the language -/
inductive Tg where
  | nm (i : Nat) | tup (ts : List Tg)
  deriving Inhabited
mutual
inductive E where
  | cst (d : D)
  | pl (i : Nat) (st : List Sp)
  | tup (es : List E) | lst (keep : Bool) (es : List E) | dic (keep : Bool) (es : List E) | dicS (keep : Bool) (a : E) (es : List E)
  | star (e : E)
  | prim (p : P) (es : List E)
  | chain (p q : P) (a b c : E)
  | and_ (es : List E) | or_ (es : List E) | not_ (a : E)
  | ife (c a b : E)
  | attr (e : E) (f : Str)
  | call (f : Str) (as : List E)
  | meth (c m : Str) (r : E) (as : List E)
  | new (frz : Bool) (c : Str) (as : List E)
  | newx (c : Str) (as : List E)
  | tcall (fs : List Str) (ix : E) (as : List E)
  | mut (m : M) (keep : Bool) (i : Nat) (st : List Sp) (as : List E)
  | lcomp (keep : Bool) (own : List Nat) (elt : E) (gs : List Gen)
  | dcomp (keep : Bool) (own : List Nat) (k v : E) (gs : List Gen)
  | bor (i : Nat) (st : List Sp)
  | scal (e : E) | mv (e : E)
inductive Sp where
  | attr (f : Str) | idx (e : E)
inductive Gen where
  | mk (tg : Tg) (it : It) (ifs : List E)
inductive It where
  | seq (e : E) | range (es : List E) | zip (es : List E) | enum (it : It) | items (e : E) | vals (e : E)
end
instance : Inhabited E := ⟨.cst .non⟩
instance : Inhabited It := ⟨.seq default⟩
instance : Inhabited Gen := ⟨.mk default default []⟩
inductive LV where
  | nm (t : Tg) | at (m : M) (i : Nat) (st : List Sp) (ix : List E)
  deriving Inhabited
inductive S where
  | skip | seq (a b : S)
  | asg (t : Tg) (e : E)
  | asgN (is : List Nat) (es : List E)
  | aug (i : Nat) (p : P) (e : E)
  | sto (keep : Bool) (l : LV) (e : E)
  | stos (ls : List LV) (e : E)
  | augS (m : M) (i : Nat) (st : List Sp) (ix : List E) (e : E)
  | ex (e : E)
  | ite (c : E) (a b : S)
  | whl (kill : List Nat) (c : E) (b : S)
  | for_ (kill : List Nat) (t : Tg) (it : It) (b : S)
  | ret (e : E) | retIx (i : Nat) (e : E) | retN
  | brk | cnt
  | raise (c : Str) (as : List E)
  | tryF (b : S) (c : Str) (i : Nat) (fs : List Str)
  | try_ (b : S) (cs : List Str) (i : Option Nat) (h : S) (more : List (List Str × Option Nat × S))
  deriving Inhabited

def E.isTup : E → Bool
  | .tup _ => true
  | _ => false
mutual
/-- nothing that stands is changed -/
def E.pure : E → Bool
  | .cst _ => true
  | .pl _ st => Sp.pures st
  | .tup es => E.pures es
  | .lst _ es => E.pures es
  | .dic _ es => E.pures es
  | .dicS _ a es => a.pure && E.pures es
  | .star e => e.pure
  | .prim _ es => E.pures es
  | .chain _ _ a b c => a.pure && b.pure && c.pure
  | .and_ es => E.pures es
  | .or_ es => E.pures es
  | .not_ a => a.pure
  | .ife c a b => c.pure && a.pure && b.pure
  | .attr e _ => e.pure
  | .lcomp _ _ e gs => e.pure && Gen.pures gs
  | .dcomp _ _ k v gs => k.pure && v.pure && Gen.pures gs
  | .scal e => e.pure
  | _ => false
def E.pures : List E → Bool
  | [] => true
  | e :: es => e.pure && E.pures es
def Sp.pures : List Sp → Bool
  | [] => true
  | .attr _ :: r => Sp.pures r
  | .idx e :: r => e.pure && Sp.pures r
def Gen.pures : List Gen → Bool
  | [] => true
  | .mk _ it ifs :: r => it.pure && E.pures ifs && Gen.pures r
def It.pure : It → Bool
  | .seq e => e.pure
  | .range es => E.pures es
  | .zip es => E.pures es
  | .enum it => it.pure
  | .items e => e.pure
  | .vals e => e.pure
end

structure G where
  fn : Str → List OT → FR
  sup : Str → List Str
  w : Nat

/-! ## slots read and stored -/
def getS (S : SS) (i : Nat) : Sl := match S[i]? with
  | some s => s
  | none => .un
def peekT (fl : Bool) (S : SS) : Option OT → R D
  | some u => if !fl || u.flat then .ok u.frz S else .bad
  | none => .bad
def peek (fl : Bool) (S : SS) (i : Nat) (ps : List Pst) : R D := match getS S i with
  | .own t => peekT fl S (t.getP ps)
  | _ => .bad
def takeT (S : SS) (i : Nat) (ps : List Pst) : Option OT → R OT
  | some (.leaf d) => .ok (.leaf d) S
  | some u => match ps with
    | [] => .ok (.leaf u.frz) (S.set i (.own (.leaf u.frz)))
    | _ => .bad
  | none => .bad
/-- a name as a value: what it owns is not changed any more -/
def take (S : SS) (i : Nat) (ps : List Pst) : R OT := match getS S i with
  | .own t => takeT S i ps (t.getP ps)
  | _ => .bad
mutual
def setT : Tg → D → SS → Option SS
  | .nm i, d, S => if i < S.length then some (S.set i (.own (.leaf d))) else none
  | .tup ts, d, S => match d with
    | .tup ds => setTs ts ds S
    | _ => none
def setTs : List Tg → List D → SS → Option SS
  | [], [], S => some S
  | t :: ts, d :: ds, S => (setT t d S).bind fun S' => setTs ts ds S'
  | _, _, _ => none
end
def wipeS (S : SS) : List Nat → SS
  | [] => S
  | i :: is => (wipeS S is).set i .un
def backS (S0 S : SS) : List Nat → SS
  | [] => S
  | i :: is => (backS S0 S is).set i (getS S0 i)
def loopR (f : D → β → SS → R β) : List D → β → SS → R β
  | [], b, S => .ok b S
  | d :: ds, b, S => (f d b S).bind fun b' S' => loopR f ds b' S'
def loopS (kill : List Nat) (f : D → SS → Fl) : List D → SS → Fl
  | [], S => .nx S
  | d :: ds, S => match f d S with
    | .nx S' => loopS kill f ds (wipeS S' kill)
    | .cnt S' => loopS kill f ds (wipeS S' kill)
    | .brk S' => .nx S'
    | r => r
def whileS (kill : List Nat) (c : SS → R Bool) (f : SS → Fl) : Nat → SS → Fl
  | 0, _ => .bad
  | n + 1, S => match c S with
    | .ok true S1 => match f S1 with
      | .nx S' => whileS kill c f n (wipeS S' kill)
      | .cnt S' => whileS kill c f n (wipeS S' kill)
      | .brk S' => .nx S'
      | r => r
    | .ok false S1 => .nx S1
    | .exc x S1 => .exc x S1
    | .bad => .bad
def keepT (k : Bool) (t : OT) : OT := match k with
  | true => t
  | false => .leaf t.frz
def R.frz (r : R OT) : R D := r.bind fun t S => .ok t.frz S
/-- an iterable's items -/
def iterD : D → Option (List D)
  | .scr is => some (is.map .int)
  | .tup ds => some ds
  | .lst ds => some ds
  | .str x => if x.cps.size ≤ lim then some (signs x) else none
  | _ => none
def R.opt (S : SS) : Option α → R α
  | some a => .ok a S
  | none => .bad
/-- arguments of a call: values, or places that are lent -/
inductive AV where
  | val (t : OT) | bor (i : Nat) (ps : List Pst)
def lend (S : SS) : List AV → Option (List OT)
  | [] => some []
  | .val t :: r => (lend S r).map (t :: ·)
  | .bor i _ :: r => match getS S i with
    | .own t => (lend S r).map (t :: ·)
    | .un => none
def giveBack (S : SS) : List AV → List (Option OT) → Option SS
  | [], [] => some S
  | .val _ :: r, _ :: ts => giveBack S r ts
  | .bor i _ :: r, some u :: ts => giveBack (S.set i (.own u)) r ts
  | _, _ => none
def lents : List AV → List Nat
  | [] => []
  | .val _ :: r => lents r
  | .bor i _ :: r => i :: lents r
def lentTwice (as : List AV) : Bool := !decide (lents as).Nodup
def doCall (g : G) (f : Str) (as : List AV) (S : SS) : R OT :=
  if lentTwice as then .bad else
  match lend S as with
  | none => .bad
  | some ts => match g.fn f ts with
    | .ok t ps => match giveBack S as ps with
      | some S' => .ok t S'
      | none => .bad
    | .exc x ps => match giveBack S as ps with
      | some S' => .exc x S'
      | none => .bad
    | .bad => .bad
def clsOf : OT → Option Str
  | .ins c _ _ => some c
  | .leaf (.ins c _ _) => some c
  | _ => none
def methName (c m : Str) : Str := ⟨c.cps ++ #[46] ++ m.cps⟩
def initName : Str := Str.ofString "__init__"
def recvCls (S : SS) : List AV → Option Str
  | .val t :: _ => clsOf t
  | .bor i ps :: _ => match getS S i with
    | .own t => (t.getP ps).bind clsOf
    | .un => none
  | [] => none
/-- a mutation at a place -/
def doMut (sup : Str → List Str) (m : M) (S : SS) (i : Nat) (ps : List Pst) (as : List OT) : R OT := match getS S i with
  | .own t => match t.getP ps with
    | some u => match m.sem sup u as with
      | some (u', r) => match t.putP ps u' with
        | some t' => .ok r (S.set i (.own t'))
        | none => .bad
      | none => .bad
    | none => .bad
  | _ => .bad

/-! ## what the language says -/
/-- how an expression stands in a list of such -/
inductive Kd where
  | plain | star | moved | lent (i : Nat) (sp : SS → R (List Pst))
/-- v: its value; o: as an operand, a name only looked at; t: as a test -/
structure Den where
  v : SS → R OT
  o : Bool → SS → R D
  t : SS → R Bool
  k : Kd
  p : Bool
def Den.of (p : Bool) (v : SS → R OT) : Den where
  v := v
  o := fun _ S => (v S).frz
  t := fun S => (v S).frz.bind fun d S1 => .opt S1 d.truth
  k := .plain
  p := p
def vBad : SS → R OT := fun _ => .bad
def dPl (i : Nat) (p : Bool) (sp : SS → R (List Pst)) : Den where
  v := fun S => (sp S).bind fun ps S1 => take S1 i ps
  o := fun fl S => (sp S).bind fun ps S1 => peek fl S1 i ps
  t := fun S => ((sp S).bind fun ps S1 => peek false S1 i ps).bind fun d S2 => .opt S2 d.truth
  k := .plain
  p := p
def allP : List Den → Bool
  | [] => true
  | d :: ds => d.p && allP ds
def evOs (fl : Bool) : List Den → SS → R (List D)
  | [], S => .ok [] S
  | e :: es, S => (e.o fl S).bind fun d S1 => (evOs fl es S1).bind fun ds S2 => .ok (d :: ds) S2
def ownB (S : SS) (i : Nat) : Bool := match getS S i with
  | .own _ => true
  | _ => false
/-- what stands in a row of expressions: (is it a star's, what) -/
def evA (keep : Bool) : List Den → SS → R (List (Bool × AV))
  | [], S => .ok [] S
  | e :: es, S => match e.k with
    | .lent i sp => (sp S).bind fun ps S1 => if ownB S1 i then (evA keep es S1).bind fun vs S2 => .ok ((false, .bor i ps) :: vs) S2 else .bad
    | .star => (e.v S).bind fun t S1 => (R.opt S1 (items? t.frz)).bind fun _ S1 => (evA keep es S1).bind fun vs S2 => .ok ((true, .val (.leaf t.frz)) :: vs) S2
    | .moved => (e.v S).bind fun t S1 => (evA keep es S1).bind fun vs S2 => .ok ((false, .val t) :: vs) S2
    | .plain => (e.v S).bind fun t S1 => (evA keep es S1).bind fun vs S2 => .ok ((false, .val (keepT keep t)) :: vs) S2
/-- values alone -/
def valsA : List (Bool × AV) → Option (List OT)
  | [] => some []
  | (false, .val t) :: r => (valsA r).map (t :: ·)
  | _ => none
/-- stars spread -/
def spreadA : List (Bool × AV) → Option (List AV)
  | [] => some []
  | (false, a) :: r => (spreadA r).map (a :: ·)
  | (true, .val t) :: r => (items? t.frz).bind fun ds => (spreadA r).map (ds.map (fun d => .val (.leaf d)) ++ ·)
  | _ => none
def ownsA : List AV → Option (List OT)
  | [] => some []
  | .val t :: r => (ownsA r).map (t :: ·)
  | _ => none
def pairUp : List OT → Option (List (D × OT))
  | [] => some []
  | k :: v :: r => (pairUp r).map ((k.frz, v) :: ·)
  | _ => none
def evMs (keep : Bool) (es : List Den) (S : SS) : R (List OT) := (evA keep es S).bind fun r S1 => .opt S1 (valsA r)
def evFs (es : List Den) (S : SS) : R (List D) := (evA false es S).bind fun r S1 => .opt S1 ((valsA r).map OT.frzs)
def evAs (es : List Den) (S : SS) : R (List AV) := (evA false es S).bind fun r S1 => .opt S1 (spreadA r)
def evAnd : List Den → SS → R OT
  | [], _ => .bad
  | [e], S => e.v S
  | e :: es, S => (e.v S).bind fun t S1 => (R.opt S1 t.frz.truth).bind fun b S1 => if b then evAnd es S1 else .ok (.leaf t.frz) S1
def evOr : List Den → SS → R OT
  | [], _ => .bad
  | [e], S => e.v S
  | e :: es, S => (e.v S).bind fun t S1 => (R.opt S1 t.frz.truth).bind fun b S1 => if b then .ok (.leaf t.frz) S1 else evOr es S1
def evTand : List Den → SS → R Bool
  | [], S => .ok true S
  | e :: es, S => (e.t S).bind fun b S1 => if b then evTand es S1 else .ok false S1
def evTor : List Den → SS → R Bool
  | [], S => .ok false S
  | e :: es, S => (e.t S).bind fun b S1 => if b then .ok true S1 else evTor es S1
/-- an operand: looked at where all are pure, a frozen value else -/
def evQ (pu fl : Bool) (e : Den) (S : SS) : R D := match pu with
  | true => e.o fl S
  | false => (e.v S).frz
def evL (pu fl : Bool) : List Den → SS → R (List D)
  | [], S => .ok [] S
  | e :: es, S => (evQ pu fl e S).bind fun d S1 => (evL pu fl es S1).bind fun ds S2 => .ok (d :: ds) S2
def endP (g : G) (p : P) (ds : List D) (S : SS) : R OT := (R.opt S (p.sem g.sup ds)).bind fun d S1 => .ok (if p.made then d.fresh else .leaf d) S1
def dPrim (g : G) (p : P) (es : List Den) : Den := .of (allP es) fun S => (evL (allP es) p.keeps es S).bind (endP g p)
/-- an f-string's parts, one behind another -/
def evF (pu : Bool) (acc : Str) : List Den → SS → R OT
  | [], S => .ok (.leaf (.str acc)) S
  | e :: es, S => (evQ pu false e S).bind fun d S1 => (R.opt S1 ((fmt1 d).bind fun y => if y.cps.size ≤ lim ∧ acc.cps.size + y.cps.size ≤ lim then some y else none)).bind fun y S1 => evF pu ⟨acc.cps ++ y.cps⟩ es S1
def dFstr (es : List Den) : Den := .of (allP es) (evF (allP es) ⟨#[]⟩ es)
/-- d.get(k, x), all of it pure -/
def dGet2 (e a b : Den) : Den := .of (e.p && (a.p && b.p)) fun S => if e.p && (a.p && b.p) then (e.o true S).bind fun d S1 => match d with
    | .dic ks vs => (a.o true S1).bind fun k S2 => (b.v S2).frz.bind fun x S3 => .opt S3 (if keyOk ks k then some (.leaf ((lookD ks vs k).getD x)) else none)
    | _ => .bad
  else .bad
def dChain (g : G) (p q : P) (a b c : Den) : Den := .of (a.p && (b.p && c.p)) fun S => if a.p && (b.p && c.p) then
      (a.o false S).bind fun x S1 => (b.o false S1).bind fun y S2 => (R.opt S2 (p.sem g.sup [x, y])).bind fun r S2 => match r with
        | .bl true => (c.o false S2).bind fun z S3 => (R.opt S3 (q.sem g.sup [y, z])).bind fun r S3 => .ok (.leaf r) S3
        | .bl false => .ok (.leaf (.bl false)) S2
        | _ => .bad
    else .bad
def dAnd (es : List Den) : Den := { Den.of (allP es) (evAnd es) with t := evTand es }
def dOr (es : List Den) : Den := { Den.of (allP es) (evOr es) with t := evTor es }
def dNot (a : Den) : Den := { Den.of a.p (fun S => (a.o false S).bind fun d S1 => (R.opt S1 d.truth).bind fun b S1 => .ok (.leaf (.bl (!b))) S1) with t := fun S => (a.t S).bind fun b S1 => .ok (!b) S1 }
def dIfe (c a b : Den) : Den := { Den.of (c.p && (a.p && b.p)) (fun S => (c.t S).bind fun t S1 => if t then a.v S1 else b.v S1) with t := fun S => (c.t S).bind fun t S1 => if t then a.t S1 else b.t S1 }
def dTup (es : List Den) : Den := .of (allP es) fun S => (evAs es S).bind fun bs S1 => .opt S1 ((ownsA bs).bind fun ts => if ts.length ≤ lim then some (.leaf (.tup (OT.frzs ts))) else none)
def dLst (keep : Bool) (es : List Den) : Den := .of (allP es) fun S => (evA keep es S).bind fun r S1 => .opt S1 ((spreadA r).bind fun bs => (ownsA bs).bind fun ts => if ts.length ≤ lim then some (.lst ts) else none)
def dDic (keep : Bool) (es : List Den) : Den := .of (allP es) fun S => (evMs keep es S).bind fun ts S1 => .opt S1 ((pairUp ts).bind fun kvs => (putAll [] [] kvs).map fun r => .dic r.1 r.2)
/-- {**a, k: v} -/
def dDicS (keep : Bool) (a : Den) (es : List Den) : Den := .of (a.p && allP es) fun S => (a.v S).bind fun t S1 => (evMs keep es S1).bind fun ts S2 => match t.frz with
  | .dic ks vs => .opt S2 ((pairUp ts).bind fun kvs => (putAll ks (leafs vs) kvs).map fun r => .dic r.1 r.2)
  | _ => .bad
def dAttr (e : Den) (f : Str) : Den := .of e.p fun S => (e.v S).bind fun t S1 => .opt S1 ((t.frz.get (.attr f)).map .leaf)
def dCall (g : G) (f : Str) (as : List Den) : Den := .of false fun S => (evAs as S).bind fun vs S1 => doCall g f vs S1
/-- [f, g, ..][i](..) -/
def dTcall (g : G) (fs : List Str) (ix : Den) (as : List Den) : Den := .of false fun S => if ix.p then (ix.o false S).bind fun d S1 => match d with
    | .int i => match atL fs i with
      | some f => (evAs as S1).bind fun vs S2 => doCall g f vs S2
      | none => .bad
    | _ => .bad
  else .bad
/-- an instance of that class, no attribute of the method's name -/
def recvOk (c m : Str) : OT → Bool
  | .ins k ns _ => decide (k = c) && !ns.contains m
  | .leaf (.ins k ns _) => decide (k = c) && !ns.contains m
  | _ => false
def dMeth (g : G) (c m : Str) (r : Den) (as : List Den) : Den := .of false fun S => match r.k with
  | .lent i _ => match getS S i with
    | .own t => if recvOk c m t then (evAs as S).bind fun vs S1 => doCall g (methName c m) (.bor i [] :: vs) S1 else .bad
    | .un => .bad
  | _ => (r.v S).bind fun t S1 => if recvOk c m t then (evAs as S1).bind fun vs S2 => doCall g (methName c m) (.val (.leaf t.frz) :: vs) S2 else .bad
def doNew (g : G) (c : Str) (as : List AV) (S : SS) : R OT :=
  if lentTwice as then .bad else
  match lend S as with
  | none => .bad
  | some ts => match g.fn (methName c initName) (.ins c [] [] :: ts) with
    | .ok (.leaf .non) (some o :: ps) => match giveBack S as ps with
      | some S' => .ok o S'
      | none => .bad
    | .exc x (_ :: ps) => match giveBack S as ps with
      | some S' => .exc x S'
      | none => .bad
    | _ => .bad
def dNew (g : G) (frz : Bool) (c : Str) (as : List Den) : Den := .of false fun S => (evAs as S).bind fun vs S1 => (doNew g c vs S1).bind fun o S2 => .ok (keepT (!frz) o) S2
def dNewx (c : Str) (as : List Den) : Den := .of false fun S => (evFs as S).bind fun ds S1 => match ds with
    | [d] => .ok (.leaf (.exn c [Str.ofString "at"] [d])) S1
    | _ => .bad
/-- the thing is of the kind that has the method -/
def M.fits : M → OT → Bool
  | .append, .lst _ => true
  | .pop0, .lst _ => true
  | .popAt, .lst _ => true
  | _, _ => false
def dMut (g : G) (m : M) (keep : Bool) (i : Nat) (as : List Den) : Den := .of false fun S => match getS S i with
  | .own t => if m.fits t then (evMs keep as S).bind fun ts S2 => doMut g.sup m S2 i [] ts else .bad
  | .un => .bad
def D.scalar : D → Bool
  | .non | .bl _ | .int _ | .str _ => true
  | _ => false
/-- a value that keeps nothing: what was lent to find it is owned as before -/
def dScal (e : Den) : Den := .of e.p fun S => match e.v S with
  | .ok (.leaf d) S1 => if d.scalar then .ok (.leaf d) S else .ok (.leaf d) S1
  | r => r
structure GenD where
  tg : Tg
  it : SS → R (List D)
  ifs : List Den
def evIfs : List Den → SS → R Bool
  | [], S => .ok true S
  | c :: cs, S => (c.t S).bind fun b S1 => if b then evIfs cs S1 else .ok false S1
/-- one clause, then what follows -/
def clause (gd : GenD) (own : List Nat) (k : β → SS → R β) (acc : β) (S : SS) : R β := (gd.it S).bind fun ds S1 =>
  loopR (fun d acc T => match setT gd.tg d (wipeS T own) with
    | none => .bad
    | some T1 => (evIfs gd.ifs T1).bind fun b T2 => if b then k acc T2 else .ok acc T2) ds acc S1
def clauses (k : β → SS → R β) : List GenD → β → SS → R β
  | [] => k
  | gd :: gs => clause gd [] (clauses k gs)
def addL (keep : Bool) (e : Den) (acc : List OT) (S : SS) : R (List OT) := (e.v S).bind fun t S1 => .ok (acc ++ [keepT keep t]) S1
def kindT : Bool → Nat
  | true => 2
  | false => 1
def addD (tk keep : Bool) (k v : Den) (acc : List D × List OT) (S : SS) : R (List D × List OT) :=
  (k.v S).bind fun kd S1 => (v.v S1).bind fun t S2 => if keyK kd.frz = kindT tk ∧ acc.1.length < lim then .ok (putD acc.1 acc.2 kd.frz (keepT keep t)) S2 else .bad
def allG : List GenD → Bool
  | [] => true
  | g :: gs => allP g.ifs && allG gs
/-- nothing may be raised there -/
def noX (r : R α) : R α := match r with
  | .exc .. => .bad
  | r => r
/-- a leaf is as it was ahead; all else is forgotten -/
def backL (S T : SS) : List Nat → SS
  | [] => T
  | i :: is => (backL S T is).set i (match getS S i with
    | .own (.leaf d) => .own (.leaf d)
    | _ => .un)
/-- one turn of a block -/
def turnL (keep : Bool) (gd : GenD) (e : Den) (d : D) (acc : List OT) (T : SS) : R (List OT) := match setT gd.tg d T with
  | none => .bad
  | some T1 => noX ((evIfs gd.ifs T1).bind fun b T2 => if b then (e.v T2).bind fun t T3 => if acc.length < lim then .ok (acc ++ [keepT keep t]) T3 else .bad else .ok acc T2)
/-- the turns, the block's names forgotten behind each -/
def loopW (own : List Nat) (f : D → β → SS → R β) : List D → β → SS → R β
  | [], b, S => .ok b S
  | d :: ds, b, S => (f d b S).bind fun b' S' => loopW own f ds b' (wipeS S' own)
def dLcomp (p keep : Bool) (own : List Nat) (e : Den) (gs : List GenD) : Den := .of p fun S => match gs with
  | [gd] => (gd.it S).bind fun ds S1 => (loopW own (turnL keep gd e) ds [] (wipeS S1 own)).bind fun acc T => .ok (.lst acc) (backL S1 T own)
  | _ => .bad
def turnD (tk keep : Bool) (gd : GenD) (k v : Den) (d : D) (acc : List D × List OT) (T : SS) : R (List D × List OT) := match setT gd.tg d T with
  | none => .bad
  | some T1 => noX ((evIfs gd.ifs T1).bind fun b T2 => if b then addD tk keep k v acc T2 else .ok acc T2)
/-- tk: the key is written as a tuple -/
def dDcomp (p tk keep : Bool) (own : List Nat) (k v : Den) (gs : List GenD) : Den := .of p fun S => match gs with
  | [gd] => (gd.it S).bind fun ds S1 => (loopW own (turnD tk keep gd k v) ds ([], []) (wipeS S1 own)).bind fun acc T => .ok (.dic acc.1 acc.2) (backL S1 T own)
  | _ => .bad
def iSeq (pu : Bool) (e : Den) : SS → R (List D) := fun S => (evQ pu true e S).bind fun d S1 => .opt S1 (iterD d)
def iRange (pu : Bool) (es : List Den) : SS → R (List D) := fun S => (evL pu true es S).bind fun ds S1 => .opt S1 (range? ds)
def zips : List D → Option (List D)
  | [.tup a, .tup b] => some (zip2 a b)
  | [.lst a, .lst b] => some (zip2 a b)
  | _ => none
def iZip (pu : Bool) (es : List Den) : SS → R (List D) := fun S => (evL pu true es S).bind fun ds S1 => .opt S1 (zips ds)
def iEnum (it : SS → R (List D)) : SS → R (List D) := fun S => (it S).bind fun ds S1 => .ok (enumD 0 ds) S1
def itemsD : D → Option (List D)
  | .dic ks vs => some (zip2 ks vs)
  | _ => none
def valsD : D → Option (List D)
  | .dic _ vs => some vs
  | _ => none
def iItems (pu : Bool) (e : Den) : SS → R (List D) := fun S => (evQ pu true e S).bind fun d S1 => .opt S1 (itemsD d)
def iVals (pu : Bool) (e : Den) : SS → R (List D) := fun S => (evQ pu true e S).bind fun d S1 => .opt S1 (valsD d)

mutual
def den (g : G) : E → Den
  | .cst d => .of true fun S => .ok (.leaf d) S
  | .pl i st => dPl i (Sp.pures st) (dsp g st)
  | .tup es => dTup (dens g es)
  | .lst keep es => dLst keep (dens g es)
  | .dic keep es => dDic keep (dens g es)
  | .dicS keep a es => dDicS keep (den g a) (dens g es)
  | .star e => { den g e with k := .star }
  | .prim p es => match p with
    | .fstr => dFstr (dens g es)
    | .get2 => (match dens g es with | [d, a, b] => dGet2 d a b | _ => .of false vBad)
    | p => dPrim g p (dens g es)
  | .chain p q a b c => dChain g p q (den g a) (den g b) (den g c)
  | .and_ es => dAnd (dens g es)
  | .or_ es => dOr (dens g es)
  | .not_ a => dNot (den g a)
  | .ife c a b => dIfe (den g c) (den g a) (den g b)
  | .attr e f => dAttr (den g e) f
  | .call f as => dCall g f (dens g as)
  | .meth c m r as => dMeth g c m (den g r) (dens g as)
  | .new frz c as => dNew g frz c (dens g as)
  | .newx c as => dNewx c (dens g as)
  | .tcall fs ix as => dTcall g fs (den g ix) (dens g as)
  | .mut m keep i st as => match st with
    | [] => dMut g m keep i (dens g as)
    | _ => .of false vBad
  | .lcomp keep own e gs => dLcomp (e.pure && Gen.pures gs) keep own (den g e) (dgens g (e.pure && Gen.pures gs) gs)
  | .dcomp keep own k v gs => dDcomp (k.pure && (v.pure && Gen.pures gs)) k.isTup keep own (den g k) (den g v) (dgens g (k.pure && (v.pure && Gen.pures gs)) gs)
  | .bor i st => { Den.of false vBad with k := .lent i (dsp g st) }
  | .scal e => dScal (den g e)
  | .mv e => { den g e with k := .moved }
def dens (g : G) : List E → List Den
  | [] => []
  | e :: es => den g e :: dens g es
def dsp (g : G) : List Sp → SS → R (List Pst)
  | [] => fun S => .ok [] S
  | .attr f :: r => fun S => (dsp g r S).bind fun ps S1 => .ok (.attr f :: ps) S1
  | .idx e :: r => fun S => ((den g e).o true S).bind fun d S1 => (dsp g r S1).bind fun ps S2 => .ok (.at d :: ps) S2
def dgens (g : G) (pu : Bool) : List Gen → List GenD
  | [] => []
  | .mk tg it ifs :: gs => ⟨tg, dit g pu it, dens g ifs⟩ :: dgens g pu gs
def dit (g : G) (pu : Bool) : It → SS → R (List D)
  | .seq e => iSeq pu (den g e)
  | .range es => iRange pu (dens g es)
  | .zip es => iZip pu (dens g es)
  | .enum it => iEnum (dit g pu it)
  | .items e => iItems pu (den g e)
  | .vals e => iVals pu (den g e)
end

/-! ## statements -/
def Fl.seq (f : Fl) (k : SS → Fl) : Fl := match f with
  | .nx S => k S
  | f => f
def R.fl {α : Type} (r : R α) (k : α → SS → Fl) : Fl := match r with
  | .ok a S => k a S
  | .exc x S => .exc x S
  | .bad => .bad
mutual
/-- no lent name is in it -/
def Tg.free (br : List Nat) : Tg → Bool
  | .nm i => !br.contains i
  | .tup ts => Tg.frees br ts
def Tg.frees (br : List Nat) : List Tg → Bool
  | [] => true
  | t :: ts => t.free br && Tg.frees br ts
end
def setO (br : List Nat) (t : Tg) (u : OT) (S : SS) : Fl := if t.free br then (match t with
  | .nm i => if i < S.length then .nx (S.set i (.own u)) else .bad
  | .tup ts => match setT (.tup ts) u.frz S with
    | some S' => .nx S'
    | none => .bad) else .bad
def setN (br : List Nat) : List Nat → List OT → SS → Fl
  | [], [], S => .nx S
  | i :: is, u :: us, S => if i < S.length ∧ ¬ i ∈ is ∧ ¬ i ∈ br then setN br is us (S.set i (.own u)) else .bad
  | _, _, _ => .bad
/-- what is handed back: an own name's thing goes along -/
def moveOut (br : List Nat) (d : Den) (i : Option Nat) (S : SS) : R OT := match i with
  | none => d.v S
  | some i => if br.contains i then d.v S else match getS S i with
    | .own t => .ok t (S.set i .un)
    | _ => d.v S
/-- what is handed back out of an own list -/
def moveIx (br : List Nat) (i : Nat) (e : Den) (S : SS) : R OT := (e.v S).bind fun x S1 => match getS S1 i with
  | .own (.leaf d) => .opt S1 ((P.idx.sem (fun _ => []) [d, x.frz]).map .leaf)
  | .own t => if br.contains i then (peek true S1 i [.at x.frz]).bind fun d S2 => if d.scalar then .ok (.leaf d) S2 else .bad else match t.get (.at x.frz) with
    | some u => .ok u (S1.set i .un)
    | none => .bad
  | _ => .bad
def plainName : E → Option Nat
  | .pl i [] => some i
  | _ => none
def hits (sup : Str → List Str) (x : D) (cs : List Str) : Bool := match x with
  | .exn c _ _ => cs.any fun k => (sup c).contains k
  | _ => false
def catch1 (br : List Nat) (sup : Str → List Str) (x : D) (S : SS) (h : SS → Fl) (cs : List Str) (i : Option Nat) (no : Fl) : Fl :=
  if hits sup x cs then (match i with
    | none => h S
    | some i => if i < S.length ∧ ¬ i ∈ br then (match h (S.set i (.own (.leaf x))) with
      | .nx S' => .nx (S'.set i .un)
      | .brk S' => .brk (S'.set i .un)
      | .cnt S' => .cnt (S'.set i .un)
      | .ret t S' => .ret t (S'.set i .un)
      | f => f) else .bad) else no
/-- a store at a place -/
def stoAt (g : G) (m : M) (i : Nat) (sp : SS → R (List Pst)) (ix : List Den) (u : OT) (S : SS) : Fl :=
  (sp S).fl fun ps S1 => (evFs ix S1).fl fun ds S2 => (doMut g.sup m S2 i ps (leafs ds ++ [u])).fl fun _ S3 => .nx S3
def stoL (g : G) (br : List Nat) : LV → OT → SS → Fl
  | .nm t, u, S => setO br t u S
  | .at m i st ix, u, S => stoAt g m i (dsp g st) (dens g ix) u S
def stoLs (g : G) (br : List Nat) : List LV → List D → SS → Fl
  | [], [], S => .nx S
  | l :: ls, d :: ds, S => (stoL g br l (.leaf d) S).seq (stoLs g br ls ds)
  | _, _, _ => .bad
/-- except c as e: return [isinstance(e, f) for each f] -/
def flagsF (sup : Str → List Str) (c : Str) (i : Nat) (fs : List Str) (x : D) (S : SS) : Fl := match x with
  | .exn k [] ds => match (sup k).isEmpty with
    | true => .bad
    | false => match (sup k).contains c with
      | true => if i < S.length then .ret (.lst (fs.map fun f => .leaf (.bl ((sup k).contains f)))) S else .bad
      | false => .exc (.exn k [] ds) S
  | _ => .bad
mutual
def dS (g : G) (np : List Nat) : S → SS → Fl
  | .skip => fun S => .nx S
  | .seq a b => fun S => (dS g np a S).seq (dS g np b)
  | .asg t e => fun S => ((den g e).v S).fl fun u S1 => setO np t u S1
  | .asgN is es => fun S => (evMs true (dens g es) S).fl fun us S1 => setN np is us S1
  | .aug i p e => fun S => if np.contains i then .bad else ((den g (.pl i [])).o true S).fl fun x S1 => ((den g e).v S1).fl fun y S2 => match p.sem g.sup [x, y.frz] with
    | some (.int r) => .nx (S2.set i (.own (.leaf (.int r))))
    | some (.str r) => .nx (S2.set i (.own (.leaf (.str r))))
    | _ => .bad
  | .sto keep l e => fun S => ((den g e).v S).fl fun u S1 => stoL g np l (keepT keep u) S1
  | .stos ls e => fun S => ((den g e).v S).fl fun u S1 => match u.frz with
    | .tup ds => stoLs g np ls ds S1
    | _ => .bad
  | .augS m i st ix e => fun S => (dsp g st S).fl fun ps S1 => (evFs (dens g ix) S1).fl fun ds S2 => ((den g e).v S2).fl fun u S3 => (doMut g.sup m S3 i ps (leafs ds ++ [.leaf u.frz])).fl fun _ S4 => .nx S4
  | .ex e => fun S => ((den g e).v S).fl fun _ S1 => .nx S1
  | .ite c a b => fun S => ((den g c).t S).fl fun t S1 => if t then dS g np a S1 else dS g np b S1
  | .whl kill c b => fun S => whileS kill (den g c).t (dS g np b) g.w (wipeS S kill)
  | .for_ kill t it b => fun S => if !t.free np then .bad else (dit g false it S).fl fun ds S1 => loopS kill (fun d T => match setT t d T with
      | none => .bad
      | some T1 => dS g np b T1) ds (wipeS S1 kill)
  | .ret e => fun S => (moveOut np (den g e) (plainName e) S).fl fun t S1 => .ret t S1
  | .retIx i e => fun S => (moveIx np i (den g e) S).fl fun t S1 => .ret t S1
  | .retN => fun S => .ret (.leaf .non) S
  | .brk => fun S => .brk S
  | .cnt => fun S => .cnt S
  | .raise c as => fun S => (evFs (dens g as) S).fl fun ds S1 => match ds with
    | [d] => .exc (.exn c [] [d]) S1
    | _ => .bad
  | .tryF b c i fs => fun S => match dS g np b S with
    | .exc x S1 => flagsF g.sup c i fs x S1
    | f => f
  | .try_ b cs i h more => fun S => match dS g np b S with
    | .exc x S1 => catch1 np g.sup x S1 (dS g np h) cs i (dHs g np more x S1)
    | f => f
def dHs (g : G) (np : List Nat) : List (List Str × Option Nat × S) → D → SS → Fl
  | [], x, S => .exc x S
  | (cs, i, h) :: r, x, S => catch1 np g.sup x S (dS g np h) cs i (dHs g np r x S)
end

/-! ## defs -/
structure Def where
  np : Nat
  ns : Nat
  br : List Nat
  body : S
/-- the lent things, as they are at the end -/
def lastOf (S : SS) (br : List Nat) : Nat → Nat → Option (List (Option OT))
  | 0, _ => some []
  | n + 1, i => if br.contains i then (match getS S i with
    | .own t => (lastOf S br n (i + 1)).map (some t :: ·)
    | _ => none)
    else (lastOf S br n (i + 1)).map (none :: ·)
def runD (g : G) (d : Def) (ts : List OT) : FR :=
  if ts.length = d.np then match dS g d.br d.body (ts.map .own ++ List.replicate (d.ns - d.np) .un) with
    | .nx S => (match lastOf S d.br d.np 0 with | some ps => .ok (.leaf .non) ps | none => .bad)
    | .ret t S => (match lastOf S d.br d.np 0 with | some ps => .ok t ps | none => .bad)
    | .exc x S => (match lastOf S d.br d.np 0 with | some ps => .exc x ps | none => .bad)
    | _ => .bad
  else .bad
def lookT (f : Str) : List (Str × Def) → Option Def
  | [] => none
  | (n, d) :: r => if n = f then some d else lookT f r
/-- the table's defs, so deep -/
def gl (T : List (Str × Def)) (sup : Str → List Str) (w : Nat) : Nat → G
  | 0 => ⟨fun _ _ => .bad, sup, w⟩
  | n + 1 => ⟨fun f ts => match lookT f T with
    | some d => runD (gl T sup w n) d ts
    | none => .bad, sup, w⟩
end Tk
end
section
set_option linter.all false
set_option maxRecDepth 100000
set_option maxHeartbeats 4000000
/-! What the evaluator's data stand for in the layer's heap. -/
namespace Tk
open PySem PySem.Spec PyProof.Rows L2

/-- what a class must be, to have these attributes -/
def Cl (K : PySem.W.Frag) (c : Str) (ns : List Str) : Prop := Cls K (He.ga K c) ∧ ∀ f, f ∈ ns → NoAttr K (He.ga K c) f
def keyD : Key → D
  | .inl i => .int i
  | .inr x => .str x
mutual
/-- frozen: no one changes it any more -/
inductive Fz (K : PySem.W.Frag) (Hf : Hp) : V → D → Prop
  | non : Fz K Hf .non .non
  | bl {b} : Fz K Hf (.bl b) (.bl b)
  | int {i} : Fz K Hf (.int i) (.int i)
  | str {x} : Fz K Hf (.str x) (.str x)
  | tup {a vs ds} : SqT K Hf a vs → Fzs K Hf vs ds → Fz K Hf (.ref a) (.tup ds)
  | lst {a vs ds} : Hf a = some (.lst vs) → Fzs K Hf vs ds → Fz K Hf (.ref a) (.lst ds)
  | scr {a is} : SqL K Hf a (is.map V.int) → Fz K Hf (.ref a) (.scr is)
  | dicK {a kvs ks ds} : Hf a = some (.dK kvs) → ks = kvs.map (fun p => keyD p.1) → Fzs K Hf (kvs.map (·.2)) ds → Fz K Hf (.ref a) (.dic ks ds)
  | dicT {a kvs ks ds} : Hf a = some (.dT kvs) → ks = kvs.map (fun p => D.tup (p.1.map keyD)) → Fzs K Hf (kvs.map (·.2)) ds → Fz K Hf (.ref a) (.dic ks ds)
  | ins {a c dx fs ns ds} : Hf a = some (.ins (He.ga K c) dx fs) → Hf dx = some (.own a) → Cl K c ns → fs.map (·.1) = ns → Fzs K Hf (fs.map (·.2)) ds → Fz K Hf (.ref a) (.ins c ns ds)
inductive Fzs (K : PySem.W.Frag) (Hf : Hp) : List V → List D → Prop
  | nil : Fzs K Hf [] []
  | cons {v vs d ds} : Fz K Hf v d → Fzs K Hf vs ds → Fzs K Hf (v :: vs) (d :: ds)
end
theorem sqL_same {K : PySem.W.Frag} {H H' : Hp} {a : Addr} {xs : List V} (e : Same H H') (h : SqL K H a xs) : SqL K H' a xs := e.seq h
theorem sqT_same {K : PySem.W.Frag} {H H' : Hp} {a : Addr} {xs : List V} (e : Same H H') (h : SqT K H a xs) : SqT K H' a xs := by
  rcases h with (h | ⟨o, h⟩) | h
  · exact .inl (.inl (e _ _ h))
  · exact .inl (.inr ⟨o, e _ _ h⟩)
  · exact .inr h
mutual
theorem Fz.mono {K : PySem.W.Frag} {H H' : Hp} (e : Same H H') : ∀ {v d}, Fz K H v d → Fz K H' v d
  | _, _, .non => .non
  | _, _, .bl => .bl
  | _, _, .int => .int
  | _, _, .str => .str
  | _, _, .tup h r => .tup (sqT_same e h) (Fzs.mono e r)
  | _, _, .lst h r => .lst (e _ _ h) (Fzs.mono e r)
  | _, _, .scr h => .scr (sqL_same e h)
  | _, _, .dicK h q r => .dicK (e _ _ h) q (Fzs.mono e r)
  | _, _, .dicT h q r => .dicT (e _ _ h) q (Fzs.mono e r)
  | _, _, .ins h h2 z q r => .ins (e _ _ h) (e _ _ h2) z q (Fzs.mono e r)
theorem Fzs.mono {K : PySem.W.Frag} {H H' : Hp} (e : Same H H') : ∀ {vs ds}, Fzs K H vs ds → Fzs K H' vs ds
  | _, _, .nil => .nil
  | _, _, .cons h r => .cons (h.mono e) (Fzs.mono e r)
end
theorem Fzs.length {K : PySem.W.Frag} {H : Hp} : ∀ {vs ds}, Fzs K H vs ds → vs.length = ds.length
  | _, _, .nil => rfl
  | _, _, .cons _ r => congrArg Nat.succ (Fzs.length r)
theorem Fzs.append {K : PySem.W.Frag} {H : Hp} : ∀ {vs ds ws es}, Fzs K H vs ds → Fzs K H ws es → Fzs K H (vs ++ ws) (ds ++ es)
  | _, _, _, _, .nil, r => r
  | _, _, _, _, .cons h t, r => .cons h (t.append r)
theorem Fzs.get {K : PySem.W.Frag} {H : Hp} : ∀ {vs ds}, Fzs K H vs ds → ∀ {i : Nat} {d : D}, ds[i]? = some d → ∃ v, vs[i]? = some v ∧ Fz K H v d
  | _, _, .nil, i, d, h => by simp at h
  | _, _, .cons h t, 0, d, e => by simp at e; subst e; exact ⟨_, rfl, h⟩
  | _, _, .cons h t, i + 1, d, e => by simpa using t.get (i := i) (by simpa using e)
theorem Fzs.get' {K : PySem.W.Frag} {H : Hp} : ∀ {vs ds}, Fzs K H vs ds → ∀ {i : Nat} {v : V}, vs[i]? = some v → ∃ d, ds[i]? = some d ∧ Fz K H v d
  | _, _, .nil, i, d, h => by simp at h
  | _, _, .cons h t, 0, d, e => by simp at e; subst e; exact ⟨_, rfl, h⟩
  | _, _, .cons h t, i + 1, d, e => by simpa using t.get' (i := i) (by simpa using e)
theorem Fzs.take {K : PySem.W.Frag} {H : Hp} : ∀ {vs ds}, Fzs K H vs ds → ∀ n, Fzs K H (vs.take n) (ds.take n)
  | _, _, .nil, n => by simpa using .nil
  | _, _, .cons h t, 0 => .nil
  | _, _, .cons h t, n + 1 => .cons h (t.take n)
theorem Fzs.drop {K : PySem.W.Frag} {H : Hp} : ∀ {vs ds}, Fzs K H vs ds → ∀ n, Fzs K H (vs.drop n) (ds.drop n)
  | _, _, .nil, n => by simpa using .nil
  | _, _, .cons h t, 0 => .cons h t
  | _, _, .cons h t, n + 1 => t.drop n
theorem Fzs.reverse {K : PySem.W.Frag} {H : Hp} : ∀ {vs ds}, Fzs K H vs ds → Fzs K H vs.reverse ds.reverse
  | _, _, .nil => .nil
  | _, _, .cons h t => by
    rw [List.reverse_cons, List.reverse_cons]
    exact t.reverse.append (.cons h .nil)

/-! ## owned trees; F: where they may stand -/
abbrev Fp := Addr → Prop
mutual
inductive Ow (K : PySem.W.Frag) (Hf H : Hp) : V → OT → Fp → Prop
  | leaf {v d F} : Fz K Hf v d → Ow K Hf H v (.leaf d) F
  | lst {a vs ts F G} : H a = some (.lst vs) → Hf a = none → F a → (∀ b, G b → F b) → ¬ G a → Ows K Hf H vs ts G → Ow K Hf H (.ref a) (.lst ts) F
  | dicK {a kvs ks ts F G} : H a = some (.dK kvs) → Hf a = none → F a → (∀ b, G b → F b) → ¬ G a → ks = kvs.map (fun p => keyD p.1) → Ows K Hf H (kvs.map (·.2)) ts G → Ow K Hf H (.ref a) (.dic ks ts) F
  | dicT {a kvs ks ts F G} : H a = some (.dT kvs) → Hf a = none → F a → (∀ b, G b → F b) → ¬ G a → ks = kvs.map (fun p => D.tup (p.1.map keyD)) → Ows K Hf H (kvs.map (·.2)) ts G → Ow K Hf H (.ref a) (.dic ks ts) F
  | ins {a c dx fs ns ts F G} : H a = some (.ins (He.ga K c) dx fs) → H dx = some (.own a) → Hf a = none → Hf dx = none → F a → F dx → (∀ b, G b → F b) → ¬ G a → ¬ G dx → Cl K c ns → fs.map (·.1) = ns →
      Ows K Hf H (fs.map (·.2)) ts G → Ow K Hf H (.ref a) (.ins c ns ts) F
inductive Ows (K : PySem.W.Frag) (Hf H : Hp) : List V → List OT → Fp → Prop
  | nil {G} : Ows K Hf H [] [] G
  | cons {v vs t ts F G J} : Ow K Hf H v t F → Ows K Hf H vs ts G → (∀ b, F b → J b) → (∀ b, G b → J b) → (∀ b, F b → G b → False) → Ows K Hf H (v :: vs) (t :: ts) J
end
/-- what an owned tree needs of two heaps to stand -/
structure Stay (F : Fp) (Hf H Hf' H' : Hp) : Prop where
  fz : Same Hf Hf'
  no : ∀ b, F b → Hf b = none → Hf' b = none
  kp : ∀ b o, F b → H b = some o → H' b = some o
theorem Stay.sub {F G : Fp} {Hf H Hf' H' : Hp} (s : Stay F Hf H Hf' H') (h : ∀ b, G b → F b) : Stay G Hf H Hf' H' := ⟨s.fz, fun b g => s.no b (h b g), fun b o g => s.kp b o (h b g)⟩
mutual
theorem Ow.stay {K : PySem.W.Frag} {Hf H Hf' H' : Hp} : ∀ {v t F}, Ow K Hf H v t F → Stay F Hf H Hf' H' → Ow K Hf' H' v t F
  | _, _, _, .leaf h, s => .leaf (h.mono s.fz)
  | _, _, _, .lst h1 h2 h3 h4 h5 r, s => .lst (s.kp _ _ h3 h1) (s.no _ h3 h2) h3 h4 h5 (r.stay (s.sub h4))
  | _, _, _, .dicK h1 h2 h3 h4 h5 e r, s => .dicK (s.kp _ _ h3 h1) (s.no _ h3 h2) h3 h4 h5 e (r.stay (s.sub h4))
  | _, _, _, .dicT h1 h2 h3 h4 h5 e r, s => .dicT (s.kp _ _ h3 h1) (s.no _ h3 h2) h3 h4 h5 e (r.stay (s.sub h4))
  | _, _, _, .ins h1 h2 h3 h4 h5 h6 h7 h8 h9 z e r, s => .ins (s.kp _ _ h5 h1) (s.kp _ _ h6 h2) (s.no _ h5 h3) (s.no _ h6 h4) h5 h6 h7 h8 h9 z e (r.stay (s.sub h7))
theorem Ows.stay {K : PySem.W.Frag} {Hf H Hf' H' : Hp} : ∀ {vs ts F}, Ows K Hf H vs ts F → Stay F Hf H Hf' H' → Ows K Hf' H' vs ts F
  | _, _, _, .nil, _ => .nil
  | _, _, _, .cons h r h1 h2 h3, s => .cons (h.stay (s.sub h1)) (r.stay (s.sub h2)) h1 h2 h3
end
theorem Ow.wide {K : PySem.W.Frag} {Hf H : Hp} : ∀ {v t F G}, Ow K Hf H v t F → (∀ b, F b → G b) → Ow K Hf H v t G
  | _, _, _, _, .leaf h, s => .leaf h
  | _, _, _, _, .lst h1 h2 h3 h4 h5 r, s => .lst h1 h2 (s _ h3) (fun b g => s b (h4 b g)) h5 r
  | _, _, _, _, .dicK h1 h2 h3 h4 h5 e r, s => .dicK h1 h2 (s _ h3) (fun b g => s b (h4 b g)) h5 e r
  | _, _, _, _, .dicT h1 h2 h3 h4 h5 e r, s => .dicT h1 h2 (s _ h3) (fun b g => s b (h4 b g)) h5 e r
  | _, _, _, _, .ins h1 h2 h3 h4 h5 h6 h7 h8 h9 z e r, s => .ins h1 h2 h3 h4 (s _ h5) (s _ h6) (fun b g => s b (h7 b g)) h8 h9 z e r
theorem Ows.wide {K : PySem.W.Frag} {Hf H : Hp} : ∀ {vs ts F G}, Ows K Hf H vs ts F → (∀ b, F b → G b) → Ows K Hf H vs ts G
  | _, _, _, _, .nil, _ => .nil
  | _, _, _, _, .cons h r h1 h2 h3, s => .cons h r (fun b g => s b (h1 b g)) (fun b g => s b (h2 b g)) h3
theorem Ows.length {K : PySem.W.Frag} {Hf H : Hp} : ∀ {vs ts F}, Ows K Hf H vs ts F → vs.length = ts.length
  | _, _, _, .nil => rfl
  | _, _, _, .cons _ r _ _ _ => congrArg Nat.succ r.length
theorem ows_leafs {K : PySem.W.Frag} {Hf H : Hp} {F : Fp} : ∀ {vs ds}, Fzs K Hf vs ds → Ows K Hf H vs (leafs ds) F
  | _, _, .nil => .nil
  | _, _, .cons h r => .cons (F := fun _ => False) (.leaf h) (ows_leafs (F := fun _ => False) r) (fun _ z => z.elim) (fun _ z => z.elim) fun _ z => z.elim
theorem leafs_of_ows {K : PySem.W.Frag} {Hf H : Hp} : ∀ {ds : List D} {vs F}, Ows K Hf H vs (leafs ds) F → Fzs K Hf vs ds
  | [], _, _, .nil => .nil
  | d :: ds, _, _, .cons (.leaf h) r _ _ _ => .cons h (leafs_of_ows r)

/-! ## what is owned, as data in the whole heap -/
mutual
theorem Ow.look {K : PySem.W.Frag} {Hf H : Hp} (e : Same Hf H) : ∀ {v t F}, Ow K Hf H v t F → Fz K H v t.frz
  | _, _, _, .leaf h => h.mono e
  | _, _, _, .lst h1 _ _ _ _ r => .lst h1 (Ows.look e r)
  | _, _, _, .dicK h1 _ _ _ _ q r => .dicK h1 q (Ows.look e r)
  | _, _, _, .dicT h1 _ _ _ _ q r => .dicT h1 q (Ows.look e r)
  | _, _, _, .ins h1 h2 _ _ _ _ _ _ _ z q r => .ins h1 h2 z q (Ows.look e r)
theorem Ows.look {K : PySem.W.Frag} {Hf H : Hp} (e : Same Hf H) : ∀ {vs ts F}, Ows K Hf H vs ts F → Fzs K H vs (OT.frzs ts)
  | _, _, _, .nil => .nil
  | _, _, _, .cons h r _ _ _ => .cons (h.look e) (r.look e)
end
open Classical in
/-- the frozen heap with what stands at F besides -/
noncomputable def addF (Hf H : Hp) (F : Fp) : Hp := fun b => if Hf b = none ∧ F b then H b else Hf b
theorem addF_old {Hf H : Hp} {F : Fp} : Same Hf (addF Hf H F) := fun b o h => by
  unfold addF
  rw [if_neg (by rw [h]; simp)]
  exact h
theorem addF_sub {Hf H : Hp} {F : Fp} (e : Same Hf H) : Same (addF Hf H F) H := fun b o h => by
  unfold addF at h
  split at h
  · exact h
  · exact e b o h
theorem addF_at {Hf H : Hp} {F : Fp} {b : Addr} (h : Hf b = none) (f : F b) : addF Hf H F b = H b := by
  unfold addF
  rw [if_pos ⟨h, f⟩]
theorem addF_out {Hf H : Hp} {F : Fp} {b : Addr} (f : ¬ F b) : addF Hf H F b = Hf b := by
  unfold addF
  rw [if_neg fun h => f h.2]
mutual
/-- to freeze -/
theorem Ow.freeze {K : PySem.W.Frag} {Hf H Hx : Hp} : ∀ {v t F}, Ow K Hf H v t F → Same Hf Hx → (∀ b o, F b → Hf b = none → H b = some o → Hx b = some o) → Fz K Hx v t.frz
  | _, _, _, .leaf h, e, _ => h.mono e
  | _, _, _, .lst h1 h2 h3 h4 _ r, e, k => .lst (k _ _ h3 h2 h1) (Ows.freeze r e fun b o g => k b o (h4 b g))
  | _, _, _, .dicK h1 h2 h3 h4 _ q r, e, k => .dicK (k _ _ h3 h2 h1) q (Ows.freeze r e fun b o g => k b o (h4 b g))
  | _, _, _, .dicT h1 h2 h3 h4 _ q r, e, k => .dicT (k _ _ h3 h2 h1) q (Ows.freeze r e fun b o g => k b o (h4 b g))
  | _, _, _, .ins h1 h2 h3 h4 h5 h6 h7 _ _ z q r, e, k => .ins (k _ _ h5 h3 h1) (k _ _ h6 h4 h2) z q (Ows.freeze r e fun b o g => k b o (h7 b g))
theorem Ows.freeze {K : PySem.W.Frag} {Hf H Hx : Hp} : ∀ {vs ts F}, Ows K Hf H vs ts F → Same Hf Hx → (∀ b o, F b → Hf b = none → H b = some o → Hx b = some o) → Fzs K Hx vs (OT.frzs ts)
  | _, _, _, .nil, _, _ => .nil
  | _, _, _, .cons h r h1 h2 _, e, k => .cons (h.freeze e fun b o g => k b o (h1 b g)) (r.freeze e fun b o g => k b o (h2 b g))
end
theorem Ow.frozen {K : PySem.W.Frag} {Hf H : Hp} {v : V} {t : OT} {F : Fp} (h : Ow K Hf H v t F) : Fz K (addF Hf H F) v t.frz :=
  h.freeze addF_old fun b o f n e => by rw [addF_at n f]; exact e
theorem Ows.frozen {K : PySem.W.Frag} {Hf H : Hp} {vs : List V} {ts : List OT} {F : Fp} (h : Ows K Hf H vs ts F) : Fzs K (addF Hf H F) vs (OT.frzs ts) :=
  h.freeze addF_old fun b o f n e => by rw [addF_at n f]; exact e

/-! ## the slots -/
structure Rel (K : PySem.W.Frag) (S : SS) (σ : L2.St) (Hf H : Hp) (Φ : Fp) (Fs : Nat → Fp) : Prop where
  same : Same Hf H
  len : S.length = σ.length
  own : ∀ (i : Nat) (t : OT), S[i]? = some (Sl.own t) → ∃ v, σ[i]? = some (some v) ∧ Ow K Hf H v t (Fs i)
  dis : ∀ i j b, i ≠ j → Fs i b → Fs j b → False
  off : ∀ i b, Fs i b → ¬ Φ b
  hF : ∀ i b, Fs i b → H b ≠ none
  hΦ : ∀ b, Φ b → H b ≠ none
/-- how a piece of code may leave the heaps -/
structure Kp (p : Bool) (Φ : Fp) (Hf H Hf' H' : Hp) : Prop where
  fz : Same Hf Hf'
  keep : ∀ b, Φ b → H' b = H b
  nof : ∀ b, Φ b → Hf b = none → Hf' b = none
  more : ∀ b, H b ≠ none → H' b ≠ none
  pure : p = true → Same H H'
theorem Kp.refl {p : Bool} {Φ : Fp} {Hf H : Hp} : Kp p Φ Hf H Hf H := ⟨Same.refl _, fun _ _ => rfl, fun _ _ h => h, fun _ h => h, fun _ => Same.refl _⟩
theorem Kp.trans {p : Bool} {Φ : Fp} {Hf H Hf1 H1 Hf2 H2 : Hp} (a : Kp p Φ Hf H Hf1 H1) (b : Kp p Φ Hf1 H1 Hf2 H2) : Kp p Φ Hf H Hf2 H2 :=
  ⟨a.fz.trans b.fz, fun c f => (b.keep c f).trans (a.keep c f), fun c f h => b.nof c f (a.nof c f h), fun c h => b.more c (a.more c h), fun e => (a.pure e).trans (b.pure e)⟩
theorem Kp.sub {p : Bool} {Φ Ψ : Fp} {Hf H Hf' H' : Hp} (a : Kp p Φ Hf H Hf' H') (h : ∀ b, Ψ b → Φ b) : Kp p Ψ Hf H Hf' H' :=
  ⟨a.fz, fun b f => a.keep b (h b f), fun b f => a.nof b (h b f), a.more, a.pure⟩
theorem Kp.low {p q : Bool} {Φ : Fp} {Hf H Hf' H' : Hp} (a : Kp p Φ Hf H Hf' H') (h : q = true → p = true) : Kp q Φ Hf H Hf' H' := ⟨a.fz, a.keep, a.nof, a.more, fun e => a.pure (h e)⟩
theorem Kp.stay {p : Bool} {Φ F : Fp} {Hf H Hf' H' : Hp} (a : Kp p Φ Hf H Hf' H') (h : ∀ b, F b → Φ b) : Stay F Hf H Hf' H' := ⟨a.fz, fun b f => a.nof b (h b f), fun b o f e => by rw [a.keep b (h b f)]; exact e⟩

/-- a new value -/
structure New (K : PySem.W.Frag) (Hf H : Hp) (v : V) (t : OT) (Hf' H' : Hp) (F : Fp) : Prop where
  h : Same H H'
  fz : Same Hf Hf'
  sub : Same Hf' H'
  fresh : ∀ b, Hf b = none → Hf' b ≠ none → H b = none
  ow : Ow K Hf' H' v t F
  F : ∀ b, F b → H b = none ∧ H' b ≠ none
theorem New.scalar {K : PySem.W.Frag} {Hf H : Hp} {v : V} {d : D} (e : Same Hf H) (h : Fz K Hf v d) : New K Hf H v (.leaf d) Hf H (fun _ => False) :=
  ⟨Same.refl _, Same.refl _, e, fun _ h1 h2 => absurd h1 h2, .leaf h, fun _ z => z.elim⟩
theorem same_none {H H' : Hp} (e : Same H H') {b : Addr} (h : H b ≠ none) : H' b ≠ none := by
  cases q : H b with
  | none => exact absurd q h
  | some o => rw [e b o q]; simp
section
variable {K : PySem.W.Frag} {S : SS} {σ : L2.St} {Hf H Hf' H' : Hp} {Φ : Fp} {Fs : Nat → Fp} {v : V} {t : OT} {F : Fp}
/-- the slots stay where the heaps grow -/
theorem Rel.grow (R : Rel K S σ Hf H Φ Fs) (h : Same H H') (f : Same Hf Hf') (s : Same Hf' H') (n : ∀ b, Hf b = none → Hf' b ≠ none → H b = none) : Rel K S σ Hf' H' Φ Fs :=
  ⟨s, R.len, fun i t e => by
    obtain ⟨v, e1, o⟩ := R.own i t e
    refine ⟨v, e1, o.stay ⟨f, fun b hb hn => ?_, fun b o _ q => h b o q⟩⟩
    by_cases z : Hf' b = none
    · exact z
    · exact absurd (n b hn z) (R.hF i b hb),
  R.dis, R.off, fun i b hb => same_none h (R.hF i b hb), fun b hb => same_none h (R.hΦ b hb)⟩
theorem New.rel (N : New K Hf H v t Hf' H' F) (R : Rel K S σ Hf H Φ Fs) : Rel K S σ Hf' H' Φ Fs := R.grow N.h N.fz N.sub N.fresh
theorem New.kp {p : Bool} (N : New K Hf H v t Hf' H' F) (R : Rel K S σ Hf H Φ Fs) : Kp p Φ Hf H Hf' H' :=
  ⟨N.fz, fun b hb => by
    cases q : H b with
    | none => exact absurd q (R.hΦ b hb)
    | some o => exact N.h b o q, fun b hb hn => by
    by_cases z : Hf' b = none
    · exact z
    · exact absurd (N.fresh b hn z) (R.hΦ b hb), fun b hb => same_none N.h hb, fun _ => N.h⟩
theorem New.off (N : New K Hf H v t Hf' H' F) (R : Rel K S σ Hf H Φ Fs) : ∀ b, F b → ¬ Φ b ∧ H' b ≠ none ∧ ∀ i, ¬ Fs i b := fun b hb =>
  ⟨fun z => R.hΦ b z (N.F b hb).1, (N.F b hb).2, fun i z => R.hF i b z (N.F b hb).1⟩
/-- a value that is to be kept apart joins the frame -/
theorem Rel.frame (R : Rel K S σ Hf H Φ Fs) (hF : ∀ b, F b → ¬ Φ b ∧ H b ≠ none ∧ ∀ i, ¬ Fs i b) : Rel K S σ Hf H (fun b => Φ b ∨ F b) Fs :=
  ⟨R.same, R.len, R.own, R.dis, fun i b hb z => z.elim (R.off i b hb) fun z => (hF b z).2.2 i hb, R.hF, fun b z => z.elim (R.hΦ b) fun z => (hF b z).2.1⟩
theorem Rel.unframe {Ψ : Fp} (R : Rel K S σ Hf H Ψ Fs) (h : ∀ b, Φ b → Ψ b) : Rel K S σ Hf H Φ Fs :=
  ⟨R.same, R.len, R.own, R.dis, fun i b hb z => R.off i b hb (h b z), R.hF, fun b z => R.hΦ b (h b z)⟩
/-- freezing what is owned apart from the slots -/
theorem Rel.freezeF (R : Rel K S σ Hf H Φ Fs) (hF : ∀ b, F b → ¬ Φ b ∧ H b ≠ none ∧ ∀ i, ¬ Fs i b) : Rel K S σ (addF Hf H F) H Φ Fs :=
  ⟨addF_sub R.same, R.len, fun i t e => by
    obtain ⟨v, e1, o⟩ := R.own i t e
    exact ⟨v, e1, o.stay ⟨addF_old, fun b hb hn => by rw [addF_out fun z => (hF b z).2.2 i hb]; exact hn, fun b o _ q => q⟩⟩,
  R.dis, R.off, R.hF, R.hΦ⟩
/-- an own thing is frozen where it stands -/
theorem Rel.take {i : Nat} (R : Rel K S σ Hf H Φ Fs) (h : S[i]? = some (.own t)) : Rel K (S.set i (.own (.leaf t.frz))) σ (addF Hf H (Fs i)) H Φ (fun j b => j ≠ i ∧ Fs j b) := by
  have hi : i < S.length := by
    cases Nat.lt_or_ge i S.length with
    | inl z => exact z
    | inr z => rw [List.getElem?_eq_none z] at h; cases h
  refine ⟨addF_sub R.same, by rw [List.length_set]; exact R.len, fun j u e => ?_, fun j k b hne h1 h2 => R.dis j k b hne h1.2 h2.2, fun j b hb => R.off j b hb.2, fun j b hb => R.hF j b hb.2, R.hΦ⟩
  by_cases z : j = i
  · subst z
    rw [List.getElem?_set_self hi] at e
    cases e
    obtain ⟨v, ev, ow⟩ := R.own j t h
    exact ⟨v, ev, .leaf ow.frozen⟩
  · rw [List.getElem?_set_ne fun q => z q.symm] at e
    obtain ⟨v, ev, ow⟩ := R.own j u e
    refine ⟨v, ev, (ow.stay ⟨addF_old, fun b hb hn => ?_, fun b o _ q => q⟩).wide fun b hb => ⟨z, hb⟩⟩
    rw [addF_out fun q => R.dis j i b z hb q]
    exact hn
theorem kp_freezeF {p : Bool} (hF : ∀ b, F b → ¬ Φ b) : Kp p Φ Hf H (addF Hf H F) H :=
  ⟨addF_old, fun _ _ => rfl, fun b hb hn => by rw [addF_out fun z => hF b z hb]; exact hn, fun _ h => h, fun _ => Same.refl _⟩
end
end Tk
end
section
set_option linter.all false
set_option maxRecDepth 100000
set_option maxHeartbeats 4000000
/-! The evaluator's answers as readings of the layer. -/
namespace Tk
open PySem PySem.Spec PyProof.Rows L2

abbrev sAt : Str := Str.ofString "at"
inductive Exn (K : PySem.W.Frag) (Hf : Hp) : D → Value → Option Addr → Prop
  | plain {c ds} : Exn K Hf (.exn c [] ds) (.ref (He.ga K c)) none
  | own {c d dd v} : Hf dd = some (.xd [(sAt, v)]) → Fz K Hf v d → Exn K Hf (.exn c [sAt] [d]) (.ref (He.ga K c)) (some dd)

/-- what a piece of code owes: P of its answer, W of an error -/
def Out {α : Type} (K : PySem.W.Frag) (W : WX) (σ : L2.St) (p : Bool) (Φ : Fp) (Hf H : Hp) (r : R α) (P : α → SS → Hp → Hp → (Nat → Fp) → Prop) : Prop := match r with
  | .ok a S' => ∀ H' Hf' Fs', Rel K S' σ Hf' H' Φ Fs' → Kp p Φ Hf H Hf' H' → P a S' Hf' H' Fs'
  | .exc x S' => ∀ cls d H' Hf' Fs', Rel K S' σ Hf' H' Φ Fs' → Kp false Φ Hf H Hf' H' → Exn K Hf' x cls d → W cls d σ H'
  | .bad => False
section
variable {α β : Type} {K : PySem.W.Frag} {W : WX} {σ : L2.St} {p q q2 : Bool} {Φ Ψ : Fp} {Hf H Hf1 H1 : Hp} {r : R α} {k : α → SS → R β} {P P' : α → SS → Hp → Hp → (Nat → Fp) → Prop} {P2 : β → SS → Hp → Hp → (Nat → Fp) → Prop}
theorem Out.bind (h : Out K W σ p Φ Hf H (r.bind k) P2) (hq : p = true → q = true) (hq2 : p = true → q2 = true) : Out K W σ q Φ Hf H r fun a S1 Hf1 H1 _ => Out K W σ q2 Φ Hf1 H1 (k a S1) P2 := by
  cases r with
  | ok a S1 =>
    intro H1 Hf1 Fs1 R1 k1
    have h' : Out K W σ p Φ Hf H (k a S1) P2 := h
    show Out K W σ q2 Φ Hf1 H1 (k a S1) P2
    cases e : k a S1 with
    | ok b S2 =>
      rw [e] at h'
      intro H2 Hf2 Fs2 R2 k2
      exact h' H2 Hf2 Fs2 R2 ((k1.low hq).trans (k2.low hq2))
    | exc x S2 =>
      rw [e] at h'
      intro cls d H2 Hf2 Fs2 R2 k2 X2
      exact h' cls d H2 Hf2 Fs2 R2 ((k1.low (q := false) (fun z => nomatch z)).trans k2) X2
    | bad => rw [e] at h'; exact h'
  | exc x S1 => exact h
  | bad => exact h
theorem Out.imp (h : Out K W σ p Φ Hf H r P) (i : ∀ a S' Hf' H' Fs', r = .ok a S' → Rel K S' σ Hf' H' Φ Fs' → Kp p Φ Hf H Hf' H' → P a S' Hf' H' Fs' → P' a S' Hf' H' Fs') : Out K W σ p Φ Hf H r P' := by
  cases r with
  | ok a S' => exact fun H' Hf' Fs' R k => i a S' Hf' H' Fs' rfl R k (h H' Hf' Fs' R k)
  | exc x S' => exact h
  | bad => exact h
/-- from a later heap, with more in the frame -/
theorem Out.base (h : Out K W σ p Φ Hf H r P) (k : Kp q Φ Hf H Hf1 H1) (hq : p = true → q = true) (hΨ : ∀ b, Φ b → Ψ b) : Out K W σ p Ψ Hf1 H1 r P := by
  cases r with
  | ok a S' => exact fun H' Hf' Fs' R k2 => h H' Hf' Fs' (R.unframe hΨ) ((k.low hq).trans (k2.sub hΨ))
  | exc x S' => exact fun cls d H' Hf' Fs' R k2 X => h cls d H' Hf' Fs' (R.unframe hΨ) ((k.low (q := false) (fun z => nomatch z)).trans (k2.sub hΨ)) X
  | bad => exact h
theorem Out.flag (h : Out K W σ p Φ Hf H r P) (hq : p = true → q = true) : Out K W σ q Φ Hf H r P := by
  cases r with
  | ok a S' => exact fun H' Hf' Fs' R k => h H' Hf' Fs' R (k.low hq)
  | exc x S' => exact h
  | bad => exact h
theorem Out.ok {a : α} {S' : SS} {Fs : Nat → Fp} (h : Out K W σ p Φ Hf H (.ok a S') P) (R : Rel K S' σ Hf H Φ Fs) : P a S' Hf H Fs := h H Hf Fs R Kp.refl
end

/-- apart from the slots and the frame -/
def Off (F : Fp) (Φ : Fp) (H : Hp) (Fs : Nat → Fp) : Prop := ∀ b, F b → ¬ Φ b ∧ H b ≠ none ∧ ∀ i, ¬ Fs i b
/-- a value's reading -/
def tV (K : PySem.W.Frag) (W : WX) (p : Bool) (f : SS → R OT) : TE := fun σ H Q => ∃ S Hf Φ Fs, Rel K S σ Hf H Φ Fs ∧ Out K W σ p Φ Hf H (f S) fun t _ Hf' H' Fs' => ∀ v F, Ow K Hf' H' v t F → Off F Φ H' Fs' → Q v H'
/-- a look: fl: its parts are frozen -/
inductive Fz1 (K : PySem.W.Frag) (Hf H : Hp) : V → D → Prop
  | fz {v d} : Fz K Hf v d → Fz1 K Hf H v d
  | lst {a vs ds} : H a = some (.lst vs) → Fzs K Hf vs ds → Fz1 K Hf H (.ref a) (.lst ds)
  | dicK {a kvs ks ds} : H a = some (.dK kvs) → ks = kvs.map (fun p => keyD p.1) → Fzs K Hf (kvs.map (·.2)) ds → Fz1 K Hf H (.ref a) (.dic ks ds)
  | dicT {a kvs ks ds} : H a = some (.dT kvs) → ks = kvs.map (fun p => D.tup (p.1.map keyD)) → Fzs K Hf (kvs.map (·.2)) ds → Fz1 K Hf H (.ref a) (.dic ks ds)
  | ins {a c dx fs ns ds} : H a = some (.ins (He.ga K c) dx fs) → H dx = some (.own a) → Cl K c ns → fs.map (·.1) = ns → Fzs K Hf (fs.map (·.2)) ds → Fz1 K Hf H (.ref a) (.ins c ns ds)
def Pk (K : PySem.W.Frag) (fl : Bool) (Hf H : Hp) (v : V) (d : D) : Prop := match fl with
  | true => Fz1 K Hf H v d
  | false => Fz K H v d
theorem Fz1.all {K : PySem.W.Frag} {Hf H : Hp} (e : Same Hf H) {v : V} {d : D} (h : Fz1 K Hf H v d) : Fz K H v d := by
  cases h with
  | fz h => exact h.mono e
  | lst h r => exact .lst h (r.mono e)
  | dicK h q r => exact .dicK h q (r.mono e)
  | dicT h q r => exact .dicT h q (r.mono e)
  | ins h h2 z q r => exact .ins h h2 z q (r.mono e)
theorem Pk.all {K : PySem.W.Frag} {fl : Bool} {Hf H : Hp} (e : Same Hf H) {v : V} {d : D} (h : Pk K fl Hf H v d) : Fz K H v d := by
  cases fl with
  | true => exact Fz1.all e h
  | false => exact h
theorem Pk.of {K : PySem.W.Frag} {fl : Bool} {Hf H : Hp} (e : Same Hf H) {v : V} {d : D} (h : Fz K Hf v d) : Pk K fl Hf H v d := by
  cases fl with
  | true => exact .fz h
  | false => exact h.mono e
theorem Pk.mono {K : PySem.W.Frag} {fl : Bool} {Hf H Hf' H' : Hp} (f : Same Hf Hf') (e : Same H H') {v : V} {d : D} (h : Pk K fl Hf H v d) : Pk K fl Hf' H' v d := by
  cases fl with
  | true =>
    cases h with
    | fz h => exact .fz (h.mono f)
    | lst h r => exact .lst (e _ _ h) (r.mono f)
    | dicK h q r => exact .dicK (e _ _ h) q (r.mono f)
    | dicT h q r => exact .dicT (e _ _ h) q (r.mono f)
    | ins h h2 z q r => exact .ins (e _ _ h) (e _ _ h2) z q (r.mono f)
  | false => exact Fz.mono e h
/-- an operand's reading -/
def tO (K : PySem.W.Frag) (W : WX) (p fl : Bool) (f : SS → R D) : TE := fun σ H Q => ∃ S Hf Φ Fs, Rel K S σ Hf H Φ Fs ∧ Out K W σ p Φ Hf H (f S) fun d _ Hf' H' _ => ∀ v, Pk K fl Hf' H' v d → Q v H'
/-- a test's -/
def tTs (K : PySem.W.Frag) (W : WX) (p : Bool) (f : SS → R Bool) : TT := fun σ H Q => ∃ S Hf Φ Fs, Rel K S σ Hf H Φ Fs ∧ Out K W σ p Φ Hf H (f S) fun b _ _ H' _ => Q b H'

/-- an expression and what the evaluator says of it -/
structure Snd (X : Cx) (W : WX) (e : Expr) (δ : Den) : Prop where
  v : PE X e (tV X.K W δ.p δ.v)
  o : ∀ fl, PE X e (tO X.K W δ.p fl (δ.o fl))
  t : PT X e (tTs X.K W δ.p δ.t)
  /-- nothing is raised where it is pure -/
  nv : δ.p = true → ∀ S x S', δ.v S ≠ .exc x S'
  no : δ.p = true → ∀ fl S x S', δ.o fl S ≠ .exc x S'
  nt : δ.p = true → ∀ S x S', δ.t S ≠ .exc x S'
theorem _root_.L2.PE.weak {X : Cx} {e : Expr} {t t' : TE} (h : PE X e t) (i : ∀ σ H Q, t' σ H Q → t σ H Q) : PE X e t' := ⟨fun pins s σ H Q I w => h.run pins s σ H Q I (i σ H Q w)⟩
theorem _root_.L2.PT.weak {X : Cx} {e : Expr} {t t' : TT} (h : PT X e t) (i : ∀ σ H Q, t' σ H Q → t σ H Q) : PT X e t' := ⟨fun pins s σ H Q I w => h.run pins s σ H Q I (i σ H Q w)⟩
theorem _root_.L2.PA.weak {X : Cx} {es : List Expr} {t t' : TA} (h : PA X es t) (i : ∀ σ H Q, t' σ H Q → t σ H Q) : PA X es t' := ⟨fun pos pins s σ H Q I w => h.run pos pins s σ H Q I (i σ H Q w)⟩
theorem _root_.L2.PS.weak {X : Cx} {e : Stmt} {t t' : TS} (h : PS X e t) (i : ∀ D σ H, t' D σ H → t D σ H) : PS X e t' := ⟨fun pins s σ H D I w => h.run pins s σ H D I (i D σ H w)⟩
theorem _root_.L2.PSs.weak {X : Cx} {e : List Stmt} {t t' : TS} (h : PSs X e t) (i : ∀ D σ H, t' D σ H → t D σ H) : PSs X e t' := ⟨fun pins s σ H D I w => h.run pins s σ H D I (i D σ H w)⟩

/-! ## rows of expressions -/
inductive Row (K : PySem.W.Frag) (Hf H : Hp) (σ : L2.St) : List (Bool × AV) → List V → Fp → Prop
  | nil {F} : Row K Hf H σ [] [] F
  | val {v t r vs F G J} : Ow K Hf H v t F → Row K Hf H σ r vs G → (∀ b, F b → J b) → (∀ b, G b → J b) → (∀ b, F b → G b → False) → Row K Hf H σ ((false, .val t) :: r) (v :: vs) J
  | star {d ds xs r vs G} : items? d = some ds → Fzs K Hf xs ds → Row K Hf H σ r vs G → Row K Hf H σ ((true, .val (.leaf d)) :: r) (xs ++ vs) G
  | bor {i v r vs G} : σ[i]? = some (some v) → Row K Hf H σ r vs G → Row K Hf H σ ((false, .bor i []) :: r) (v :: vs) G
def tR (K : PySem.W.Frag) (W : WX) (p : Bool) (f : SS → R (List (Bool × AV))) : TA := fun σ H Q => ∃ S Hf Φ Fs, Rel K S σ Hf H Φ Fs ∧ Out K W σ p Φ Hf H (f S) fun r _ Hf' H' Fs' => ∀ vs F, Row K Hf' H' σ r vs F → Off F Φ H' Fs' → Q vs H'
/-- what is owned and kept, or frozen at once -/
theorem keep_ow {K : PySem.W.Frag} {S : SS} {σ : L2.St} {Hf H : Hp} {Φ : Fp} {Fs : Nat → Fp} {v : V} {t : OT} {F : Fp} (keep p : Bool) (R : Rel K S σ Hf H Φ Fs) (o : Ow K Hf H v t F) (off : Off F Φ H Fs) :
    ∃ Hf1 F1, Rel K S σ Hf1 H Φ Fs ∧ Kp p Φ Hf H Hf1 H ∧ Ow K Hf1 H v (keepT keep t) F1 ∧ Off F1 Φ H Fs := by
  cases keep with
  | true => exact ⟨Hf, F, R, Kp.refl, o, off⟩
  | false => exact ⟨addF Hf H F, fun _ => False, R.freezeF off, kp_freezeF fun b hb => (off b hb).1, .leaf o.frozen, fun _ z => z.elim⟩
theorem row_nil {X : Cx} {W : WX} {keep : Bool} : PA X [] (tR X.K W true (evA keep [])) := by
  refine pa_nil.weak fun σ H Q h => ?_
  obtain ⟨S, Hf, Φ, Fs, R, o⟩ := h
  exact Out.ok o R [] (fun _ => False) .nil fun _ z => z.elim
section
variable {X : Cx} {W : WX} {keep : Bool} {e : Expr} {es : List Expr} {δ : Den} {ds : List Den} {p0 : Pos}
theorem row_cons_aux {σ : L2.St} {H : Hp} {Q : List V → Hp → Prop} (k2 : Bool)
    (h : ∃ S Hf Φ Fs, Rel X.K S σ Hf H Φ Fs ∧ Out X.K W σ (δ.p && allP ds) Φ Hf H ((δ.v S).bind fun t S1 => (evA keep ds S1).bind fun vs S2 => .ok ((false, .val (keepT k2 t)) :: vs) S2) fun r _ Hf' H' Fs' => ∀ vs F, Row X.K Hf' H' σ r vs F → Off F Φ H' Fs' → Q vs H') :
    tCons (tV X.K W δ.p δ.v) (tR X.K W (allP ds) (evA keep ds)) σ H Q := by
  obtain ⟨S, Hf, Φ, Fs, R, o⟩ := h
  refine ⟨S, Hf, Φ, Fs, R, (o.bind (q := δ.p) (q2 := δ.p && allP ds) (fun z => (Bool.and_eq_true_iff.mp z).1) fun z => z).imp fun t S1 Hf1 H1 Fs1 _ R1 k1 o1 v F ow off => ?_⟩
  obtain ⟨Hf2, F2, R2, k2', ow2, off2⟩ := keep_ow k2 (δ.p && allP ds) R1 ow off
  have o2 := o1.base (Ψ := fun b => Φ b ∨ F2 b) k2' (fun z => z) fun b z => .inl z
  refine ⟨S1, Hf2, fun b => Φ b ∨ F2 b, Fs1, R2.frame off2, (o2.bind (q := allP ds) (q2 := δ.p && allP ds) (fun z => (Bool.and_eq_true_iff.mp z).2) fun z => z).imp fun r S3 Hf3 H3 Fs3 _ R3 k3 o3 vs G row offG => ?_⟩
  refine o3.ok R3 (v :: vs) (fun b => F2 b ∨ G b) (.val (ow2.stay (k3.stay fun b z => .inr z)) row (fun _ z => .inl z) (fun _ z => .inr z) fun b f g => (offG b g).1 (.inr f)) fun b z => ?_
  rcases z with z | z
  · refine ⟨(off2 b z).1, k3.more b (off2 b z).2.1, fun i hi => R3.off i b hi (.inr z)⟩
  · exact ⟨fun q => (offG b z).1 (.inl q), (offG b z).2⟩
theorem row_val (h : Snd X W e δ) (hr : PA X es (tR X.K W (allP ds) (evA keep ds))) (hk : δ.k = .plain) (hs : starEach (e :: es) X.env = (false, eval e X.env) :: starEach es X.env) :
    PA X (e :: es) (tR X.K W (allP (δ :: ds)) (evA keep (δ :: ds))) := by
  refine (pa_cons h.v hr hs).weak fun σ H Q hq => row_cons_aux keep ?_
  have e1 : ∀ S, evA keep (δ :: ds) S = (δ.v S).bind fun t S1 => (evA keep ds S1).bind fun vs S2 => .ok ((false, .val (keepT keep t)) :: vs) S2 := fun S => by simp only [evA, hk]
  obtain ⟨S, Hf, Φ, Fs, R, o⟩ := hq
  rw [e1] at o
  exact ⟨S, Hf, Φ, Fs, R, o⟩
theorem row_moved (h : Snd X W e δ) (hr : PA X es (tR X.K W (allP ds) (evA keep ds))) (hs : starEach (e :: es) X.env = (false, eval e X.env) :: starEach es X.env) :
    PA X (e :: es) (tR X.K W (allP ({ δ with k := .moved } :: ds)) (evA keep ({ δ with k := .moved } :: ds))) := by
  refine (pa_cons h.v hr hs).weak fun σ H Q hq => row_cons_aux true hq
theorem items_of {K : PySem.W.Frag} {Hf : Hp} {x : V} {d : D} {ds : List D} (h : Fz K Hf x d) (e : items? d = some ds) : ∃ a xs, x = .ref a ∧ (SqT K Hf a xs ∨ SqL K Hf a xs) ∧ Fzs K Hf xs ds := by
  cases h with
  | tup h r => cases e; exact ⟨_, _, rfl, .inl h, r⟩
  | lst h r => cases e; exact ⟨_, _, rfl, .inr (.inl (.inl h)), r⟩
  | _ => cases e
theorem row_star (h : Snd X W e δ) (hr : PA X es (tR X.K W (allP ds) (evA keep ds))) (hs : starEach (.Starred e p0 :: es) X.env = (true, eval e X.env) :: starEach es X.env := by rfl) :
    PA X (.Starred e p0 :: es) (tR X.K W (allP ({ δ with k := .star } :: ds)) (evA keep ({ δ with k := .star } :: ds))) := by
  refine (StX.pa_star h.v hr hs).weak fun σ H Q hq => ?_
  obtain ⟨S, Hf, Φ, Fs, R, o⟩ := hq
  have o : Out X.K W σ (δ.p && allP ds) Φ Hf H ((δ.v S).bind fun t S1 => (Tk.R.opt S1 (items? t.frz)).bind fun _ S1 => (evA keep ds S1).bind fun vs S2 => .ok ((true, .val (.leaf t.frz)) :: vs) S2) _ := o
  refine ⟨S, Hf, Φ, Fs, R, (o.bind (q := δ.p) (q2 := δ.p && allP ds) (fun z => (Bool.and_eq_true_iff.mp z).1) fun z => z).imp fun t S1 Hf1 H1 Fs1 _ R1 k1 o1 v F ow off => ?_⟩
  have R2 := R1.freezeF off
  have kf : Kp (δ.p && allP ds) Φ Hf1 H1 (addF Hf1 H1 F) H1 := kp_freezeF fun b hb => (off b hb).1
  cases ei : items? t.frz with
  | none => rw [ei] at o1; exact o1.elim
  | some its =>
    rw [ei] at o1
    obtain ⟨a, xs, rfl, sq, fz⟩ := items_of ow.frozen ei
    refine ⟨a, xs, rfl, sq.imp (sqT_same R2.same) (sqL_same R2.same), ?_⟩
    have o1 : Out X.K W σ (δ.p && allP ds) Φ Hf1 H1 ((evA keep ds S1).bind fun vs S2 => .ok ((true, .val (.leaf t.frz)) :: vs) S2) _ := o1
    refine ⟨S1, _, Φ, Fs1, R2, ((o1.base (Ψ := Φ) kf (fun z => z) fun _ z => z).bind (q := allP ds) (q2 := δ.p && allP ds) (fun z => (Bool.and_eq_true_iff.mp z).2) fun z => z).imp fun r S3 Hf3 H3 Fs3 _ R3 k3 o3 vs G row offG => ?_⟩
    exact o3.ok R3 (xs ++ vs) G (.star ei (fz.mono k3.fz) row) offG
theorem row_bor {i : Nat} {x : Str} {pos : Pos} (hi : X.N[i]? = some x) (hv : Vis X.env.scope x) (hd : (x == ("__debug__" : Str)) = false) (hcd : (x == ("__classdict__" : Str)) = false) (hr : PA X es (tR X.K W (allP ds) (evA keep ds)))
    (hs : starEach (.Name x pos :: es) X.env = (false, eval (.Name x pos) X.env) :: starEach es X.env) :
    PA X (.Name x pos :: es) (tR X.K W (allP ({ Den.of false vBad with k := .lent i (fun S => .ok [] S) } :: ds)) (evA keep ({ Den.of false vBad with k := .lent i (fun S => .ok [] S) } :: ds))) := by
  refine (pa_cons (pe_var hi hv hd hcd) hr hs).weak fun σ H Q hq => ?_
  obtain ⟨S, Hf, Φ, Fs, R, o⟩ := hq
  have o : Out X.K W σ false Φ Hf H (if ownB S i then (evA keep ds S).bind fun vs S2 => .ok ((false, .bor i []) :: vs) S2 else .bad) _ := o
  cases eb : ownB S i with
  | false => rw [eb] at o; exact o.elim
  | true =>
    rw [eb, if_pos rfl] at o
    obtain ⟨t, et⟩ : ∃ t, S[i]? = some (.own t) := by
      unfold ownB getS at eb
      cases q : S[i]? with
      | none => rw [q] at eb; cases eb
      | some s => cases s with
        | own t => exact ⟨t, rfl⟩
        | _ => rw [q] at eb; cases eb
    obtain ⟨v, ev, _⟩ := R.own i t et
    refine ⟨v, ev, S, Hf, Φ, Fs, R, (o.bind (q := allP ds) (q2 := false) (fun z => nomatch z) fun z => z).imp fun r S3 Hf3 H3 Fs3 _ R3 k3 o3 vs G row offG => ?_⟩
    exact o3.ok R3 (v :: vs) G (.bor ev row) offG
end
end Tk
end
section
set_option linter.all false
set_option maxRecDepth 100000
set_option maxHeartbeats 4000000
/-! The operators, by values. -/
namespace Tk
open PySem PySem.Spec PyProof.Rows L2

/-! ## data as the library's data -/
mutual
def D.py : D → PyData
  | .non => .none
  | .bl b => .bool b
  | .int i => .int i
  | .str x => .str x
  | .tup ds => .tuple (D.pys ds)
  | .lst ds => .list (D.pys ds)
  | _ => .none
def D.pys : List D → List PyData
  | [] => []
  | d :: ds => d.py :: D.pys ds
end
theorem pys_map (ds : List D) : D.pys ds = ds.map D.py := by
  induction ds with
  | nil => rfl
  | cons d ds ih => show d.py :: D.pys ds = _; rw [ih]; rfl
theorem pys_length (ds : List D) : (D.pys ds).length = ds.length := by rw [pys_map, List.length_map]
theorem plainN_no {n : Nat} : (∀ ks vs, D.plainN n (.dic ks vs) = false) ∧ (∀ c ns vs, D.plainN n (.ins c ns vs) = false) ∧ (∀ c ns vs, D.plainN n (.exn c ns vs) = false) ∧ (∀ is, D.plainN n (.scr is) = false) := by
  cases n <;> simp [D.plainN]
theorem plainN_tup {n : Nat} {ds : List D} (h : D.plainN n (.tup ds) = true) : ∃ m, n = m + 1 ∧ D.plainsN m ds = true := by
  cases n with
  | zero => simp [D.plainN] at h
  | succ m => exact ⟨m, rfl, by simpa [D.plainN] using h⟩
theorem plainN_lst {n : Nat} {ds : List D} (h : D.plainN n (.lst ds) = true) : ∃ m, n = m + 1 ∧ D.plainsN m ds = true := by
  cases n with
  | zero => simp [D.plainN] at h
  | succ m => exact ⟨m, rfl, by simpa [D.plainN] using h⟩
theorem bfalse {b : Bool} (h : b = true) (h2 : b = false) : False := by rw [h] at h2; cases h2
mutual
theorem Fz.dp {K : PySem.W.Frag} {H : Hp} {v : V} {d : D} (h : Fz K H v d) (n : Nat) (e : D.plainN n d = true) : Dp K H v d.py := match h with
  | .non => .non
  | .bl => .bl _
  | .int => .int _
  | .str => .str _
  | .tup h r => let ⟨m, _, e⟩ := plainN_tup e; .tup h (Fzs.dp r m e)
  | .lst h r => let ⟨m, _, e⟩ := plainN_lst e; .lst (.inl (.inl h)) (Fzs.dp r m e)
  | .scr _ => (bfalse e (plainN_no.2.2.2 _)).elim
  | .dicK .. => (bfalse e (plainN_no.1 _ _)).elim
  | .dicT .. => (bfalse e (plainN_no.1 _ _)).elim
  | .ins .. => (bfalse e (plainN_no.2.1 _ _ _)).elim
theorem Fzs.dp {K : PySem.W.Frag} {H : Hp} {vs : List V} {ds : List D} (h : Fzs K H vs ds) (n : Nat) (e : D.plainsN n ds = true) : DpAll K H vs (D.pys ds) := match h with
  | .nil => .nil
  | .cons (d := d) (ds := ds) h r =>
    have e' : (D.plainN n d && D.plainsN n ds) = true := by simpa [D.plainsN] using e
    .cons (h.dp n (Bool.and_eq_true_iff.mp e').1) (r.dp n (Bool.and_eq_true_iff.mp e').2)
end
mutual
theorem plain_py : ∀ (n : Nat) (d : D), D.plainN n d = true → d.py.plain = true
  | _, .non, _ => rfl
  | _, .bl _, _ => rfl
  | _, .int _, _ => rfl
  | _, .str _, _ => rfl
  | 0, .tup a, e => by simp [D.plainN] at e
  | 0, .lst a, e => by simp [D.plainN] at e
  | n + 1, .tup a, e => plain_pys n a (by simpa [D.plainN] using e)
  | n + 1, .lst a, e => plain_pys n a (by simpa [D.plainN] using e)
  | n, .dic _ _, e => by cases n <;> simp [D.plainN] at e
  | n, .ins _ _ _, e => by cases n <;> simp [D.plainN] at e
  | n, .exn _ _ _, e => by cases n <;> simp [D.plainN] at e
  | n, .scr _, e => by cases n <;> simp [D.plainN] at e
theorem plain_pys : ∀ (n : Nat) (ds : List D), D.plainsN n ds = true → PyData.plainAll (D.pys ds) = true
  | _, [], _ => rfl
  | n, d :: ds, e => by
    have e' : (D.plainN n d && D.plainsN n ds) = true := by simpa [D.plainsN] using e
    simp [D.pys, PyData.plainAll, plain_py n d (Bool.and_eq_true_iff.mp e').1, plain_pys n ds (Bool.and_eq_true_iff.mp e').2]
end
mutual
theorem dep_py : ∀ (n : Nat) (d : D), D.plainN n d = true → d.py.depth ≤ n
  | _, .non, _ => by simp [D.py, PyData.depth]
  | _, .bl _, _ => by simp [D.py, PyData.depth]
  | _, .int _, _ => by simp [D.py, PyData.depth]
  | _, .str _, _ => by simp [D.py, PyData.depth]
  | 0, .tup a, e => by simp [D.plainN] at e
  | 0, .lst a, e => by simp [D.plainN] at e
  | n + 1, .tup a, e => by have := dep_pys n a (by simpa [D.plainN] using e); simp [D.py, PyData.depth]; omega
  | n + 1, .lst a, e => by have := dep_pys n a (by simpa [D.plainN] using e); simp [D.py, PyData.depth]; omega
  | n, .dic _ _, e => by cases n <;> simp [D.plainN] at e
  | n, .ins _ _ _, e => by cases n <;> simp [D.plainN] at e
  | n, .exn _ _ _, e => by cases n <;> simp [D.plainN] at e
  | n, .scr _, e => by cases n <;> simp [D.plainN] at e
theorem dep_pys : ∀ (n : Nat) (ds : List D), D.plainsN n ds = true → PyData.depthAll (D.pys ds) ≤ n
  | _, [], _ => by simp [D.pys, PyData.depthAll]
  | n, d :: ds, e => by
    have e' : (D.plainN n d && D.plainsN n ds) = true := by simpa [D.plainsN] using e
    have h1 := dep_py n d (Bool.and_eq_true_iff.mp e').1
    have h2 := dep_pys n ds (Bool.and_eq_true_iff.mp e').2
    simp [D.pys, PyData.depthAll]
    omega
end
mutual
theorem eqv_py : ∀ (n m : Nat) (a b : D), D.plainN n a = true → D.plainN m b = true → PyData.eqv a.py b.py = D.eqv a b
  | n, m, .non, b, _, h => by
    have q := plainN_no (n := m)
    cases b <;> simp_all [D.py, PyData.eqv, D.eqv]
  | n, m, .bl a, b, _, h => by
    have q := plainN_no (n := m)
    cases b <;> simp_all [D.py, PyData.eqv, D.eqv, D.num] <;> (try (rename_i b; cases a <;> cases b <;> rfl)) <;> (try (cases a <;> simp <;> rw [Bool.eq_iff_iff] <;> simp <;> constructor <;> intro z <;> exact z.symm))
  | n, m, .int a, b, _, h => by
    have q := plainN_no (n := m)
    cases b <;> simp_all [D.py, PyData.eqv, D.eqv, D.num] <;> (try (rw [Bool.eq_iff_iff]; simp))
  | n, m, .str a, b, _, h => by
    have q := plainN_no (n := m)
    cases b <;> simp_all [D.py, PyData.eqv, D.eqv, D.num] <;> (try (rw [Bool.eq_iff_iff]; simp))
  | 0, m, .tup a, b, e, _ => by simp [D.plainN] at e
  | 0, m, .lst a, b, e, _ => by simp [D.plainN] at e
  | n + 1, m, .tup a, b, e, h => by
    have q := plainN_no (n := m)
    cases b with
    | tup b => cases m with
      | zero => simp [D.plainN] at h
      | succ m => simpa [D.py, PyData.eqv, D.eqv] using eqvs_py n m a b (by simpa [D.plainN] using e) (by simpa [D.plainN] using h)
    | _ => simp_all [D.py, PyData.eqv, D.eqv]
  | n + 1, m, .lst a, b, e, h => by
    have q := plainN_no (n := m)
    cases b with
    | lst b => cases m with
      | zero => simp [D.plainN] at h
      | succ m => simpa [D.py, PyData.eqv, D.eqv] using eqvs_py n m a b (by simpa [D.plainN] using e) (by simpa [D.plainN] using h)
    | _ => simp_all [D.py, PyData.eqv, D.eqv]
  | n, m, .dic _ _, b, e, _ => by cases n <;> simp [D.plainN] at e
  | n, m, .ins _ _ _, b, e, _ => by cases n <;> simp [D.plainN] at e
  | n, m, .exn _ _ _, b, e, _ => by cases n <;> simp [D.plainN] at e
  | n, m, .scr _, b, e, _ => by cases n <;> simp [D.plainN] at e
theorem eqvs_py : ∀ (n m : Nat) (a b : List D), D.plainsN n a = true → D.plainsN m b = true → PyData.eqvAll (D.pys a) (D.pys b) = D.eqvs a b
  | n, m, [], [], _, _ => by simp [D.pys, PyData.eqvAll, D.eqvs]
  | n, m, [], _ :: _, _, _ => by simp [D.pys, PyData.eqvAll, D.eqvs]
  | n, m, _ :: _, [], _, _ => by simp [D.pys, PyData.eqvAll, D.eqvs]
  | n, m, a :: as, b :: bs, e, h => by
    have e' : (D.plainN n a && D.plainsN n as) = true := by simpa [D.plainsN] using e
    have h' : (D.plainN m b && D.plainsN m bs) = true := by simpa [D.plainsN] using h
    simp only [D.pys, PyData.eqvAll, D.eqvs]
    rw [eqv_py n m a b (Bool.and_eq_true_iff.mp e').1 (Bool.and_eq_true_iff.mp h').1, eqvs_py n m as bs (Bool.and_eq_true_iff.mp e').2 (Bool.and_eq_true_iff.mp h').2]
end
mutual
theorem alike_py : ∀ a b : D, D.alike a b = true → PySem.W.alike a.py b.py = true
  | .non, b, h => by cases b <;> simp_all [D.alike, D.py, PySem.W.alike]
  | .bl _, b, h => by cases b <;> simp_all [D.alike, D.py, PySem.W.alike]
  | .int _, b, h => by cases b <;> simp_all [D.alike, D.py, PySem.W.alike]
  | .str _, b, h => by cases b <;> simp_all [D.alike, D.py, PySem.W.alike]
  | .tup a, b, h => by cases b <;> simp_all [D.alike, D.py, PySem.W.alike]; exact alikes_py _ _ h
  | .lst a, b, h => by cases b <;> simp_all [D.alike, D.py, PySem.W.alike]; exact alikes_py _ _ h
  | .dic _ _, b, h => by cases b <;> simp_all [D.alike]
  | .ins _ _ _, b, h => by cases b <;> simp_all [D.alike]
  | .exn _ _ _, b, h => by cases b <;> simp_all [D.alike]
  | .scr _, b, h => by cases b <;> simp_all [D.alike]
theorem alikes_py : ∀ a b : List D, D.alikes a b = true → PySem.W.alikeAll (D.pys a) (D.pys b) = true
  | [], _, _ => by simp [D.pys, PySem.W.alikeAll]
  | _ :: _, [], _ => by simp [D.pys, PySem.W.alikeAll]
  | a :: as, b :: bs, h => by
    have h' : (D.alike a b && D.alikes as bs) = true := by simpa [D.alikes] using h
    simp only [D.pys, PySem.W.alikeAll, alike_py a b (Bool.and_eq_true_iff.mp h').1, alikes_py as bs (Bool.and_eq_true_iff.mp h').2, Bool.and_self]
end
mutual
theorem alike_swap : ∀ a b : D, D.alike a b = true → D.alike b a = true
  | .non, b, h => by cases b <;> simp_all [D.alike]
  | .bl _, b, h => by cases b <;> simp_all [D.alike]
  | .int _, b, h => by cases b <;> simp_all [D.alike]
  | .str _, b, h => by cases b <;> simp_all [D.alike]
  | .tup a, b, h => by cases b <;> simp_all [D.alike]; exact alikes_swap _ _ h
  | .lst a, b, h => by cases b <;> simp_all [D.alike]; exact alikes_swap _ _ h
  | .dic _ _, b, h => by cases b <;> simp_all [D.alike]
  | .ins _ _ _, b, h => by cases b <;> simp_all [D.alike]
  | .exn _ _ _, b, h => by cases b <;> simp_all [D.alike]
  | .scr _, b, h => by cases b <;> simp_all [D.alike]
theorem alikes_swap : ∀ a b : List D, D.alikes a b = true → D.alikes b a = true
  | [], [], _ => by simp [D.alikes]
  | [], _ :: _, _ => by simp [D.alikes]
  | _ :: _, [], _ => by simp [D.alikes]
  | a :: as, b :: bs, h => by
    have h' : (D.alike a b && D.alikes as bs) = true := by simpa [D.alikes] using h
    simp only [D.alikes, alike_swap a b (Bool.and_eq_true_iff.mp h').1, alikes_swap as bs (Bool.and_eq_true_iff.mp h').2, Bool.and_self]
end
mutual
theorem lt_py : ∀ (n m : Nat) (a b : D), D.plainN n a = true → D.plainN m b = true → D.alike a b = true → PySem.W.dataLt a.py b.py = D.lt a b
  | n, m, .non, b, _, _, h => by cases b <;> simp_all [D.alike]; rfl
  | n, m, .bl a, b, _, _, h => by
    cases b with
    | bl b => exact (PySem.W.dataLt_bool a b).trans (by cases a <;> cases b <;> decide)
    | _ => simp [D.alike] at h
  | n, m, .int a, b, _, _, h => by
    cases b with
    | int b => exact PySem.W.dataLt_int a b
    | _ => simp [D.alike] at h
  | n, m, .str a, b, _, _, h => by
    cases b with
    | str b => exact PySem.W.dataLt_str a b
    | _ => simp [D.alike] at h
  | 0, m, .tup a, b, e, _, _ => by simp [D.plainN] at e
  | 0, m, .lst a, b, e, _, _ => by simp [D.plainN] at e
  | n + 1, m, .tup a, b, e, h, k => by
    cases b with
    | tup b => cases m with
      | zero => simp [D.plainN] at h
      | succ m => exact lts_py n m a b (by simpa [D.plainN] using e) (by simpa [D.plainN] using h) (by simpa [D.alike] using k)
    | _ => simp_all [D.alike]
  | n + 1, m, .lst a, b, e, h, k => by
    cases b with
    | lst b => cases m with
      | zero => simp [D.plainN] at h
      | succ m => exact lts_py n m a b (by simpa [D.plainN] using e) (by simpa [D.plainN] using h) (by simpa [D.alike] using k)
    | _ => simp_all [D.alike]
  | n, m, .dic _ _, b, e, _, _ => by cases n <;> simp [D.plainN] at e
  | n, m, .ins _ _ _, b, e, _, _ => by cases n <;> simp [D.plainN] at e
  | n, m, .exn _ _ _, b, e, _, _ => by cases n <;> simp [D.plainN] at e
  | n, m, .scr _, b, e, _, _ => by cases n <;> simp [D.plainN] at e
theorem lts_py : ∀ (n m : Nat) (a b : List D), D.plainsN n a = true → D.plainsN m b = true → D.alikes a b = true → PyProof.Rows.lexLt PyProof.Rows.itemOrd (PySem.W.keyToksAll (D.pys a)) (PySem.W.keyToksAll (D.pys b)) = D.lts a b
  | n, m, [], [], _, _, _ => by rfl
  | n, m, [], _ :: _, _, _, _ => by
    show PyProof.Rows.lexLt PyProof.Rows.itemOrd [.inl 0] (.inl 1 :: _) = true
    rw [PySem.W.lex_atom (by decide)]
    decide
  | n, m, _ :: _, [], _, _, _ => by
    show PyProof.Rows.lexLt PyProof.Rows.itemOrd (.inl 1 :: _) [.inl 0] = false
    rw [PySem.W.lex_atom (by decide)]
    decide
  | n, m, a :: as, b :: bs, e, h, k => by
    have e' : (D.plainN n a && D.plainsN n as) = true := by simpa [D.plainsN] using e
    have h' : (D.plainN m b && D.plainsN m bs) = true := by simpa [D.plainsN] using h
    have k' : (D.alike a b && D.alikes as bs) = true := by simpa [D.alikes] using k
    have e1 := Bool.and_eq_true_iff.mp e'
    have h1 := Bool.and_eq_true_iff.mp h'
    have k1 := Bool.and_eq_true_iff.mp k'
    show PyProof.Rows.lexLt PyProof.Rows.itemOrd (PySem.W.keyToksAll (a.py :: D.pys as)) (PySem.W.keyToksAll (b.py :: D.pys bs)) = _
    rw [PySem.W.dataLt_cons (alike_py a b k1.1), eqv_py n m a b e1.1 h1.1, lt_py n m a b e1.1 h1.1 k1.1, lts_py n m as bs e1.2 h1.2 k1.2]
    simp only [D.lts]
end

/-! ## new things -/
section
variable {K : PySem.W.Frag} {Hf H : Hp}
theorem fr0 (e : Same Hf H) {p : Addr} (h : H p = none) : Hf p = none := by
  cases q : Hf p with
  | none => rfl
  | some o => rw [e p o q] at h; cases h
theorem same_upd {G : Hp} {p : Addr} {o : HO} (h : G p = none) : Same G (upd G p o) := fun b u e => by
  by_cases z : b = p
  · subst z; rw [h] at e; cases e
  · rw [upd_ne z]; exact e
theorem new_own {p : Addr} {o : HO} {t : OT} (e : Same Hf H) (h : H p = none) (ow : Ow K Hf (upd H p o) (.ref p) t fun b => b = p) : New K Hf H (.ref p) t Hf (upd H p o) fun b => b = p :=
  ⟨same_upd h, Same.refl _, e.trans (same_upd h), fun _ h1 h2 => absurd h1 h2, ow, fun b z => by subst z; exact ⟨h, by rw [upd_same]; simp⟩⟩
theorem New.lst {p : Addr} {vs : List V} {ds : List D} (e : Same Hf H) (h : H p = none) (r : Fzs K Hf vs ds) : New K Hf H (.ref p) (.lst (leafs ds)) Hf (upd H p (.lst vs)) fun b => b = p :=
  new_own e h (.lst (G := fun _ => False) upd_same (fr0 e h) rfl (fun _ z => z.elim) (fun z => z) (ows_leafs r))
theorem New.dicK {p : Addr} {kvs : List (Key × V)} {ks ds : List D} (e : Same Hf H) (h : H p = none) (hk : ks = kvs.map (fun p => keyD p.1)) (r : Fzs K Hf (kvs.map (·.2)) ds) : New K Hf H (.ref p) (.dic ks (leafs ds)) Hf (upd H p (.dK kvs)) fun b => b = p :=
  new_own e h (.dicK (G := fun _ => False) upd_same (fr0 e h) rfl (fun _ z => z.elim) (fun z => z) hk (ows_leafs r))
theorem New.dicT {p : Addr} {kvs : List (List Key × V)} {ks ds : List D} (e : Same Hf H) (h : H p = none) (hk : ks = kvs.map (fun p => D.tup (p.1.map keyD))) (r : Fzs K Hf (kvs.map (·.2)) ds) : New K Hf H (.ref p) (.dic ks (leafs ds)) Hf (upd H p (.dT kvs)) fun b => b = p :=
  new_own e h (.dicT (G := fun _ => False) upd_same (fr0 e h) rfl (fun _ z => z.elim) (fun z => z) hk (ows_leafs r))
theorem New.tup {p : Addr} {vs : List V} {ds : List D} (e : Same Hf H) (h : H p = none) (r : Fzs K Hf vs ds) : New K Hf H (.ref p) (.leaf (.tup ds)) (upd Hf p (.tup vs)) (upd H p (.tup vs)) fun _ => False :=
  ⟨same_upd h, same_upd (fr0 e h), fun b o q => by
    by_cases z : b = p
    · subst z; rw [upd_same] at q ⊢; exact q
    · rw [upd_ne z] at q ⊢; exact e b o q,
  fun b h1 h2 => by
    by_cases z : b = p
    · subst z; exact h
    · rw [upd_ne z] at h2; exact absurd h1 h2,
  .leaf (.tup (.inl (.inl upd_same)) (r.mono (same_upd (fr0 e h)))), fun _ z => z.elim⟩
/-- what stands already -/
theorem New.old {v : V} {d : D} (e : Same Hf H) (h : Fz K Hf v d) : New K Hf H v (.leaf d) Hf H (fun _ => False) := New.scalar e h
end

/-! ## the answers of operators -/
inductive Pks (K : PySem.W.Frag) (fl : Bool) (Hf H : Hp) : List V → List D → Prop
  | nil : Pks K fl Hf H [] []
  | cons {v vs d ds} : Pk K fl Hf H v d → Pks K fl Hf H vs ds → Pks K fl Hf H (v :: vs) (d :: ds)
def rD (K : PySem.W.Frag) (sup : Str → List Str) (p : P) : List V → Hp → VK → Prop := fun vs H Q => ∃ Hf ds d, Same Hf H ∧ Pks K p.keeps Hf H vs ds ∧ p.sem sup ds = some d ∧ ∀ v Hf' H' F, New K Hf H v (if p.made then d.fresh else .leaf d) Hf' H' F → Q v H'
section
variable {K : PySem.W.Frag} {sup : Str → List Str} {p : P} {vs : List V} {x y z : V} {H : Hp} {Q : VK}
theorem rD.one (h : rD K sup p [x] H Q) : ∃ Hf a d, Same Hf H ∧ Pk K p.keeps Hf H x a ∧ p.sem sup [a] = some d ∧ ∀ v Hf' H' F, New K Hf H v (if p.made then d.fresh else .leaf d) Hf' H' F → Q v H' := by
  obtain ⟨Hf, ds, d, e, pk, hs, q⟩ := h
  cases pk with
  | cons p1 pk => cases pk with
    | nil => exact ⟨Hf, _, d, e, p1, hs, q⟩
theorem rD.two (h : rD K sup p [x, y] H Q) : ∃ Hf a b d, Same Hf H ∧ Pk K p.keeps Hf H x a ∧ Pk K p.keeps Hf H y b ∧ p.sem sup [a, b] = some d ∧ ∀ v Hf' H' F, New K Hf H v (if p.made then d.fresh else .leaf d) Hf' H' F → Q v H' := by
  obtain ⟨Hf, ds, d, e, pk, hs, q⟩ := h
  cases pk with
  | cons p1 pk => cases pk with
    | cons p2 pk => cases pk with
      | nil => exact ⟨Hf, _, _, d, e, p1, p2, hs, q⟩
end
theorem chk_some {b : Bool} {d x : D} (h : Tk.chk b d = some x) : b = true ∧ x = d := by
  unfold Tk.chk at h
  split at h
  · exact ⟨rfl, (Option.some.inj h).symm⟩
  · cases h
/-- an int, looked at -/
theorem pk_int {K : PySem.W.Frag} {fl : Bool} {Hf H : Hp} {x : V} {i : Int} (h : Pk K fl Hf H x (.int i)) : x = .int i := by
  cases fl with
  | true => cases h with | fz h => cases h; rfl
  | false => cases (h : Fz K H x _); rfl
theorem pk_str {K : PySem.W.Frag} {fl : Bool} {Hf H : Hp} {x : V} {i : Str} (h : Pk K fl Hf H x (.str i)) : x = .str i := by
  cases fl with
  | true => cases h with | fz h => cases h; rfl
  | false => cases (h : Fz K H x _); rfl
theorem pk_bl {K : PySem.W.Frag} {fl : Bool} {Hf H : Hp} {x : V} {i : Bool} (h : Pk K fl Hf H x (.bl i)) : x = .bl i := by
  cases fl with
  | true => cases h with | fz h => cases h; rfl
  | false => cases (h : Fz K H x _); rfl
/-- a list whose parts are kept -/
theorem pk_lstT {K : PySem.W.Frag} {Hf H : Hp} (e : Same Hf H) {x : V} {ds : List D} (h : Pk K true Hf H x (.lst ds)) : ∃ a vs, x = .ref a ∧ H a = some (.lst vs) ∧ Fzs K Hf vs ds := by
  cases h with
  | fz h => cases h with | lst h r => exact ⟨_, _, rfl, e _ _ h, r⟩
  | lst h r => exact ⟨_, _, rfl, h, r⟩
theorem pk_tupT {K : PySem.W.Frag} {Hf H : Hp} (e : Same Hf H) {x : V} {ds : List D} (h : Pk K true Hf H x (.tup ds)) : ∃ a vs, x = .ref a ∧ SqT K H a vs ∧ Fzs K Hf vs ds ∧ Fz K Hf x (.tup ds) := by
  cases h with
  | fz h => cases h with | tup h r => exact ⟨_, _, rfl, sqT_same e h, r, .tup h r⟩
theorem pk_lst {K : PySem.W.Frag} {fl : Bool} {Hf H : Hp} (e : Same Hf H) {x : V} {ds : List D} (h : Pk K fl Hf H x (.lst ds)) : ∃ a vs, x = .ref a ∧ H a = some (.lst vs) ∧ Fzs K H vs ds := by
  cases Pk.all e h with | lst g r => exact ⟨_, _, rfl, g, r⟩
theorem pk_tup {K : PySem.W.Frag} {fl : Bool} {Hf H : Hp} (e : Same Hf H) {x : V} {ds : List D} (h : Pk K fl Hf H x (.tup ds)) : ∃ a vs, x = .ref a ∧ SqT K H a vs ∧ Fzs K H vs ds := by
  cases Pk.all e h with | tup g r => exact ⟨_, _, rfl, g, r⟩
theorem fzs_ints {K : PySem.W.Frag} {H : Hp} : ∀ {ds : List D} {vs : List V} {ns : List Int}, Fzs K H vs ds → intsOf ds = some ns → vs = ns.map V.int
  | [], _, _, .nil, e => by cases e; rfl
  | d :: ds, _, ns, .cons h r, e => by
    cases d with
    | int i =>
      have e : (intsOf ds).map (i :: ·) = some ns := e
      cases q : intsOf ds with
      | none => rw [q] at e; cases e
      | some ms => rw [q] at e; cases e; cases h; rw [fzs_ints r q]; rfl
    | _ => cases e
theorem fzs_bools {K : PySem.W.Frag} {H : Hp} : ∀ {ds : List D} {vs : List V} {ns : List Bool}, Fzs K H vs ds → boolsOf ds = some ns → vs = ns.map V.bl
  | [], _, _, .nil, e => by cases e; rfl
  | d :: ds, _, ns, .cons h r, e => by
    cases d with
    | bl i =>
      have e : (boolsOf ds).map (i :: ·) = some ns := e
      cases q : boolsOf ds with
      | none => rw [q] at e; cases e
      | some ms => rw [q] at e; cases e; cases h; rw [fzs_bools r q]; rfl
    | _ => cases e
theorem fzs_strs {K : PySem.W.Frag} {H : Hp} : ∀ {ds : List D} {vs : List V} {ns : List Str}, Fzs K H vs ds → strsOf ds = some ns → vs = ns.map V.str
  | [], _, _, .nil, e => by cases e; rfl
  | d :: ds, _, ns, .cons h r, e => by
    cases d with
    | str i =>
      have e : (strsOf ds).map (i :: ·) = some ns := e
      cases q : strsOf ds with
      | none => rw [q] at e; cases e
      | some ms => rw [q] at e; cases e; cases h; rw [fzs_strs r q]; rfl
    | _ => cases e
section
variable {X : Cx} {sup : Str → List Str}
theorem q_add : OpR X (binaryOp .Add) fun x y => rD X.K sup .add [x, y] := by
  intro pins s σ H x y v u Q I rx ry h
  obtain ⟨Hf, a, b, d, e, p1, p2, hs, q⟩ := h.two
  have hs : sAdd [a, b] = some d := hs
  unfold sAdd at hs
  split at hs <;> rename_i hh <;> (try cases hh)
  · cases hs
    exact op_add pins s σ H _ _ v u Q I rx ry ⟨_, _, pk_int p1, pk_int p2, q _ _ _ _ (New.scalar e .int)⟩
  · obtain ⟨h1, rfl⟩ := chk_some hs
    exact op_add_str pins s σ H _ _ v u Q I rx ry ⟨_, _, pk_str p1, pk_str p2, of_decide_eq_true h1, q _ _ _ _ (New.scalar e .str)⟩
  · obtain ⟨h1, rfl⟩ := chk_some hs
    have h1 := of_decide_eq_true h1
    obtain ⟨_, _, rfl, g1, r1⟩ := pk_lstT e p1
    obtain ⟨_, _, rfl, g2, r2⟩ := pk_lstT e p2
    refine op_cat pins s σ H _ _ v u Q I rx ry ⟨_, _, _, _, rfl, rfl, g1, g2, by rw [r1.length, r2.length]; exact h1, fun p hp => q _ _ _ _ (New.lst e hp (r1.append r2))⟩
  · obtain ⟨h1, rfl⟩ := chk_some hs
    have h1 := of_decide_eq_true h1
    obtain ⟨_, xs, rfl, g1, r1, z1⟩ := pk_tupT e p1
    obtain ⟨_, ys, rfl, g2, r2, z2⟩ := pk_tupT e p2
    refine op_catA pins s σ H _ _ v u Q I rx ry ⟨_, _, xs, ys, rfl, rfl, g1, g2, by rw [r1.length, r2.length]; exact h1, fun ex => ?_, fun ex ey => ?_, fun ex ey p hp => q _ _ _ _ (New.tup e hp (r1.append r2))⟩
    · subst ex
      cases r1
      exact q _ _ _ _ (New.old e z2)
    · subst ey
      cases r2
      rw [List.append_nil] at q
      exact q _ _ _ _ (New.old e z1)
  · cases hs
/-- ints in -/
theorem rD_int2 {K : PySem.W.Frag} {f : P} {g : Int → Int → D} {C : Int → Int → Prop} {x y : V} {H : Hp} {Q : VK} (h : rD K sup f [x, y] H Q) (hm : f.made = false)
    (hs : ∀ a b d, f.sem sup [a, b] = some d → ∃ i j, a = .int i ∧ b = .int j ∧ C i j ∧ d = g i j) : ∃ i j, x = .int i ∧ y = .int j ∧ C i j ∧ ∀ v, (∀ Hf : Hp, Fz K Hf v (g i j)) → Q v H := by
  obtain ⟨Hf, a, b, d, e, p1, p2, h1, q⟩ := h.two
  obtain ⟨i, j, rfl, rfl, c, rfl⟩ := hs _ _ _ h1
  rw [hm] at q
  refine ⟨i, j, pk_int p1, pk_int p2, c, fun v hv => q v Hf H (fun _ => False) ?_⟩
  exact New.scalar e (hv Hf)
theorem q_sub : OpR X (binaryOp .Sub) fun x y => rD X.K sup .sub [x, y] := by
  intro pins s σ H x y v u Q I rx ry h
  obtain ⟨i, j, e1, e2, _, q⟩ := rD_int2 (g := fun i j => .int (i - j)) (C := fun _ _ => True) h rfl fun a b d hs => by
    have hs : sSub [a, b] = some d := hs
    unfold sSub at hs
    split at hs <;> rename_i hh <;> (try cases hh) <;> cases hs
    exact ⟨_, _, rfl, rfl, trivial, rfl⟩
  exact op_sub pins s σ H _ _ v u Q I rx ry ⟨i, j, e1, e2, q _ fun _ => .int⟩
theorem q_fdiv : OpR X (binaryOp .FloorDiv) fun x y => rD X.K sup .fdiv [x, y] := by
  intro pins s σ H x y v u Q I rx ry h
  obtain ⟨i, j, e1, e2, c, q⟩ := rD_int2 (g := fun i j => .int (i.fdiv j)) (C := CDivN) h rfl fun a b d hs => by
    have hs : sFdiv [a, b] = some d := hs
    unfold sFdiv at hs
    split at hs <;> rename_i hh <;> (try cases hh)
    · obtain ⟨h1, rfl⟩ := chk_some hs
      simp only [Bool.and_eq_true, decide_eq_true_eq] at h1
      exact ⟨_, _, rfl, rfl, h1, rfl⟩
    · cases hs
  exact op_fdivN pins s σ H _ _ v u Q I rx ry ⟨i, j, e1, e2, c, q _ fun _ => .int⟩
theorem q_mod : OpR X (binaryOp .Mod) fun x y => rD X.K sup .mod [x, y] := by
  intro pins s σ H x y v u Q I rx ry h
  obtain ⟨i, j, e1, e2, c, q⟩ := rD_int2 (g := fun i j => .int (i.fmod j)) (C := fun _ j => j ≠ 0) h rfl fun a b d hs => by
    have hs : sMod [a, b] = some d := hs
    unfold sMod at hs
    split at hs <;> rename_i hh <;> (try cases hh)
    · obtain ⟨h1, rfl⟩ := chk_some hs
      exact ⟨_, _, rfl, rfl, of_decide_eq_true h1, rfl⟩
    · cases hs
  exact op_modN pins s σ H _ _ v u Q I rx ry ⟨i, j, e1, e2, c, q _ fun _ => .int⟩
theorem q_pow : OpR X (binaryOp .Pow) fun x y => rD X.K sup .pow [x, y] := by
  intro pins s σ H x y v u Q I rx ry h
  obtain ⟨i, j, e1, e2, c, q⟩ := rD_int2 (g := fun i j => .int (i ^ j.toNat)) (C := CPow) h rfl fun a b d hs => by
    have hs : sPow [a, b] = some d := hs
    unfold sPow at hs
    split at hs <;> rename_i hh <;> (try cases hh)
    · obtain ⟨h1, rfl⟩ := chk_some hs
      simp only [Bool.and_eq_true, decide_eq_true_eq] at h1
      exact ⟨_, _, rfl, rfl, ⟨h1.1.1, h1.1.2, h1.2⟩, rfl⟩
    · cases hs
  exact op_pow pins s σ H _ _ v u Q I rx ry ⟨i, j, e1, e2, c, q _ fun _ => .int⟩
theorem wide_ok {i j : Int} (h : wideOk i j = true) : CMulW i j ∨ CMul i j := by
  unfold wideOk at h
  simp only [Bool.or_eq_true, decide_eq_true_eq] at h
  rcases h with (h | h) | h
  · exact .inr (.inl (by omega))
  · exact .inr (.inr (by omega))
  · exact .inl (show _ < _ by omega)
theorem fzs_rep {K : PySem.W.Frag} {H : Hp} {vs : List V} {ds : List D} (h : Fzs K H vs ds) : ∀ n : Nat, Fzs K H (List.replicate n vs).flatten (List.replicate n ds).flatten
  | 0 => .nil
  | n + 1 => by
    rw [List.replicate_succ, List.replicate_succ, List.flatten_cons, List.flatten_cons]
    exact h.append (fzs_rep h n)
theorem okR_iff {i : Int} (h : okR i = true) : -(2 ^ 63) ≤ i ∧ i < 2 ^ 63 := by
  unfold okR at h
  simp only [Bool.and_eq_true, decide_eq_true_eq] at h
  omega
theorem cat_fold (a : Array Nat) : ∀ (m : Nat) (acc : Array Nat), (List.replicate m a).foldl (· ++ ·) acc = acc ++ (List.replicate m a.toList).flatten.toArray
  | 0, acc => by simp
  | m + 1, acc => by
    rw [List.replicate_succ, List.foldl_cons, cat_fold a m, List.replicate_succ, List.flatten_cons, Array.append_assoc]
    congr 1
    apply Array.toList_inj.mp
    simp
theorem mul_eq (x : Str) (n : Int) : Txt.mul x n = ⟨(List.replicate n.toNat x.cps.toList).flatten.toArray⟩ := by
  unfold Txt.mul
  split
  · rename_i h
    have e : n.toNat = 0 := by omega
    rw [e]; rfl
  · split
    · rename_i h h2
      obtain ⟨xs⟩ := x
      congr 1
      rcases Bool.or_eq_true_iff.mp h2 with h3 | h3
      · have e : n.toNat = 1 := by have := beq_iff_eq.mp h3; omega
        rw [e]; simp
      · have e : xs = #[] := by have := beq_iff_eq.mp h3; exact Array.size_eq_zero_iff.mp this
        subst e
        simp
    · rw [cat_fold]
      congr 1
      simp
theorem mul_ok {x : Str} {n : Int} (h : -(2 ^ 63) ≤ n ∧ n < 2 ^ 63) (h2 : x.cps.size * n.toNat ≤ lim) : MulOk x n := by
  have e : lim = 16777216 := rfl
  refine ⟨by simp; omega, fun h1 _ => ?_, fun h1 _ => ?_⟩
  · intro z
    have hn : (0 : Int) < n := by omega
    have h3 : (x.length : Int) ≤ (2 ^ 63 - 1) / n := by
      rw [Int.le_ediv_iff_mul_le hn]
      have e3 : ((x.cps.size * n.toNat : Nat) : Int) = (x.length : Int) * n := by
        rw [Int.natCast_mul, Int.toNat_of_nonneg (by omega)]; rfl
      rw [← e3]
      omega
    omega
  · unfold Builtin.Str.tooLong
    simp
    have e9 : sizeLine = 16777216 := by decide
    show x.cps.size * n.toNat ≤ _
    omega
theorem q_mul : OpR X (binaryOp .Mult) fun x y => rD X.K sup .mul [x, y] := by
  intro pins s σ H x y v u Q I rx ry h
  obtain ⟨Hf, a, b, d, e, p1, p2, hs, q⟩ := h.two
  have hs : sMul [a, b] = some d := hs
  unfold sMul at hs
  split at hs <;> rename_i hh <;> (try cases hh)
  · obtain ⟨h1, rfl⟩ := chk_some hs
    rcases wide_ok h1 with c | c
    · exact op_mulW pins s σ H _ _ v u Q I rx ry ⟨_, _, pk_int p1, pk_int p2, c, q _ _ _ _ (New.scalar e .int)⟩
    · exact op_mul pins s σ H _ _ v u Q I rx ry ⟨_, _, pk_int p1, pk_int p2, c, q _ _ _ _ (New.scalar e .int)⟩
  · obtain ⟨h1, rfl⟩ := chk_some hs
    have h1 := Bool.and_eq_true_iff.mp h1
    obtain ⟨_, _, rfl, g1, r1⟩ := pk_lstT e p1
    have e2 := pk_int p2
    subst e2
    have hb := okR_iff h1.1
    refine op_rep pins s σ H _ _ v u Q I rx ry ⟨_, _, _, rfl, rfl, g1, hb.1, hb.2, by rw [r1.length]; exact of_decide_eq_true h1.2, fun p hp => q _ _ _ _ (New.lst e hp (fzs_rep r1 _))⟩
  · obtain ⟨h1, rfl⟩ := chk_some hs
    have h1 := Bool.and_eq_true_iff.mp h1
    have e2 := pk_int p2
    subst e2
    have e1 := pk_str p1
    subst e1
    obtain ⟨t, rfl⟩ := rx
    obtain ⟨t', rfl⟩ := ry
    refine SB.mul (mul_ok (okR_iff h1.1) (of_decide_eq_true h1.2)) fun t2 k => ?_
    rw [mul_eq]
    exact ⟨.str _, H, I.tok _, ⟨_, rfl⟩, q _ _ _ _ (New.scalar e .str)⟩
  · cases hs
/-- the data of two operands -/
theorem q_cmp {r : R2} {f : P} {g : PyData → PyData → Bool} {k : D → D → Bool} {op : CmpOp} (hm : f.made = false) (hk : f.keeps = false)
    (hs : ∀ a b d, f.sem sup [a, b] = some d → a.plain = true ∧ b.plain = true ∧ d = .bl (k a b) ∧ (∀ {s : Shared} {A : Around} {v u : Value} {as bs : List Addr} {Q : Value → Shared → Prop} {E : Value → Shared → Prop}, A.units + 64 < cLine → Reads s.heap v a.py as → Reads s.heap u b.py bs →
      Q (.bool (k a b)) s → wpAny (model X.prog X.w) A (compareOp op v u) Q E s)) (hu : X.A.units + 64 < cLine) : OpR X (compareOp op) fun x y => rD X.K sup f [x, y] := by
  intro pins s σ H x y v u Q I rx ry h
  obtain ⟨Hf, a, b, d, e, p1, p2, h1, q⟩ := h.two
  obtain ⟨pa, pb, rfl, run⟩ := hs _ _ _ h1
  rw [hk] at p1 p2
  obtain ⟨as, r1⟩ := Dp.reads I _ _ _ (Fz.dp p1 60 pa) rx
  obtain ⟨bs, r2⟩ := Dp.reads I _ _ _ (Fz.dp p2 60 pb) ry
  rw [hm] at q
  exact run hu r1 r2 ⟨.bl _, H, I, rfl, q _ _ _ _ (New.scalar e .bl)⟩
theorem dep60 {d : D} (h : d.plain = true) : d.py.depth ≤ 60 := dep_py 60 d h
theorem q_eq (hu : X.A.units + 64 < cLine) : OpR X (compareOp .Eq) fun x y => rD X.K sup .eq [x, y] := q_cmp (k := D.eqv) (r := fun _ _ _ _ => True) (g := fun _ _ => true) rfl rfl (fun a b d hs => by
    have hs : sEq [a, b] = some d := hs
    unfold sEq at hs
    obtain ⟨h1, rfl⟩ := chk_some hs
    obtain ⟨pa, pb⟩ := Bool.and_eq_true_iff.mp h1
    refine ⟨pa, pb, rfl, fun hu r1 r2 hq => PySem.SeqAt.eq_plain r1 r2 (plain_py 60 _ pa) (plain_py 60 _ pb) (by have := dep60 pa; omega) ?_⟩
    rw [eqv_py 60 60 a b pa pb]
    exact hq) hu
theorem q_ne (hu : X.A.units + 64 < cLine) : OpR X (compareOp .NotEq) fun x y => rD X.K sup .ne [x, y] := q_cmp (k := fun a b => !D.eqv a b) (r := fun _ _ _ _ => True) (g := fun _ _ => true) rfl rfl (fun a b d hs => by
    have hs : sNe [a, b] = some d := hs
    unfold sNe at hs
    obtain ⟨h1, rfl⟩ := chk_some hs
    obtain ⟨pa, pb⟩ := Bool.and_eq_true_iff.mp h1
    refine ⟨pa, pb, rfl, fun hu r1 r2 hq => PySem.SeqAt.ne_plain r1 r2 (plain_py 60 _ pa) (plain_py 60 _ pb) (by have := dep60 pa; omega) ?_⟩
    rw [eqv_py 60 60 a b pa pb]
    exact hq) hu
theorem ord_ok {a b : D} (h : ordOk a b = true) : D.alike a b = true ∧ a.plain = true ∧ b.plain = true ∧ a.py ≠ .none := by
  unfold ordOk at h
  simp only [Bool.and_eq_true, Bool.not_eq_true', decide_eq_false_iff_not] at h
  obtain ⟨h1, h2, h3, h4⟩ := h
  refine ⟨h1, h2, h3, fun z => ?_⟩
  have q := plainN_no (n := 60)
  cases a <;> simp_all [D.py, D.plain]
theorem alike_symm {a b : D} (h : D.alike a b = true) (n m : Nat) (ha : D.plainN n a = true) (hb : D.plainN m b = true) : PySem.W.dataLt b.py a.py = D.lt b a := lt_py m n b a hb ha (alike_swap a b h)
theorem q_lt (hu : X.A.units + 64 < cLine) : OpR X (compareOp .Lt) fun x y => rD X.K sup .lt [x, y] := q_cmp (k := D.lt) (r := fun _ _ _ _ => True) (g := fun _ _ => true) rfl rfl (fun a b d hs => by
    have hs : sLt [a, b] = some d := hs
    unfold sLt at hs
    obtain ⟨h1, rfl⟩ := chk_some hs
    obtain ⟨al, pa, pb, nn⟩ := ord_ok h1
    refine ⟨pa, pb, rfl, fun hu r1 r2 hq => PySem.W.lt_data r1 r2 (alike_py _ _ al) nn (by have := dep60 pa; omega) ?_⟩
    rw [lt_py 60 60 a b pa pb al]
    exact hq) hu
theorem q_ge (hu : X.A.units + 64 < cLine) : OpR X (compareOp .GtE) fun x y => rD X.K sup .ge [x, y] := q_cmp (k := fun a b => !D.lt a b) (r := fun _ _ _ _ => True) (g := fun _ _ => true) rfl rfl (fun a b d hs => by
    have hs : sGe [a, b] = some d := hs
    unfold sGe at hs
    obtain ⟨h1, rfl⟩ := chk_some hs
    obtain ⟨al, pa, pb, nn⟩ := ord_ok h1
    refine ⟨pa, pb, rfl, fun hu r1 r2 hq => PySem.W.ge_data r1 r2 (alike_py _ _ al) nn (by have := dep60 pa; omega) ?_⟩
    rw [lt_py 60 60 a b pa pb al]
    exact hq) hu
theorem q_gt (hu : X.A.units + 64 < cLine) : OpR X (compareOp .Gt) fun x y => rD X.K sup .gt [x, y] := q_cmp (k := fun a b => D.lt b a) (r := fun _ _ _ _ => True) (g := fun _ _ => true) rfl rfl (fun a b d hs => by
    have hs : sGt [a, b] = some d := hs
    unfold sGt at hs
    obtain ⟨h1, rfl⟩ := chk_some hs
    obtain ⟨al, pa, pb, nn⟩ := ord_ok h1
    refine ⟨pa, pb, rfl, fun hu r1 r2 hq => PySem.W.gt_data r1 r2 (alike_py _ _ al) nn (by have := dep60 pa; omega) ?_⟩
    rw [alike_symm al 60 60 pa pb]
    exact hq) hu
theorem q_le (hu : X.A.units + 64 < cLine) : OpR X (compareOp .LtE) fun x y => rD X.K sup .le [x, y] := q_cmp (k := fun a b => !D.lt b a) (r := fun _ _ _ _ => True) (g := fun _ _ => true) rfl rfl (fun a b d hs => by
    have hs : sLe [a, b] = some d := hs
    unfold sLe at hs
    obtain ⟨h1, rfl⟩ := chk_some hs
    obtain ⟨al, pa, pb, nn⟩ := ord_ok h1
    refine ⟨pa, pb, rfl, fun hu r1 r2 hq => PySem.W.le_data r1 r2 (alike_py _ _ al) nn (by have := dep60 pa; omega) ?_⟩
    rw [alike_symm al 60 60 pa pb]
    exact hq) hu
theorem q_isN : OpR X (compareOp .Is) fun x y H Q => y = .non ∧ rD X.K sup .isN [x] H Q := by
  intro pins s σ H x y v u Q I rx ry ⟨ey, h⟩
  obtain ⟨Hf, a, d, e, p1, hs, q⟩ := h.one
  cases hs
  refine op_isN pins s σ H _ _ v u Q I rx ry ⟨ey, ?_⟩
  have z : decide (x = .non) = decide (a = D.non) := by cases (show Fz X.K H x a from p1) <;> simp
  rw [z]
  exact q _ _ _ _ (New.scalar e .bl)
theorem q_notN : OpR X (compareOp .IsNot) fun x y H Q => y = .non ∧ rD X.K sup .notN [x] H Q := by
  intro pins s σ H x y v u Q I rx ry ⟨ey, h⟩
  obtain ⟨Hf, a, d, e, p1, hs, q⟩ := h.one
  cases hs
  refine op_notN pins s σ H _ _ v u Q I rx ry ⟨ey, ?_⟩
  have z : decide (x = .non) = decide (a = D.non) := by cases (show Fz X.K H x a from p1) <;> simp
  rw [z]
  exact q _ _ _ _ (New.scalar e .bl)
theorem q_neg : UnR X (unaryOp .USub) fun x => rD X.K sup .neg [x] := by
  intro pins s σ H x v Q I rx h
  obtain ⟨Hf, a, d, e, p1, hs, q⟩ := h.one
  have hs : sNeg [a] = some d := hs
  unfold sNeg at hs
  split at hs <;> rename_i hh <;> (try cases hh) <;> cases hs
  exact un_neg pins s σ H _ v Q I rx ⟨_, pk_int p1, q _ _ _ _ (New.scalar e .int)⟩
theorem fzs_atI {K : PySem.W.Frag} {H : Hp} {vs : List V} {ds : List D} (h : Fzs K H vs ds) {i : Int} {d : D} (e : atL ds i = some d) : ∃ v, atI vs i = some v ∧ Fz K H v d := by
  unfold atL at e
  obtain ⟨k, hk, hd⟩ := Option.bind_eq_some_iff.mp e
  obtain ⟨v, hv, hz⟩ := h.get hd
  refine ⟨v, ?_, hz⟩
  unfold atI
  rw [h.length, show ixN ds.length i = some k from hk]
  exact hv
theorem atL_eq {α : Type} (l : List α) (i : Int) : atL l i = atI l i := rfl
theorem get_at {a b d : D} (h : a.get (.at b) = some d) : (∃ ds i, a = .lst ds ∧ b = .int i ∧ atL ds i = some d) ∨ (∃ ds i, a = .tup ds ∧ b = .int i ∧ atL ds i = some d) ∨ ∃ ks vs, a = .dic ks vs ∧ keyOk ks b = true ∧ lookD ks vs b = some d := by
  cases a with
  | lst ds => cases b <;> simp [D.get] at h; exact .inl ⟨_, _, rfl, rfl, h⟩
  | tup ds => cases b <;> simp [D.get] at h; exact .inr (.inl ⟨_, _, rfl, rfl, h⟩)
  | dic ks vs =>
    have h : (if keyOk ks b then lookD ks vs b else none) = some d := h
    split at h
    · rename_i ok
      exact .inr (.inr ⟨ks, vs, rfl, ok, h⟩)
    · cases h
  | _ => simp [D.get] at h
/-- an item of a sequence -/
theorem q_ix : IxR X fun x y H Q => (∃ Hf a b d, Same Hf H ∧ Pk X.K true Hf H x a ∧ Pk X.K true Hf H y b ∧ sIdx [a, b] = some d ∧ (∀ ks vs, a ≠ .dic ks vs) ∧ ∀ v Hf' H' F, New X.K Hf H v (.leaf d) Hf' H' F → Q v H') := by
  intro value slice pins s σ H x y v u Q I rx ry h hsl
  obtain ⟨Hf, a, b, d, e, p1, p2, hs, nd, q⟩ := h
  refine ix_seq value slice pins s σ H x y v u Q I rx ry ?_ hsl
  unfold sIdx at hs
  split at hs
  · rename_i hh
    cases hh
    split at hs
    · rename_i hl
      obtain ⟨c, hc, rfl⟩ := Option.map_eq_some_iff.mp hs
      exact .inr (.inr ⟨_, _, c, pk_str p1, pk_int p2, hl, hc, q _ _ _ _ (New.scalar e .str)⟩)
    · cases hs
  · rename_i hh
    cases hh
    exact absurd rfl (nd _ _)
  · rename_i hh
    cases hh
    rcases get_at hs with ⟨ds, i, rfl, rfl, hs⟩ | ⟨ds, i, rfl, rfl, hs⟩ | ⟨ks, vs, rfl, _⟩
    · obtain ⟨_, _, rfl, g, r⟩ := pk_lstT e p1
      obtain ⟨z, hz, fz⟩ := fzs_atI r hs
      exact .inl ⟨_, _, _, z, rfl, pk_int p2, .inl (.inl g), hz, q _ _ _ _ (New.old e fz)⟩
    · obtain ⟨_, _, rfl, g, r, _⟩ := pk_tupT e p1
      obtain ⟨z, hz, fz⟩ := fzs_atI r hs
      exact .inr (.inl ⟨_, _, _, z, rfl, pk_int p2, g, hz, q _ _ _ _ (New.old e fz)⟩)
    · exact absurd rfl (nd _ _)
  · cases hs
theorem clamp_eq (n d : Nat) (o : Option Int) : clampI n d o = HT.sIx n d o := by
  cases o <;> rfl
theorem fzs_cut {K : PySem.W.Frag} {H : Hp} {vs : List V} {ds : List D} (h : Fzs K H vs ds) (lo hi : Option Int) : Fzs K H (cutV vs lo hi) (sliceL lo hi ds) := by
  unfold cutV sliceL
  rw [clamp_eq, clamp_eq, h.length]
  exact (h.drop _).take _
theorem cut_all {α : Type} {l : List α} {lo hi : Option Int} (h : HT.sIx l.length 0 lo = 0 ∧ HT.sIx l.length l.length hi = l.length) : sliceL lo hi l = l := by
  unfold sliceL
  rw [clamp_eq, clamp_eq, h.1, h.2]
  simp
/-- a part of a sequence -/
theorem q_sl : SlR X fun x lo hi H Q => (∃ Hf a d, Same Hf H ∧ Pk X.K true Hf H x a ∧ sliceD lo hi a = some d ∧ ∀ v Hf' H' F, New X.K Hf H v d.fresh Hf' H' F → Q v H') := by
  intro pins s σ H x v vl vu lo hi sl Q I rx hs pl pu h
  obtain ⟨Hf, a, d, e, p1, h1, q⟩ := h
  unfold sliceD at h1
  split at h1
  · cases h1
    obtain ⟨_, _, rfl, g, r⟩ := pk_lstT e p1
    exact sl_list pins s σ H _ v vl vu lo hi sl Q I rx hs pl pu ⟨_, _, rfl, .inl (.inl g), fun p hp => q _ _ _ _ (New.lst e hp (fzs_cut r lo hi))⟩
  · cases h1
    obtain ⟨_, xs, rfl, g, r, z⟩ := pk_tupT e p1
    refine sl_tupA pins s σ H _ v vl vu lo hi sl Q I rx hs pl pu ⟨_, _, rfl, g, fun hw => ?_, fun hw p hp => q _ _ _ _ (New.tup e hp (fzs_cut r lo hi))⟩
    rw [r.length] at hw
    rw [cut_all hw] at q
    exact q _ _ _ _ (New.old e z)
  · cases h1
theorem q_abs : CallR X (.builtin "abs") (rD X.K sup .abs) := by
  intro pins s σ H xs us Q I rs h
  obtain ⟨Hf, ds, d, e, pk, hs, q⟩ := h
  have hs : sAbs ds = some d := hs
  unfold sAbs at hs
  split at hs <;> cases hs
  cases pk with
  | cons p1 pk => cases pk with
    | nil => exact call_abs pins s σ H _ us Q I rs ⟨_, by rw [pk_int p1], q _ _ _ _ (New.scalar e .int)⟩
theorem q_int : CallR X (.type "int") (rD X.K sup .int) := by
  intro pins s σ H xs us Q I rs h
  obtain ⟨Hf, ds, d, e, pk, hs, q⟩ := h
  have hs : sInt ds = some d := hs
  unfold sInt at hs
  split at hs <;> cases hs
  · cases pk with
    | cons p1 pk => cases pk with
      | nil => exact call_int1 pins s σ H _ us Q I rs (.inl ⟨_, by rw [pk_int p1], q _ _ _ _ (New.scalar e .int)⟩)
  · cases pk with
    | cons p1 pk => cases pk with
      | nil => exact call_int1 pins s σ H _ us Q I rs (.inr ⟨_, by rw [pk_bl p1], q _ _ _ _ (New.scalar e .int)⟩)
theorem q_str : CallR X (.type "str") (rD X.K sup .str) := by
  intro pins s σ H xs us Q I rs h
  obtain ⟨Hf, ds, d, e, pk, hs, q⟩ := h
  have hs : sStr ds = some d := hs
  unfold sStr at hs
  split at hs <;> (try cases hs)
  obtain ⟨h1, rfl⟩ := chk_some hs
  cases pk with
  | cons p1 pk => cases pk with
    | nil => exact call_str_int pins s σ H _ us Q I rs ⟨_, by rw [pk_int p1], of_decide_eq_true h1, q _ _ _ _ (New.scalar e .str)⟩
theorem q_list : CallR X (.type "list") (rD X.K sup .list) := by
  intro pins s σ H xs us Q I rs h
  obtain ⟨Hf, ds, d, e, pk, hs, q⟩ := h
  have hs : sList ds = some d := hs
  unfold sList at hs
  split at hs <;> cases hs
  · cases pk with
    | cons p1 pk => cases pk with
      | nil =>
        obtain ⟨_, _, rfl, g, r⟩ := pk_lstT e p1
        exact call_list_of pins s σ H _ us Q I rs ⟨_, _, rfl, .inl (.inl (.inl g)), fun p hp => q _ _ _ _ (New.lst e hp r)⟩
  · cases pk with
    | cons p1 pk => cases pk with
      | nil =>
        obtain ⟨_, _, rfl, g, r, _⟩ := pk_tupT e p1
        exact call_list_of pins s σ H _ us Q I rs ⟨_, _, rfl, .inr g, fun p hp => q _ _ _ _ (New.lst e hp r)⟩
theorem q_tuple : CallR X (.type "tuple") (rD X.K sup .tuple) := by
  intro pins s σ H xs us Q I rs h
  obtain ⟨Hf, ds, d, e, pk, hs, q⟩ := h
  have hs : sTuple ds = some d := hs
  unfold sTuple at hs
  split at hs <;> cases hs
  · cases pk with
    | cons p1 pk => cases pk with
      | nil =>
        obtain ⟨_, _, rfl, g, r⟩ := pk_lstT e p1
        exact call_tuple_of pins s σ H _ us Q I rs ⟨_, _, rfl, .inl ⟨.inl (.inl g), fun p hp => q _ _ _ _ (New.tup e hp r)⟩⟩
  · cases pk with
    | cons p1 pk => cases pk with
      | nil =>
        obtain ⟨_, _, rfl, g, r, z⟩ := pk_tupT e p1
        exact call_tuple_of pins s σ H _ us Q I rs ⟨_, _, rfl, .inr ⟨g, q _ _ _ _ (New.old e z)⟩⟩
theorem q_all (hc : X.calm = true) : CallR X (.builtin "all") (rD X.K sup .all) := by
  intro pins s σ H xs us Q I rs h
  obtain ⟨Hf, ds, d, e, pk, hs, q⟩ := h
  have hs : sAll ds = some d := hs
  unfold sAll at hs
  split at hs
  · obtain ⟨bs, hb, rfl⟩ := Option.map_eq_some_iff.mp hs
    cases pk with
    | cons p1 pk => cases pk with
      | nil =>
        obtain ⟨_, _, rfl, g, r⟩ := pk_lst e p1
        have ev := fzs_bools r hb
        subst ev
        exact cr_all hc pins s σ H _ us Q I rs ⟨_, _, rfl, .inl (.inl g), q _ _ _ _ (New.scalar e .bl)⟩
  · cases hs
theorem q_any (hc : X.calm = true) : CallR X (.builtin "any") (rD X.K sup .any) := by
  intro pins s σ H xs us Q I rs h
  obtain ⟨Hf, ds, d, e, pk, hs, q⟩ := h
  have hs : sAny ds = some d := hs
  unfold sAny at hs
  split at hs
  · obtain ⟨bs, hb, rfl⟩ := Option.map_eq_some_iff.mp hs
    cases pk with
    | cons p1 pk => cases pk with
      | nil =>
        obtain ⟨_, _, rfl, g, r⟩ := pk_lst e p1
        have ev := fzs_bools r hb
        subst ev
        exact cr_any hc pins s σ H _ us Q I rs ⟨_, _, rfl, .inl (.inl g), q _ _ _ _ (New.scalar e .bl)⟩
  · cases hs
theorem q_sum (hc : X.calm = true) : CallR X (.builtin "sum") (rD X.K sup .sum) := by
  intro pins s σ H xs us Q I rs h
  obtain ⟨Hf, ds, d, e, pk, hs, q⟩ := h
  have hs : sSum ds = some d := hs
  unfold sSum at hs
  split at hs
  · obtain ⟨bs, hb, rfl⟩ := Option.map_eq_some_iff.mp hs
    cases pk with
    | cons p1 pk => cases pk with
      | nil =>
        obtain ⟨_, _, rfl, g, r⟩ := pk_lst e p1
        have ev := fzs_ints r hb
        subst ev
        exact cr_sum hc pins s σ H _ us Q I rs ⟨_, _, rfl, .inl (.inl g), q _ _ _ _ (New.scalar e .int)⟩
  · cases hs
theorem maxI_of : ∀ (xs : List Int) (x m : Int), m ∈ x :: xs → (∀ y ∈ x :: xs, y ≤ m) → maxI x xs = m
  | [], x, m, h, _ => by simp at h; rw [h]; rfl
  | y :: ys, x, m, h, k => by
    show maxI (if x < y then y else x) ys = m
    have hx := k x (by simp)
    have hy := k y (by simp)
    refine maxI_of ys _ m ?_ fun z hz => ?_
    · simp only [List.mem_cons] at h ⊢
      split
      · rcases h with h | h | h
        · exact absurd h (by omega)
        · exact .inl h
        · exact .inr h
      · rcases h with h | h | h
        · exact .inl h
        · exact .inl (by omega)
        · exact .inr h
    · simp only [List.mem_cons] at hz
      rcases hz with hz | hz
      · subst hz; split <;> assumption
      · exact k z (by simp [hz])
theorem minI_of : ∀ (xs : List Int) (x m : Int), m ∈ x :: xs → (∀ y ∈ x :: xs, m ≤ y) → minI x xs = m
  | [], x, m, h, _ => by simp at h; rw [h]; rfl
  | y :: ys, x, m, h, k => by
    show minI (if y < x then y else x) ys = m
    have hx := k x (by simp)
    have hy := k y (by simp)
    refine minI_of ys _ m ?_ fun z hz => ?_
    · simp only [List.mem_cons] at h ⊢
      split
      · rcases h with h | h | h
        · exact absurd h (by omega)
        · exact .inl h
        · exact .inr h
      · rcases h with h | h | h
        · exact .inl h
        · exact .inl (by omega)
        · exact .inr h
    · simp only [List.mem_cons] at hz
      rcases hz with hz | hz
      · subst hz; split <;> assumption
      · exact k z (by simp [hz])
theorem q_max (hc : X.calm = true) : CallR X (.builtin "max") (rD X.K sup .max) := by
  intro pins s σ H xs us Q I rs h
  obtain ⟨Hf, ds, d, e, pk, hs, q⟩ := h
  have hs : sMax ds = some d := hs
  unfold sMax at hs
  split at hs
  · cases hs
    cases pk with
    | cons p1 pk => cases pk with
      | cons p2 pk => cases pk with
        | nil =>
          have e1 := pk_int p1
          have e2 := pk_int p2
          subst e1 e2
          exact call_max2 hc pins s σ H _ us Q I rs ⟨_, _, rfl, q _ _ _ _ (New.scalar e .int)⟩
  · obtain ⟨ns, hb, h2⟩ := Option.bind_eq_some_iff.mp hs
    cases ns with
    | nil => cases h2
    | cons n ns =>
      cases h2
      cases pk with
      | cons p1 pk => cases pk with
        | nil =>
          obtain ⟨_, _, rfl, g, r⟩ := pk_lstT e p1
          have ev := fzs_ints r hb
          subst ev
          refine cr_max hc pins s σ H _ us Q I rs ⟨_, _, rfl, .inl (.inl g), by simp, fun m hm hy => ?_⟩
          rw [← maxI_of ns n m hm hy]
          exact q _ _ _ _ (New.scalar e .int)
  · cases hs
theorem q_min (hc : X.calm = true) : CallR X (.builtin "min") (rD X.K sup .min) := by
  intro pins s σ H xs us Q I rs h
  obtain ⟨Hf, ds, d, e, pk, hs, q⟩ := h
  have hs : sMin ds = some d := hs
  unfold sMin at hs
  split at hs
  · cases hs
    cases pk with
    | cons p1 pk => cases pk with
      | cons p2 pk => cases pk with
        | nil =>
          have e1 := pk_int p1
          have e2 := pk_int p2
          subst e1 e2
          exact call_min2 hc pins s σ H _ us Q I rs ⟨_, _, rfl, q _ _ _ _ (New.scalar e .int)⟩
  · obtain ⟨ns, hb, h2⟩ := Option.bind_eq_some_iff.mp hs
    cases ns with
    | nil => cases h2
    | cons n ns =>
      cases h2
      cases pk with
      | cons p1 pk => cases pk with
        | nil =>
          obtain ⟨_, _, rfl, g, r⟩ := pk_lstT e p1
          have ev := fzs_ints r hb
          subst ev
          refine cr_min hc pins s σ H _ us Q I rs ⟨_, _, rfl, .inl (.inl g), by simp, fun m hm hy => ?_⟩
          rw [← minI_of ns n m hm hy]
          exact q _ _ _ _ (New.scalar e .int)
  · cases hs
theorem q_join : MtR X "str.join" fun x xs => rD X.K sup .join (x :: xs) := by
  intro pins s σ H x xs v us Q I rx rs h
  obtain ⟨Hf, ds, d, e, pk, hs, q⟩ := h
  have hs : sJoin ds = some d := hs
  unfold sJoin at hs
  split at hs
  · obtain ⟨ns, hb, h2⟩ := Option.bind_eq_some_iff.mp hs
    obtain ⟨h1, rfl⟩ := chk_some h2
    cases pk with
    | cons p1 pk => cases pk with
      | cons p2 pk => cases pk with
        | nil =>
          obtain ⟨_, _, rfl, g, r⟩ := pk_lst e p2
          have ev := fzs_strs r hb
          subst ev
          exact mt_join pins s σ H x _ v us Q I rx rs ⟨_, _, ns, pk_str p1, rfl, .inl (.inl (.inl g)), of_decide_eq_true h1, by rw [TL.join_eq]; exact q _ _ _ _ (New.scalar e .str)⟩
  · obtain ⟨ns, hb, h2⟩ := Option.bind_eq_some_iff.mp hs
    obtain ⟨h1, rfl⟩ := chk_some h2
    cases pk with
    | cons p1 pk => cases pk with
      | cons p2 pk => cases pk with
        | nil =>
          obtain ⟨_, _, rfl, g, r⟩ := pk_tup e p2
          have ev := fzs_strs r hb
          subst ev
          exact mt_join pins s σ H x _ v us Q I rx rs ⟨_, _, ns, pk_str p1, rfl, .inr g, of_decide_eq_true h1, by rw [TL.join_eq]; exact q _ _ _ _ (New.scalar e .str)⟩
  · cases hs
end
end Tk
end
section
set_option linter.all false
set_option maxRecDepth 100000
set_option maxHeartbeats 4000000
/-! Dicts looked at: in, [], get. -/
namespace Tk
open PySem PySem.Spec PyProof.Rows L2

section
variable {X : Cx} {pins : List (Addr × Obj)} {σ : L2.St} {H : Hp} {s : Shared} {a : Addr}
/-- an empty dict is of both kinds -/
theorem to_T (I : Inv X pins σ H s) (e : H a = some (.dK [])) : Inv X pins σ (upd H a (.dT [])) s := by
  obtain ⟨_, hd, vs, r, o, es, ep, h1, h2, h3, _, h5, _⟩ := dk_of I.hok e
  have e0 : es.toList = [] := by
    cases r
    generalize es.toList = l at h5
    cases h5
    rfl
  exact d_write (t' := s.toks) I (by rw [e]; trivial) (Heap.SameBut.refl a s.heap) ⟨o, h1⟩ ⟨Nat.zero_le _, hd, [], .nil, o, es, ep, h1, h2, h3, by rw [e0]; rfl, List.nodup_nil⟩
theorem to_K (I : Inv X pins σ H s) (e : H a = some (.dT [])) : Inv X pins σ (upd H a (.dK [])) s := by
  obtain ⟨_, hd, xs, r, o, es, ep, h1, h2, h3, h4, _⟩ := dt_of I.hok e
  have e0 : es.toList = [] := by
    cases r
    rw [h4]
    rfl
  refine d_write (t' := s.toks) I (by rw [e]; trivial) (Heap.SameBut.refl a s.heap) ⟨o, h1⟩ ⟨Nat.zero_le _, hd, [], .nil, o, es, ep, h1, h2, h3, fun q hq => ?_, by rw [e0]; exact .nil, List.nodup_nil⟩
  have hq' : q ∈ es.toList := Array.mem_toList_iff.mpr hq
  rw [e0] at hq'
  cases hq'
theorem upd_back {H : Hp} {a : Addr} {o u : HO} (e : H a = some u) : upd (upd H a o) a u = H := by
  funext b
  unfold upd
  split
  · rename_i h; rw [h, e]
  · rfl
theorem key_sq {ks : List Key} {b : Addr} (I : Inv X pins σ H s) (h : SqT X.K H b (ks.map kV)) : (tupleKind (mixKind X.prog X.w)).is s.heap ks b := by
  obtain ⟨its, r, ⟨o, h1, h2, n, h3⟩, _⟩ := I.tuple h
  exact ⟨o, its.toArray, n, h1, h2, h3, by simpa using items_are r⟩
/-- what the dict at a holds at y -/
inductive DG (K : PySem.W.Frag) (H : Hp) (a : Addr) : V → Option V → Prop
  | k {kvs k} : H a = some (.dK kvs) → DG K H a (kV k) (valV kvs k)
  | t {kvs k b} : H a = some (.dT kvs) → SqT K H b (k.map kV) → DG K H a (.ref b) (valV kvs k)
  | k0 {k} : H a = some (.dT []) → DG K H a (kV k) none
  | t0 {k b} : H a = some (.dK []) → SqT K H b (List.map kV k) → DG K H a (.ref b) none
theorem sqT_upd {K : PySem.W.Frag} {b : Addr} {xs : List V} {u o : HO} (h : SqT K H b xs) (e : H a = some u) (hu : ∀ ys, u ≠ .tup ys) (hf : ∀ o ys, u ≠ .frz o (.tup ys)) : SqT K (upd H a o) b xs := by
  by_cases z : b = a
  · subst z
    rcases h with (h | ⟨q, h⟩) | h
    · rw [e] at h; exact absurd (Option.some.inj h) (hu _)
    · rw [e] at h; exact absurd (Option.some.inj h) (hf _ _)
    · exact .inr h
  · rcases h with (h | ⟨q, h⟩) | h
    · exact .inl (.inl (by rw [upd_ne z]; exact h))
    · exact .inl (.inr ⟨q, by rw [upd_ne z]; exact h⟩)
    · exact .inr h
/-- the rules for the two kinds are enough -/
theorem DG.run {M : Prop} {y : V} {o : Option V} (g : DG X.K H a y o) (I : Inv X pins σ H s)
    (hk : ∀ H1 kvs k, Inv X pins σ H1 s → H1 a = some (.dK kvs) → y = kV k → o = valV kvs k → (∀ s', Inv X pins σ H1 s' → Inv X pins σ H s') → M)
    (ht : ∀ H1 kvs k b, Inv X pins σ H1 s → H1 a = some (.dT kvs) → y = .ref b → SqT X.K H1 b (List.map kV k) → o = valV kvs k → (∀ s', Inv X pins σ H1 s' → Inv X pins σ H s') → M) : M := by
  cases g with
  | k e => exact hk H _ _ I e rfl rfl fun _ i => i
  | t e q => exact ht H _ _ _ I e rfl q rfl fun _ i => i
  | k0 e =>
    refine hk _ [] _ (to_K I e) upd_same rfl rfl fun s' i => ?_
    have := to_T i upd_same
    rwa [upd_back e] at this
  | t0 e q =>
    refine ht _ [] _ _ (to_T I e) upd_same rfl (sqT_upd q e (fun _ z => nomatch z) fun _ _ z => nomatch z) rfl fun s' i => ?_
    have := to_K i upd_same
    rwa [upd_back e] at this
variable {A : Around} {E : Value → Shared → Prop} {y x : V} {u r : Value} {o : Option V}
theorem g_in {Q : Value → Shared → Prop} (hu : A.units + 1 < cLine) (I : Inv X pins σ H s) (g : DG X.K H a y o) (ry : RelV y u) (h : ∀ s', Inv X pins σ H s' → Q (.bool o.isSome) s') : wpAny (model X.prog X.w) A (compareOp .In u (.ref a)) Q E s := by
  refine g.run I (fun H1 kvs k I1 e ey eo back => ?_) fun H1 kvs k b I1 e ey q eo back => ?_
  · exact d_in hu I1 (.inl ⟨kvs, k, .inl e, ey, eo⟩) ry fun s' I' => h s' (back s' I')
  · subst ey
    obtain rfl : u = Value.ref b := ry
    obtain ⟨_, hd, xs, rel, dd⟩ := dt_rd I1.hok (.inl e)
    refine wpAny_in_heap (tupleKind_room_in1 hu) (key_sq I1 q) hd dd ?_
    have w := (rel.val k).isSome_eq
    rw [Option.isSome_map, ← eo] at w
    rw [← w]
    exact h _ (back _ (I1.tok _))
theorem g_nin {Q : Value → Shared → Prop} (hu : A.units + 1 < cLine) (I : Inv X pins σ H s) (g : DG X.K H a y o) (ry : RelV y u) (h : ∀ s', Inv X pins σ H s' → Q (.bool (!o.isSome)) s') : wpAny (model X.prog X.w) A (compareOp .NotIn u (.ref a)) Q E s := by
  refine g.run I (fun H1 kvs k I1 e ey eo back => ?_) fun H1 kvs k b I1 e ey q eo back => ?_
  · exact d_notIn hu I1 (.inl ⟨kvs, k, .inl e, ey, eo⟩) ry fun s' I' => h s' (back s' I')
  · subst ey
    obtain rfl : u = Value.ref b := ry
    obtain ⟨_, hd, xs, rel, dd⟩ := dt_rd I1.hok (.inl e)
    refine wpAny_notIn_heap (tupleKind_room_in1 hu) (key_sq I1 q) hd dd ?_
    have w := (rel.val k).isSome_eq
    rw [Option.isSome_map, ← eo] at w
    rw [← w]
    exact h _ (back _ (I1.tok _))
theorem g_item {v : V} {Q : Value → Shared → Prop} (hu : A.units + 1 < cLine) (I : Inv X pins σ H s) (g : DG X.K H a y (some v)) (ry : RelV y u) (h : ∀ w' s', Inv X pins σ H s' → RelV v w' → Q w' s') : wpAny (model X.prog X.w) A (getItem (.ref a) u) Q E s := by
  refine g.run I (fun H1 kvs k I1 e ey eo back => ?_) fun H1 kvs k b I1 e ey q eo back => ?_
  · exact d_getItem hu I1 (.inl ⟨kvs, k, .inl e, ey, eo⟩) ry fun w' s' I' => h w' s' (back s' I')
  · subst ey
    obtain rfl : u = Value.ref b := ry
    obtain ⟨_, hd, xs, rel, dd⟩ := dt_rd I1.hok (.inl e)
    obtain ⟨w', hw, rw'⟩ := RelO.some_of (v := v) (o := (atKey xs k).map (·.2)) (by rw [eo]; exact rel.val k)
    obtain ⟨p, hp, hp2⟩ := Option.map_eq_some_iff.mp hw
    refine wpAny_getItem_heap (tupleKind_room_in1 hu) (key_sq I1 q) dd hp ?_
    rw [hp2]
    exact h w' _ (back _ (I1.tok _)) rw'
theorem g_get2 {Q : Value → Shared → Prop} (hu : A.units + 1 < cLine) (I : Inv X pins σ H s) (g : DG X.K H a y o) (ry : RelV y u) (rx : RelV x r) (h : ∀ w' s', Inv X pins σ H s' → RelV (o.getD x) w' → Q w' s') :
    wpAny (model X.prog X.w) A (call (.builtin "dict.get") [.ref a, u, r]) Q E s := by
  refine g.run I (fun H1 kvs k I1 e ey eo back => ?_) fun H1 kvs k b I1 e ey q eo back => ?_
  · exact d_get2 hu I1 (.inl ⟨kvs, k, .inl e, ey, eo⟩) ry rx fun w' s' I' => h w' s' (back s' I')
  · subst ey
    obtain rfl : u = Value.ref b := ry
    obtain ⟨_, hd, xs, rel, dd⟩ := dt_rd I1.hok (.inl e)
    refine call_meetsIn PySem.F.slot_dict_get dd.typeIs PySem.F.entry_dict_get (PySem.F.args_dict_get_3 _ _ _) (meetsH_dict_get_default (tupleKind (mixKind X.prog X.w)) a b hd r) ⟨tupleKind_room_in1 hu, k, xs, key_sq I1 q, dd, h _ _ (back _ (I1.tok _)) ?_⟩
    rw [eo]
    exact (rel.val k).getD rx
end

/-! ## the evaluator's dicts -/
theorem keyD_inj {k j : Key} (h : keyD k = keyD j) : k = j := by
  cases k <;> cases j <;> cases h <;> rfl
theorem keyDs_inj : ∀ {k j : List Key}, k.map keyD = j.map keyD → k = j
  | [], [], _ => rfl
  | [], _ :: _, h => by simp at h
  | _ :: _, [], h => by simp at h
  | a :: as, b :: bs, h => by
    simp only [List.map_cons, List.cons.injEq] at h
    rw [keyD_inj h.1, keyDs_inj h.2]
section
variable {κ : Type} [DecidableEq κ] {f : κ → D} {K : PySem.W.Frag} {Hf : Hp}
/-- looking up in both -/
theorem look_val (hf : ∀ a b, f a = f b → a = b) (k : κ) : ∀ {kvs : List (κ × V)} {ds : List D}, Fzs K Hf (kvs.map (·.2)) ds →
    match lookD (kvs.map fun p => f p.1) ds (f k) with
    | some d => ∃ v, valV kvs k = some v ∧ Fz K Hf v d
    | none => valV kvs k = none
  | [], _, .nil => rfl
  | p :: kvs, _, .cons (d := d) h r => by
    show match (if f p.1 = f k then some d else lookD _ _ _) with | some d => _ | none => _
    by_cases e : p.1 = k
    · rw [if_pos (congrArg f e)]
      exact ⟨_, valV_pos e, h⟩
    · rw [if_neg fun z => e (hf _ _ z), valV_neg e]
      exact look_val hf k r
end
/-- a key that is a tuple -/
theorem tup_key {K : PySem.W.Frag} {H : Hp} : ∀ {vs : List V} {ds : List D}, Fzs K H vs ds → keyT ds = true → ∃ ks : List Key, vs = ks.map kV ∧ ds = ks.map keyD
  | _, _, .nil, _ => ⟨[], rfl, rfl⟩
  | _, _, .cons (d := d) (ds := ds) h r, e => by
    have e' : (isKey1 d && keyT ds) = true := e
    obtain ⟨e1, e2⟩ := Bool.and_eq_true_iff.mp e'
    obtain ⟨ks, rfl, rfl⟩ := tup_key r e2
    cases h with
    | int => exact ⟨.inl _ :: ks, rfl, rfl⟩
    | str => exact ⟨.inr _ :: ks, rfl, rfl⟩
    | _ => cases e1
/-- a dict whose values stand frozen, and a key -/
theorem dg_of {K : PySem.W.Frag} {Hf H : Hp} (e : Same Hf H) {x y : V} {ks ds : List D} {k : D} (hd : Fz1 K Hf H x (.dic ks ds)) (hy : Fz K H y k) (ok : keyOk ks k = true) :
    ∃ a o, x = .ref a ∧ DG K H a y o ∧ match lookD ks ds k with
      | some d => ∃ v, o = some v ∧ Fz K Hf v d
      | none => o = none := by
  have hk : keyK k ≠ 0 := by
    intro z
    unfold keyOk at ok
    rw [z] at ok
    cases ok
  have cas : (∃ a kvs, x = .ref a ∧ H a = some (.dK kvs) ∧ ks = kvs.map (fun p => keyD p.1) ∧ Fzs K Hf (kvs.map (·.2)) ds) ∨ (∃ a kvs, x = .ref a ∧ H a = some (.dT kvs) ∧ ks = kvs.map (fun p => D.tup (p.1.map keyD)) ∧ Fzs K Hf (kvs.map (·.2)) ds) := by
    cases hd with
    | fz h => cases h with
      | dicK h q r => exact .inl ⟨_, _, rfl, e _ _ h, q, r⟩
      | dicT h q r => exact .inr ⟨_, _, rfl, e _ _ h, q, r⟩
    | dicK h q r => exact .inl ⟨_, _, rfl, h, q, r⟩
    | dicT h q r => exact .inr ⟨_, _, rfl, h, q, r⟩
  have kcas : (∃ j : Key, y = kV j ∧ k = keyD j) ∨ ∃ (b : Addr) (j : List Key), y = .ref b ∧ SqT K H b (j.map kV) ∧ k = .tup (j.map keyD) := by
    cases hy with
    | int => exact .inl ⟨.inl _, rfl, rfl⟩
    | str => exact .inl ⟨.inr _, rfl, rfl⟩
    | tup h r =>
      rename_i b vs ds
      by_cases z : keyT ds = true
      · obtain ⟨js, rfl, rfl⟩ := tup_key r z
        exact .inr ⟨_, js, rfl, h, rfl⟩
      · exact absurd (show keyK (.tup ds) = 0 from if_neg z) hk
    | _ => exact absurd rfl hk
  have kk : ∀ j : Key, keyK (keyD j) = 1 := fun j => by cases j <;> rfl
  have kt : ∀ j : List Key, keyK (.tup (j.map keyD)) = 2 := fun j => by
    have : keyT (j.map keyD) = true := by
      induction j with
      | nil => rfl
      | cons a as ih => cases a <;> exact ih
    exact if_pos this
  rcases cas with ⟨a, kvs, rfl, h, rfl, r⟩ | ⟨a, kvs, rfl, h, rfl, r⟩ <;> rcases kcas with ⟨j, rfl, rfl⟩ | ⟨b, j, rfl, sq, rfl⟩
  · refine ⟨a, _, rfl, .k h, ?_⟩
    have := look_val (f := keyD) (fun _ _ => keyD_inj) j r
    exact this
  · cases kvs with
    | nil => cases r; exact ⟨a, none, rfl, .t0 h sq, rfl⟩
    | cons p kvs =>
      exfalso
      unfold keyOk at ok
      rw [kt] at ok
      simp [kk] at ok
  · cases kvs with
    | nil => cases r; exact ⟨a, none, rfl, .k0 h, rfl⟩
    | cons p kvs =>
      exfalso
      unfold keyOk at ok
      rw [kk] at ok
      simp at ok
      rw [kt] at ok
      cases ok
  · refine ⟨a, _, rfl, .t h sq, ?_⟩
    have := look_val (f := fun j : List Key => D.tup (j.map keyD)) (fun _ _ z => keyDs_inj (D.tup.inj z)) j r
    exact this
theorem pk_1 {K : PySem.W.Frag} {fl : Bool} {Hf H : Hp} {x : V} {ks ds : List D} (h : Pk K fl Hf H x (.dic ks ds)) : ∃ G, Fz1 K G H x (.dic ks ds) ∧ (fl = true → G = Hf) ∧ (fl = false → G = H) := by
  cases fl with
  | true => exact ⟨Hf, h, fun _ => rfl, fun z => nomatch z⟩
  | false => exact ⟨H, .fz h, (fun z => nomatch z), fun _ => rfl⟩
section
variable {X : Cx} {sup : Str → List Str}
theorem any_eqv (xs : List D) (a : D) (hx : D.plains xs = true) (ha : a.plain = true) : ((D.pys xs).any fun y => PyData.eqv y a.py) = xs.any fun d => D.eqv d a := by
  rw [pys_map, List.any_map]
  have : ∀ n (l : List D), D.plainsN n l = true → (l.any ((fun y => PyData.eqv y a.py) ∘ D.py)) = l.any fun d => D.eqv d a := by
    intro n l
    induction l with
    | nil => intro _; rfl
    | cons d l ih =>
      intro h
      have h' : (D.plainN n d && D.plainsN n l) = true := by simpa [D.plainsN] using h
      rw [List.any_cons, List.any_cons, ih (Bool.and_eq_true_iff.mp h').2]
      show (PyData.eqv d.py a.py || _) = _
      rw [eqv_py n 60 d a (Bool.and_eq_true_iff.mp h').1 ha]
  exact this 59 xs hx
theorem q_in (hu : X.A.units + 64 < cLine) : OpR X (compareOp .In) fun x y => rD X.K sup .in_ [x, y] := by
  intro pins s σ H x y v u Q I rx ry h
  obtain ⟨Hf, a, b, d, e, p1, p2, hs, q⟩ := h.two
  have hs : sIn [a, b] = some d := hs
  unfold sIn at hs
  have p1 : Fz X.K H x a := p1
  split at hs
  · rename_i hh
    cases hh
    obtain ⟨h1, rfl⟩ := chk_some hs
    have p2 : Fz X.K H y _ := p2
    obtain ⟨ad, o, rfl, g, hl⟩ := dg_of (Same.refl H) (.fz p2) p1 h1
    obtain rfl : u = Value.ref ad := ry
    refine g_in (by omega) I g rx fun s' I' => ⟨.bl _, H, I', rfl, ?_⟩
    split at hl <;> rename_i h2
    · obtain ⟨z, rfl, _⟩ := hl
      rw [h2] at q
      exact q _ _ _ _ (New.scalar e .bl)
    · rw [hl]
      rw [h2] at q
      exact q _ _ _ _ (New.scalar e .bl)
  · rename_i hh
    cases hh
    obtain ⟨h1, rfl⟩ := chk_some hs
    obtain ⟨pa, pb⟩ := Bool.and_eq_true_iff.mp h1
    obtain ⟨as, r1⟩ := Dp.reads I _ _ _ (Fz.dp p1 60 pa) rx
    obtain ⟨_, _, rfl, g, r⟩ := pk_tup e p2
    obtain ⟨bs, r2⟩ := Dp.reads I (.tuple _) _ _ (.tup g (r.dp 59 pb)) ry
    refine PySem.SeqAt.in_tuple_data r2 r1 (plain_pys 59 _ pb) (plain_py 60 _ pa) (by have := dep60 pa; omega) ?_
    rw [any_eqv _ _ pb pa]
    exact ⟨.bl _, H, I, rfl, q _ _ _ _ (New.scalar e .bl)⟩
  · rename_i hh
    cases hh
    obtain ⟨h1, rfl⟩ := chk_some hs
    obtain ⟨pa, pb⟩ := Bool.and_eq_true_iff.mp h1
    obtain ⟨as, r1⟩ := Dp.reads I _ _ _ (Fz.dp p1 60 pa) rx
    obtain ⟨_, _, rfl, g, r⟩ := pk_lst e p2
    obtain ⟨bs, r2⟩ := Dp.reads I (.list _) _ _ (.lst (.inl (.inl g)) (r.dp 59 pb)) ry
    refine PySem.SeqAt.in_list_data r2 r1 (plain_pys 59 _ pb) (plain_py 60 _ pa) (by have := dep60 pa; omega) ?_
    rw [any_eqv _ _ pb pa]
    exact ⟨.bl _, H, I, rfl, q _ _ _ _ (New.scalar e .bl)⟩
  · cases hs
theorem q_nin (hu : X.A.units + 64 < cLine) : OpR X (compareOp .NotIn) fun x y => rD X.K sup .nin [x, y] := by
  intro pins s σ H x y v u Q I rx ry h
  obtain ⟨Hf, a, b, d, e, p1, p2, hs, q⟩ := h.two
  have hs : sNin [a, b] = some d := hs
  unfold sNin at hs
  have p1 : Fz X.K H x a := p1
  split at hs
  · rename_i hh
    cases hh
    obtain ⟨h1, rfl⟩ := chk_some hs
    have p2 : Fz X.K H y _ := p2
    obtain ⟨ad, o, rfl, g, hl⟩ := dg_of (Same.refl H) (.fz p2) p1 h1
    obtain rfl : u = Value.ref ad := ry
    refine g_nin (by omega) I g rx fun s' I' => ⟨.bl _, H, I', rfl, ?_⟩
    split at hl <;> rename_i h2
    · obtain ⟨z, rfl, _⟩ := hl
      rw [h2] at q
      exact q _ _ _ _ (New.scalar e .bl)
    · rw [hl]
      rw [h2] at q
      exact q _ _ _ _ (New.scalar e .bl)
  · rename_i hh
    cases hh
    obtain ⟨h1, rfl⟩ := chk_some hs
    obtain ⟨pa, pb⟩ := Bool.and_eq_true_iff.mp h1
    obtain ⟨as, r1⟩ := Dp.reads I _ _ _ (Fz.dp p1 60 pa) rx
    obtain ⟨_, _, rfl, g, r⟩ := pk_tup e p2
    obtain ⟨bs, r2⟩ := Dp.reads I (.tuple _) _ _ (.tup g (r.dp 59 pb)) ry
    refine PySem.SeqAt.notIn_tuple_data r2 r1 (plain_pys 59 _ pb) (plain_py 60 _ pa) (by have := dep60 pa; omega) ?_
    rw [any_eqv _ _ pb pa]
    exact ⟨.bl _, H, I, rfl, q _ _ _ _ (New.scalar e .bl)⟩
  · rename_i hh
    cases hh
    obtain ⟨h1, rfl⟩ := chk_some hs
    obtain ⟨pa, pb⟩ := Bool.and_eq_true_iff.mp h1
    obtain ⟨as, r1⟩ := Dp.reads I _ _ _ (Fz.dp p1 60 pa) rx
    obtain ⟨_, _, rfl, g, r⟩ := pk_lst e p2
    obtain ⟨bs, r2⟩ := Dp.reads I (.list _) _ _ (.lst (.inl (.inl g)) (r.dp 59 pb)) ry
    refine PySem.SeqAt.notIn_list_data r2 r1 (plain_pys 59 _ pb) (plain_py 60 _ pa) (by have := dep60 pa; omega) ?_
    rw [any_eqv _ _ pb pa]
    exact ⟨.bl _, H, I, rfl, q _ _ _ _ (New.scalar e .bl)⟩
  · cases hs
end
end Tk
end
section
set_option linter.all false
set_option maxRecDepth 100000
set_option maxHeartbeats 4000000
/-! More operators: len, isinstance, sorted, an item of a dict. -/
namespace Tk
open PySem PySem.Spec PyProof.Rows L2

section
variable {X : Cx} {sup : Str → List Str}
theorem q_len : CallR X (.builtin "len") (rD X.K sup .len) := by
  intro pins s σ H xs us Q I rs h
  obtain ⟨Hf, ds, d, e, pk, hs, q⟩ := h
  have hs : sLen ds = some d := hs
  unfold sLen at hs
  split at hs
  · obtain ⟨h1, rfl⟩ := chk_some hs
    cases pk with
    | cons p1 pk => cases pk with
      | nil =>
        have e1 := pk_str p1
        subst e1
        exact call_len pins s σ H _ us Q I rs ⟨_, _, rfl, ⟨of_decide_eq_true h1, rfl⟩, q _ _ _ _ (New.scalar e .int)⟩
  · cases hs
    cases pk with
    | cons p1 pk => cases pk with
      | nil =>
        obtain ⟨_, _, rfl, g, r⟩ := pk_tup e p1
        refine call_len pins s σ H _ us Q I rs ⟨_, _, rfl, .inr ⟨_, g, rfl⟩, ?_⟩
        rw [r.length]
        exact q _ _ _ _ (New.scalar e .int)
  · cases hs
    cases pk with
    | cons p1 pk => cases pk with
      | nil =>
        obtain ⟨_, _, rfl, g, r⟩ := pk_lst e p1
        refine call_len pins s σ H _ us Q I rs ⟨_, _, rfl, .inl ⟨_, .inl (.inl g), rfl⟩, ?_⟩
        rw [r.length]
        exact q _ _ _ _ (New.scalar e .int)
  · cases hs
    cases pk with
    | cons p1 pk => cases pk with
      | nil =>
        obtain ⟨u, rfl, rx⟩ := vals1 rs
        cases Pk.all e p1 with
        | dicK h c r =>
          obtain rfl : u = _ := rx
          subst c
          refine d_len I (.inl h) fun t s' I' => ⟨.int _, H, I', ⟨_, rfl⟩, ?_⟩
          rw [List.length_map] at q
          exact q _ _ _ _ (New.scalar e .int)
        | dicT h c r =>
          subst c
          refine call_len_dT pins s σ H _ _ Q I rs ⟨_, _, rfl, h, ?_⟩
          rw [List.length_map] at q
          exact q _ _ _ _ (New.scalar e .int)
  · cases hs
    cases pk with
    | cons p1 pk => cases pk with
      | nil =>
        cases Pk.all e p1 with
        | scr h =>
          refine call_len pins s σ H _ us Q I rs ⟨_, _, rfl, .inl ⟨_, h, rfl⟩, ?_⟩
          rw [List.length_map]
          exact q _ _ _ _ (New.scalar e .int)
  · cases hs
theorem ty_of {K : PySem.W.Frag} {H : Hp} {x : V} {d : D} {n : String} (h : Fz K H x d) (e : kindN d = some n) : TyX K H x (.type n) := by
  cases h with
  | non => cases e; exact .base .non
  | bl => cases e; exact .base (.bl _)
  | int => cases e; exact .base (.int _)
  | str => cases e; exact .base (.str _)
  | tup h r =>
    cases e
    rcases h with (h | ⟨o, h⟩) | ⟨o, _, _, h, c, _⟩
    · exact .base (.tup h)
    · exact .fTuple h
    · exact .kTuple h c
  | lst h r => cases e; exact .base (.lst h)
  | dicK h c r => cases e; exact .base (.dK h)
  | dicT h c r => cases e; exact .base (.dT h)
  | _ => cases e
theorem kit_tab {a b : String} (ha : a ∈ ["NoneType", "bool", "int", "str", "tuple", "list", "dict"]) (hb : b ∈ ["int", "bool", "str", "tuple", "list", "dict"]) : kitB a b = some (subN a b) := by
  simp only [List.mem_cons, List.not_mem_nil, or_false] at ha hb
  rcases ha with h | h | h | h | h | h | h <;> rcases hb with g | g | g | g | g | g <;> subst h g <;> decide +kernel
theorem kind_in {d : D} {n : String} (e : kindN d = some n) : n ∈ ["NoneType", "bool", "int", "str", "tuple", "list", "dict"] := by
  cases d <;> simp [kindN] at e <;> subst e <;> simp
theorem cls_in {c : Str} {n : String} (e : clsN c = some n) : n ∈ ["int", "bool", "str", "tuple", "list", "dict"] := by
  unfold clsN at e
  repeat (first | (split at e; · cases e; simp) | cases e)
theorem q_isi {c : Str} {n : String} (hc : clsN c = some n) : CallR X (.builtin "isinstance") fun xs H Q => ∃ x, xs = [x, .ty n] ∧ rD X.K sup (.isinst [c]) [x] H Q := by
  intro pins s σ H xs us Q I rs ⟨x, ex, h⟩
  subst ex
  obtain ⟨Hf, a, d, e, p1, hs, q⟩ := h.one
  have p1 : Fz X.K H x a := p1
  have hs : (isKinds a [c]).map D.bl = some d := hs
  obtain ⟨b, hb, rfl⟩ := Option.map_eq_some_iff.mp hs
  unfold isKinds isKind at hb
  rw [hc] at hb
  cases ek : kindN a with
  | none => rw [ek] at hb; cases hb
  | some m =>
    rw [ek] at hb
    have hb : some (subN m n || false) = some b := hb
    rw [Bool.or_false] at hb
    refine call_isi pins s σ H _ us Q I rs ⟨x, .ty n, .type m, .type n, b, rfl, .ty n, ty_of p1 ek, ?_, q _ _ _ _ (New.scalar e .bl)⟩
    rw [← hb]
    exact kit_ty (kit_tab (kind_in ek) (cls_in hc))
end

/-! ## sorted -/
def vd (K : PySem.W.Frag) (Hf : Hp) (u : Value) (d : D) : Prop := ∃ v, RelV v u ∧ Fz K Hf v d
section
variable {X : Cx} {sup : Str → List Str}
theorem each_of {K : PySem.W.Frag} {Hf : Hp} : ∀ {vs : List V} {us : List Value} {ds : List D}, Vals vs us → Fzs K Hf vs ds → PySem.W.EachIs (vd K Hf) us ds
  | _, _, _, .nil, .nil => .nil
  | _, _, _, .cons r rs, .cons h t => .cons ⟨_, r, h⟩ (each_of rs t)
theorem of_each {K : PySem.W.Frag} {Hf : Hp} : ∀ {us : List Value} {ds : List D}, PySem.W.EachIs (vd K Hf) us ds → ∃ vs, Vals vs us ∧ Fzs K Hf vs ds
  | _, _, .nil => ⟨[], .nil, .nil⟩
  | _, _, .cons ⟨v, r, h⟩ t => let ⟨vs, rs, hs⟩ := of_each t; ⟨v :: vs, .cons r rs, .cons h hs⟩
theorem all_plain {n : Nat} : ∀ {ds : List D}, D.plainsN n ds = true → ∀ d ∈ ds, D.plainN n d = true
  | [], _, d, h => nomatch h
  | x :: xs, e, d, h => by
    have e' : (D.plainN n x && D.plainsN n xs) = true := by simpa [D.plainsN] using e
    rcases List.mem_cons.mp h with h | h
    · subst h; exact (Bool.and_eq_true_iff.mp e').1
    · exact all_plain (Bool.and_eq_true_iff.mp e').2 d h
theorem sortable_py {ds : List D} (h : sortable ds = true) (pl : D.plains ds = true) : PySem.W.Sortable (ds.map D.py) := by
  rcases Bool.or_eq_true_iff.mp h with h | h
  · left
    intro x hx
    obtain ⟨a, ha, rfl⟩ := List.mem_map.mp hx
    have := List.all_eq_true.mp h a ha
    split at this
    · exact ⟨_, _, rfl⟩
    · cases this
  · right
    intro x hx
    obtain ⟨a, ha, rfl⟩ := List.mem_map.mp hx
    have h1 := List.all_eq_true.mp h a ha
    have h2 := all_plain pl a ha
    have q := plainN_no (n := 59)
    cases a <;> simp_all [D.py]
theorem sort_eq {ds : List D} (al : alikeAll ds = true) (pl : D.plains ds = true) : ds.mergeSort (PySem.W.dataLe false D.py) = sortD ds := by
  have hm := List.map_mergeSort (r := PySem.W.dataLe false D.py) (s := fun a b => !D.lt b a) (f := id) (l := ds) fun a ha b hb => by
    have z : D.alike b a = true := by
      have := List.all_eq_true.mp al b hb
      exact List.all_eq_true.mp this a ha
    show (!PySem.W.dataLt b.py a.py) = _
    rw [lt_py 59 59 b a (all_plain pl b hb) (all_plain pl a ha) z]
    rfl
  rw [List.map_id, List.map_id] at hm
  exact hm
theorem q_sorted (hu : X.A.units + 64 < cLine) : CallR X (.builtin "sorted") (rD X.K sup .sorted) := by
  intro pins s σ H xs us Q I rs h
  obtain ⟨Hf, ds, d, e, pk, hs, q⟩ := h
  have hs : sSorted ds = some d := hs
  unfold sSorted at hs
  split at hs
  · rename_i ds _
    obtain ⟨h1, rfl⟩ := chk_some hs
    cases pk with
    | cons p1 pk => cases pk with
      | nil =>
        obtain ⟨a, ys, rfl, g, r⟩ := pk_lstT e p1
        obtain ⟨u, rfl, rx⟩ := vals1 rs
        obtain rfl : u = Value.ref a := rx
        unfold canSort at h1
        simp only [Bool.and_eq_true] at h1
        obtain ⟨al, pl, so⟩ := h1
        obtain ⟨its, rv, hl, hz⟩ := I.list (.inl (.inl g))
        refine PySem.W.sorted_data (enc := D.py) (bs := ds) (R := vd X.K Hf) hl.isList (each_of rv r) ?_ ?_ ?_ (by rw [← r.length]; exact hz) ?_ fun out hlo ho => ?_
        · have rd : ∀ {vs : List V} {us : List Value} {ds : List D}, Vals vs us → Fzs X.K Hf vs ds → D.plains ds = true → PySem.W.EachIs (fun v b => ∃ as, Reads s.heap v (D.py b) as) us ds := by
            intro vs us ds rs
            induction rs generalizing ds with
            | nil => intro f _; cases f; exact .nil
            | cons r rs ih =>
              intro f p
              cases f with
              | cons h t =>
                rename_i d0 ds0
                have p' : (D.plainN 59 d0 && D.plainsN 59 ds0) = true := by simpa [D.plains, D.plainsN] using p
                exact .cons (Dp.reads I _ _ _ (Fz.dp (h.mono e) 59 (Bool.and_eq_true_iff.mp p').1) r) (ih t (Bool.and_eq_true_iff.mp p').2)
          exact rd rv r pl
        · intro x hx y hy
          obtain ⟨a, ha, rfl⟩ := List.mem_map.mp hx
          obtain ⟨b, hb, rfl⟩ := List.mem_map.mp hy
          have := List.all_eq_true.mp al a ha
          exact alike_py a b (List.all_eq_true.mp this b hb)
        · exact sortable_py so pl
        · intro b hb
          have := dep_py 59 b (all_plain pl b hb)
          omega
        · obtain ⟨vs', rv', fz'⟩ := of_each ho
          rw [sort_eq al pl] at fz'
          obtain ⟨ep, he'⟩ := PyProof.Rows.sortedAll_at s.heap its (List.toArray out)
          have hlen : vs'.length ≤ sizeLine := by rw [rv'.length, hlo, ← r.length]; exact hz
          exact ⟨.ref _, upd H (s.heap.objs.size + 1) (.lst vs'), I.laid (t' := s.toks) (fun _ _ => PyProof.Rows.sortedAll_old) (Nat.le_succ _) ⟨hlen, out, ep, rv', he'⟩, rfl, q _ _ _ _ (New.lst e (I.hok.fresh (Nat.le_succ _)) fz')⟩
  · cases hs
/-- an item of a dict -/
theorem ix_dg (hu : X.A.units + 64 < cLine) : IxR X fun x y H Q => ∃ a z, x = .ref a ∧ DG X.K H a y (some z) ∧ Q z H := by
  intro value slice pins s σ H x y v u Q I rx ry ⟨a, z, ex, g, hQ⟩ hsl
  subst ex
  obtain rfl : v = Value.ref a := rx
  have ty : s.TypeIs (.ref a) "dict" := by
    refine g.run I (fun H1 kvs k I1 e ey eo back => ?_) fun H1 kvs k b I1 e ey q eo back => ?_
    · exact dict_typeIs I1 (.inl ⟨kvs, k, .inl e, ey, eo⟩)
    · obtain ⟨_, _, xs, _, dd⟩ := dt_rd I1.hok (.inl e)
      exact dd.typeIs
  unfold subscriptTail
  refine wpAny_bind ?_
  rw [getitemInPython_of_ne ty.not_modules]
  refine wpAny_bind (wpAny_specialOf ty PySem.F.slot_dict_getitem.lookup ?_)
  have done : wpAny (model X.prog X.w) X.A (subscripted slice false (.ref a) u) (fun r s3 => wpAny (model X.prog X.w) X.A (letTemporaryGo value (.ref a) r >>= fun _ => pure r) (EP X pins σ Q) X.xe s3) X.xe s := by
    rw [hsl]
    refine wpAny_operating (g_item (by omega) I g ry fun w' s' I' rw' => ?_)
    exact wpAny_bind (wpAny_letTemporaryGo (wpAny_pure ⟨z, H, I', rw', hQ⟩))
  first
    | exact wpAny_pure (wpAny_bind done)
    | exact wpAny_bind (wpAny_pure (wpAny_bind done))
    | exact wpAny_bind done
theorem q_ixd (hu : X.A.units + 64 < cLine) : IxR X fun x y H Q => ∃ Hf ks ds k d, Same Hf H ∧ Fz1 X.K Hf H x (.dic ks ds) ∧ Fz X.K H y k ∧ keyOk ks k = true ∧ lookD ks ds k = some d ∧ ∀ v, Fz X.K Hf v d → Q v H := by
  intro value slice pins s σ H x y v u Q I rx ry ⟨Hf, ks, ds, k, d, e, hd, hk, ok, hl, q⟩ hsl
  obtain ⟨a, o, rfl, g, ho⟩ := dg_of e hd hk ok
  rw [hl] at ho
  obtain ⟨z, rfl, fz⟩ := ho
  exact ix_dg hu value slice pins s σ H _ y v u Q I rx ry ⟨a, z, rfl, g, q z fz⟩ hsl
theorem q_idx (hu : X.A.units + 64 < cLine) : IxR X fun x y => rD X.K sup .idx [x, y] := by
  intro value slice pins s σ H x y v u Q I rx ry h hsl
  obtain ⟨Hf, a, b, d, e, p1, p2, hs, q⟩ := h.two
  have hs : sIdx [a, b] = some d := hs
  by_cases z : ∃ ks vs, a = .dic ks vs
  · obtain ⟨ks, vs, rfl⟩ := z
    have hs : (if keyOk ks b then lookD ks vs b else none) = some d := hs
    split at hs
    · rename_i ok
      exact q_ixd hu value slice pins s σ H x y v u Q I rx ry ⟨Hf, ks, vs, b, d, e, p1, Pk.all e p2, ok, hs, fun w fz => q _ _ _ _ (New.old e fz)⟩ hsl
    · cases hs
  · exact q_ix value slice pins s σ H x y v u Q I rx ry ⟨Hf, a, b, d, e, p1, p2, hs, fun ks vs c => z ⟨ks, vs, c⟩, q⟩ hsl
end
end Tk
end
section
set_option linter.all false
set_option maxRecDepth 100000
set_option maxHeartbeats 4000000
/-! Expressions: operators, displays, tests. -/
namespace Tk
open PySem PySem.Spec PyProof.Rows L2

theorem bind_exc {α β : Type} {r : R α} {k : α → SS → R β} (h1 : ∀ x S', r ≠ .exc x S') (h2 : ∀ a S, r = .ok a S → ∀ x S', k a S ≠ .exc x S') : ∀ x S', r.bind k ≠ .exc x S' := by
  intro x S' z
  cases r with
  | ok a S => exact h2 a S rfl x S' z
  | exc y S => exact h1 y S rfl
  | bad => cases z
theorem opt_exc {α : Type} {S : SS} (o : Option α) : ∀ x S', R.opt S o ≠ .exc x S' := by
  intro x S' z
  cases o <;> cases z
theorem ok_exc {α : Type} {S : SS} (a : α) : ∀ x S', (R.ok a S : R α) ≠ .exc x S' := fun _ _ z => nomatch z
theorem frz_exc {r : R OT} (h : ∀ x S', r ≠ .exc x S') : ∀ x S', r.frz ≠ .exc x S' := bind_exc h fun _ _ _ => ok_exc _

/-- an operand's look: of pure ones, of frozen ones -/
def PkQ (K : PySem.W.Frag) (pu fl : Bool) (Hf H : Hp) (v : V) (d : D) : Prop := match pu with
  | true => Pk K fl Hf H v d
  | false => Fz K Hf v d
theorem PkQ.pk {K : PySem.W.Frag} {pu fl : Bool} {Hf H : Hp} {v : V} {d : D} (e : Same Hf H) (h : PkQ K pu fl Hf H v d) : Pk K fl Hf H v d := by
  cases pu with
  | true => exact h
  | false => exact Pk.of e h
theorem PkQ.mono {K : PySem.W.Frag} {pu fl : Bool} {Φ : Fp} {Hf H Hf' H' : Hp} {v : V} {d : D} (k : Kp pu Φ Hf H Hf' H') (h : PkQ K pu fl Hf H v d) : PkQ K pu fl Hf' H' v d := by
  cases pu with
  | true => exact Pk.mono k.fz (k.pure rfl) h
  | false => exact Fz.mono k.fz h
def tQ (K : PySem.W.Frag) (W : WX) (p pu fl : Bool) (f : SS → R D) : TE := fun σ H Q => ∃ S Hf Φ Fs, Rel K S σ Hf H Φ Fs ∧ Out K W σ p Φ Hf H (f S) fun d _ Hf' H' _ => ∀ v, PkQ K pu fl Hf' H' v d → Q v H'
section
variable {X : Cx} {W : WX} {e : Expr} {δ : Den}
theorem frz_of (hv : PE X e (tV X.K W δ.p δ.v)) (fl pu : Bool) : PE X e (tQ X.K W δ.p pu fl fun S => (δ.v S).frz) := by
  refine hv.weak fun σ H Q h => ?_
  obtain ⟨S, Hf, Φ, Fs, R, o⟩ := h
  refine ⟨S, Hf, Φ, Fs, R, (Out.bind (p := δ.p) (q := δ.p) (q2 := δ.p) o id id).imp fun t S1 Hf1 H1 Fs1 _ R1 k1 o1 v F ow off => ?_⟩
  have R2 := R1.freezeF off
  refine o1 H1 _ Fs1 R2 (kp_freezeF fun b hb => (off b hb).1) v ?_
  cases pu with
  | true => exact Pk.of R2.same ow.frozen
  | false => exact ow.frozen
theorem Snd.q (h : Snd X W e δ) (pu fl : Bool) : PE X e (tQ X.K W δ.p pu fl (evQ pu fl δ)) := by
  cases pu with
  | true => exact h.o fl
  | false => exact frz_of h.v fl false
/-- a plain expression, by its value -/
theorem snd_of {p : Bool} {v : SS → R OT} (hv : PE X e (tV X.K W p v)) (nv : p = true → ∀ S x S', v S ≠ .exc x S') (ht : PT X e (tTs X.K W p (Den.of p v).t)) : Snd X W e (Den.of p v) where
  v := hv
  o := fun fl => frz_of (δ := Den.of p v) hv fl true
  t := ht
  nv := nv
  no := fun hp fl S => frz_exc (nv hp S)
  nt := fun hp S => bind_exc (frz_exc (nv hp S)) fun _ _ _ => opt_exc _
/-- truth of a value that is seen -/
theorem tru_fz {K : PySem.W.Frag} {H : Hp} {v : V} {d : D} {b : Bool} (h : Fz K H v d) (e : d.truth = some b) : TruV K v H b := by
  cases h with
  | non => cases e; rfl
  | bl => cases e; rfl
  | int => cases e; rfl
  | str =>
    rename_i x
    have e : (if x.cps.size ≤ 16777216 then some (x.cps.size != 0) else none) = some b := e
    split at e
    · rename_i z
      cases e
      have e9 : sizeLine = 16777216 := by decide
      refine ⟨by show x.cps.size ≤ _; omega, ?_⟩
      show (x.cps.size != 0) = ((x.cps.size : Int) != 0)
      rw [Bool.eq_iff_iff]
      simp
    · cases e
  | tup g r =>
    cases e
    refine .inr (.inl ⟨_, g, ?_⟩)
    cases r <;> rfl
  | lst g r =>
    cases e
    refine .inl ⟨_, .inl (.inl g), ?_⟩
    cases r <;> rfl
  | _ => cases e
/-- how a test is asked of a value -/
abbrev PlainT (X : Cx) (e : Expr) : Prop := ∀ whole, isTrue e X.env whole = (do let v ← whole; standAt e.pos; holding [v] (truthy v))
theorem pt_of {p : Bool} {v : SS → R OT} (hv : PE X e (tV X.K W p v)) (he : PlainT X e) : PT X e (tTs X.K W p (Den.of p v).t) := by
  refine (pt_truth (frz_of (δ := Den.of p v) hv false true) he).weak fun σ H Q h => ?_
  obtain ⟨S, Hf, Φ, Fs, R, o⟩ := h
  refine ⟨S, Hf, Φ, Fs, R, (Out.bind (p := p) (q := p) (q2 := p) o id id).imp fun d S1 Hf1 H1 Fs1 _ R1 k1 o1 v pk => ?_⟩
  cases ed : d.truth with
  | none => rw [ed] at o1; exact o1.elim
  | some b =>
    rw [ed] at o1
    exact ⟨b, tru_fz (Pk.all R1.same (PkQ.pk R1.same pk)) ed, o1.ok R1⟩
theorem pt_ofO {p : Bool} {o : SS → R D} (ho : PE X e (tO X.K W p false o)) (he : PlainT X e) : PT X e (tTs X.K W p fun S => (o S).bind fun d S1 => .opt S1 d.truth) := by
  refine (pt_truth ho he).weak fun σ H Q h => ?_
  obtain ⟨S, Hf, Φ, Fs, R, o⟩ := h
  refine ⟨S, Hf, Φ, Fs, R, (Out.bind (p := p) (q := p) (q2 := p) o id id).imp fun d S1 Hf1 H1 Fs1 _ R1 k1 o1 v pk => ?_⟩
  cases ed : d.truth with
  | none => rw [ed] at o1; exact o1.elim
  | some b =>
    rw [ed] at o1
    exact ⟨b, tru_fz (Pk.all R1.same pk) ed, o1.ok R1⟩
/-- a comparison's test is the value's -/
theorem tt_of {p : Bool} {v : SS → R OT} {t : TE} (hb : ∀ S u S', v S = .ok u S' → ∃ k, u = .leaf (.bl k)) (hw : ∀ σ H Q, tV X.K W p v σ H Q → t σ H Q) : ∀ σ H Q, tTs X.K W p (Den.of p v).t σ H Q → tTest t σ H Q := by
  intro σ H Q h
  obtain ⟨S, Hf, Φ, Fs, R, o⟩ := h
  refine hw σ H _ ⟨S, Hf, Φ, Fs, R, ?_⟩
  have o : Out X.K W σ p Φ Hf H ((v S).bind fun t S1 => (Tk.R.ok t.frz S1).bind fun d S2 => .opt S2 d.truth) fun b _ _ H' _ => Q b H' := by
    have e : (Den.of p v).t S = (v S).bind fun t S1 => (Tk.R.ok t.frz S1).bind fun d S2 => .opt S2 d.truth := by
      show ((v S).bind _).bind _ = _
      cases v S <;> rfl
    rw [e] at o
    exact o
  refine (o.bind (q := p) (q2 := p) id id).imp fun u S1 Hf1 H1 Fs1 e R1 k1 o1 v F ow off => ?_
  obtain ⟨k, rfl⟩ := hb _ _ _ e
  cases ow with
  | leaf h =>
    cases h
    exact ⟨k, rfl, Out.ok (show Out X.K W σ p Φ Hf1 H1 (.ok k S1) _ from o1) R1⟩
end

/-! ## operators -/
section
variable {X : Cx} {W : WX} {g : G} {p : P} {a b c : Expr} {α β γ : Den} {pos : Pos}
theorem end_prim {σ : L2.St} {Hf H : Hp} {Φ : Fp} {Fs : Nat → Fp} {S : SS} {q : Bool} {ds : List D} {vs : List V} {Q : VK} (R : Rel X.K S σ Hf H Φ Fs) (pk : Pks X.K p.keeps Hf H vs ds)
    (o : Out X.K W σ q Φ Hf H (endP g p ds S) fun t _ Hf' H' Fs' => ∀ v F, Ow X.K Hf' H' v t F → Off F Φ H' Fs' → Q v H') : rD X.K g.sup p vs H Q := by
  cases e : p.sem g.sup ds with
  | none =>
    unfold endP at o
    rw [e] at o
    exact o.elim
  | some d =>
    unfold endP at o
    rw [e] at o
    exact ⟨Hf, ds, d, R.same, pk, e, fun v Hf' H' F N => o H' Hf' Fs (N.rel R) (N.kp R) v F N.ow (N.off R)⟩
theorem nx_end (ds : List D) (S : SS) : ∀ x S', endP g p ds S ≠ .exc x S' := bind_exc (opt_exc _) fun _ _ _ => ok_exc _
theorem one_prim {σ : L2.St} {H : Hp} {Q : VK} (h : tV X.K W (dPrim g p [α]).p (dPrim g p [α]).v σ H Q) : tQ X.K W α.p (allP [α]) p.keeps (evQ (allP [α]) p.keeps α) σ H fun x H1 => rD X.K g.sup p [x] H1 Q := by
  obtain ⟨S, Hf, Φ, Fs, R, o⟩ := h
  have e1 : allP [α] = α.p := Bool.and_true _
  have o : Out X.K W σ (allP [α]) Φ Hf H (((evQ (allP [α]) p.keeps α S).bind fun d S1 => .ok [d] S1).bind (endP g p)) _ := o
  refine ⟨S, Hf, Φ, Fs, R, ((o.bind (q := α.p) (q2 := true) (fun z => by rwa [e1] at z) fun _ => rfl).bind (q := α.p) (q2 := true) id fun _ => rfl).imp fun d S1 Hf1 H1 Fs1 _ R1 k1 o1 v pk => ?_⟩
  exact end_prim R1 (.cons (pk.pk R1.same) .nil) (o1.ok R1)
theorem two_prim {σ : L2.St} {H : Hp} {Q : VK} (h : tV X.K W (dPrim g p [α, β]).p (dPrim g p [α, β]).v σ H Q) : tQ X.K W α.p (allP [α, β]) p.keeps (evQ (allP [α, β]) p.keeps α) σ H fun x H1 => tQ X.K W β.p (allP [α, β]) p.keeps (evQ (allP [α, β]) p.keeps β) σ H1 fun y H2 => rD X.K g.sup p [x, y] H2 Q := by
  obtain ⟨S, Hf, Φ, Fs, R, o⟩ := h
  have e1 : allP [α, β] = true → α.p = true ∧ β.p = true := fun z => by
    have z : (α.p && (β.p && true)) = true := z
    simpa using z
  have o : Out X.K W σ (allP [α, β]) Φ Hf H (((evQ (allP [α, β]) p.keeps α S).bind fun d S1 => ((evQ (allP [α, β]) p.keeps β S1).bind fun d2 S2 => (Tk.R.ok [d2] S2)).bind fun ds S2 => .ok (d :: ds) S2).bind (endP g p)) _ := o
  generalize allP [α, β] = pu at o e1 ⊢
  refine ⟨S, Hf, Φ, Fs, R, ((o.bind (q := pu) (q2 := pu) id id).bind (q := α.p) (q2 := pu) (fun z => (e1 z).1) id).imp fun d S1 Hf1 H1 Fs1 _ R1 k1 o1 v pk => ?_⟩
  refine ⟨S1, Hf1, Φ, Fs1, R1, ((o1.bind (q := pu) (q2 := pu) id id).bind (q := β.p) (q2 := pu) (fun z => (e1 z).2) id).imp fun d2 S2 Hf2 H2 Fs2 _ R2 k2 o2 v2 pk2 => ?_⟩
  have o2 := Out.ok (Out.ok o2 R2) R2
  exact end_prim R2 (.cons ((pk.mono (k2.low fun z => (e1 z).2)).pk R2.same) (.cons (pk2.pk R2.same) .nil)) o2
theorem evQ_exc {pu fl : Bool} {e : Expr} {δ : Den} (h : Snd X W e δ) (hp : δ.p = true) : ∀ S x S', evQ pu fl δ S ≠ .exc x S' := by
  intro S
  cases pu with
  | true => exact h.no hp fl S
  | false => exact frz_exc (h.nv hp S)
theorem nv_one (ha : Snd X W a α) : (dPrim g p [α]).p = true → ∀ S x S', (dPrim g p [α]).v S ≠ .exc x S' := fun hp S => by
  have hp : (α.p && true) = true := hp
  have hp : α.p = true := by simpa using hp
  exact bind_exc (bind_exc (evQ_exc ha hp S) fun _ _ _ => ok_exc _) fun _ _ _ => nx_end _ _
theorem nv_two (ha : Snd X W a α) (hb : Snd X W b β) : (dPrim g p [α, β]).p = true → ∀ S x S', (dPrim g p [α, β]).v S ≠ .exc x S' := fun hp S => by
  have hp : (α.p && (β.p && true)) = true := hp
  have hp : α.p = true ∧ β.p = true := by simpa using hp
  exact bind_exc (bind_exc (evQ_exc ha hp.1 S) fun _ _ _ => bind_exc (bind_exc (evQ_exc hb hp.2 _) fun _ _ _ => ok_exc _) fun _ _ _ => ok_exc _) fun _ _ _ => nx_end _ _
theorem snd_bin {op : Operator} (ho : OpR X (binaryOp op) fun x y => rD X.K g.sup p [x, y]) (ha : Snd X W a α) (hb : Snd X W b β) (ht : PlainT X (.BinOp a op b pos)) : Snd X W (.BinOp a op b pos) (dPrim g p [α, β]) :=
  have hv := (pe_op (pos := pos) ho (ha.q (allP [α, β]) p.keeps) (hb.q (allP [α, β]) p.keeps)).weak fun σ H Q h => two_prim (g := g) h
  snd_of hv (nv_two ha hb) (pt_of hv ht)
theorem snd_un {op : UnaryOp} (ho : UnR X (unaryOp op) fun x => rD X.K g.sup p [x]) (ha : Snd X W a α) (ht : PlainT X (.UnaryOp op a pos)) : Snd X W (.UnaryOp op a pos) (dPrim g p [α]) :=
  have hv := (pe_un (pos := pos) ho (ha.q (allP [α]) p.keeps)).weak fun σ H Q h => one_prim (g := g) h
  snd_of hv (nv_one ha) (pt_of hv ht)
theorem prim_bool {ds : List Den} (hs : ∀ l d, p.sem g.sup l = some d → ∃ k, d = .bl k) (hm : p.made = false) : ∀ S u S', (dPrim g p ds).v S = .ok u S' → ∃ k, u = .leaf (.bl k) := by
  intro S u S' z
  have z : ((evL (allP ds) p.keeps ds S).bind (endP g p)) = .ok u S' := z
  cases e : evL (allP ds) p.keeps ds S with
  | ok l S1 =>
    rw [e] at z
    have z : endP g p l S1 = .ok u S' := z
    unfold endP at z
    cases e2 : p.sem g.sup l with
    | none => rw [e2] at z; cases z
    | some d =>
      obtain ⟨k, rfl⟩ := hs _ _ e2
      rw [e2, hm] at z
      cases z
      exact ⟨k, rfl⟩
  | exc x S1 => rw [e] at z; cases z
  | bad => rw [e] at z; cases z
theorem snd_cmp {op : CmpOp} (ho : OpR X (compareOp op) fun x y => rD X.K g.sup p [x, y]) (ha : Snd X W a α) (hb : Snd X W b β) (hm : behindInMarks op b = false) (hs : ∀ l d, p.sem g.sup l = some d → ∃ k, d = .bl k) (hd : p.made = false) :
    Snd X W (.Compare a [op] [b] pos) (dPrim g p [α, β]) :=
  have hw : ∀ σ H Q, tV X.K W (dPrim g p [α, β]).p (dPrim g p [α, β]).v σ H Q → tOp (fun x y => rD X.K g.sup p [x, y]) (tQ X.K W α.p (allP [α, β]) p.keeps (evQ (allP [α, β]) p.keeps α)) (tQ X.K W β.p (allP [α, β]) p.keeps (evQ (allP [α, β]) p.keeps β)) σ H Q := fun σ H Q h => two_prim (g := g) h
  have hv := (pe_cmpR (pos := pos) ho (ha.q (allP [α, β]) p.keeps) (hb.q (allP [α, β]) p.keeps) hm).weak hw
  snd_of hv (nv_two ha hb) ((pt_cmpR (pos := pos) ho (ha.q (allP [α, β]) p.keeps) (hb.q (allP [α, β]) p.keeps) hm).weak (tt_of (prim_bool hs hd) hw))
/-- x is None, x is not None -/
theorem snd_isN {op : CmpOp} {j : Nat} {p2 : Pos} (ho : OpR X (compareOp op) fun x y H Q => y = .non ∧ rD X.K g.sup p [x] H Q) (ha : Snd X W a α) (hm : behindInMarks op (.Constant .none j p2) = false) (hs : ∀ l d, p.sem g.sup l = some d → ∃ k, d = .bl k) (hd : p.made = false) :
    Snd X W (.Compare a [op] [.Constant .none j p2] pos) (dPrim g p [α]) :=
  have hw : ∀ σ H Q, tV X.K W (dPrim g p [α]).p (dPrim g p [α]).v σ H Q → tOp _ (tQ X.K W α.p (allP [α]) p.keeps (evQ (allP [α]) p.keeps α)) (tC .non) σ H Q := fun σ H Q h => by
    obtain ⟨S, Hf, Φ, Fs, R, o⟩ := one_prim (g := g) h
    exact ⟨S, Hf, Φ, Fs, R, o.imp fun d S1 Hf1 H1 Fs1 _ R1 k1 o1 v pk => ⟨rfl, o1 v pk⟩⟩
  have hn : PE X (.Constant .none j p2) (tC .non) := pe_non
  have hv := (pe_cmpR (pos := pos) ho (ha.q (allP [α]) p.keeps) hn hm).weak hw
  snd_of hv (nv_one ha) ((pt_cmpR (pos := pos) ho (ha.q (allP [α]) p.keeps) hn hm).weak (tt_of (prim_bool hs hd) hw))
/-! constants -/
def denC (d : D) : Den := .of true fun S => .ok (.leaf d) S
theorem snd_c {e : Expr} {v : V} {d : D} (h : PE X e (tC v)) (hf : ∀ Hf : Hp, Fz X.K Hf v d) (ht : PlainT X e) : Snd X W e (denC d) :=
  have hv : PE X e (tV X.K W true fun S => .ok (.leaf d) S) := h.weak fun σ H Q h => by
    obtain ⟨S, Hf, Φ, Fs, R, o⟩ := h
    exact Out.ok o R v (fun _ => False) (.leaf (hf Hf)) fun _ z => z.elim
  snd_of hv (fun _ S => ok_exc _) (pt_of hv ht)
/-! a op b op2 c -/
theorem snd_chain {op op2 : CmpOp} {q : P} (ho : OpR X (compareOp op) fun x y => rD X.K g.sup p [x, y]) (ho2 : OpR X (compareOp op2) fun x y => rD X.K g.sup q [x, y]) (ha : Snd X W a α) (hb : Snd X W b β) (hc : Snd X W c γ) (hm : lastMarks [op, op2] [b, c] = false)
    (kp : p.keeps = false) (kq : q.keeps = false) (mp : p.made = false) (mq : q.made = false) (hq : ∀ l d, q.sem g.sup l = some d → ∃ k, d = .bl k) : Snd X W (.Compare a [op, op2] [b, c] pos) (dChain g p q α β γ) := by
  have hw : ∀ σ H Q, tV X.K W (dChain g p q α β γ).p (dChain g p q α β γ).v σ H Q → tChain (fun x y => rD X.K g.sup p [x, y]) (fun x y => rD X.K g.sup q [x, y]) (tO X.K W α.p false (α.o false)) (tO X.K W β.p false (β.o false)) (tO X.K W γ.p false (γ.o false)) σ H Q := by
    intro σ H Q h
    obtain ⟨S, Hf, Φ, Fs, R, o⟩ := h
    cases epu : (α.p && (β.p && γ.p)) with
    | false =>
      exfalso
      have e : (dChain g p q α β γ).v S = .bad := by
        show (if (α.p && (β.p && γ.p)) = true then _ else _) = _
        rw [epu]
        rfl
      rw [e] at o
      exact o
    | true =>
      have e1 : α.p = true ∧ β.p = true ∧ γ.p = true := by simpa using epu
      have e : (dChain g p q α β γ).v S = (α.o false S).bind fun x S1 => (β.o false S1).bind fun y S2 => (Tk.R.opt S2 (p.sem g.sup [x, y])).bind fun r S2 => match r with
        | .bl true => (γ.o false S2).bind fun z S3 => (Tk.R.opt S3 (q.sem g.sup [y, z])).bind fun r S3 => .ok (.leaf r) S3
        | .bl false => .ok (.leaf (.bl false)) S2
        | _ => .bad := by
        show (if (α.p && (β.p && γ.p)) = true then _ else _) = _
        rw [epu]
        rfl
      have ep : (dChain g p q α β γ).p = true := epu
      rw [e, ep] at o
      refine ⟨S, Hf, Φ, Fs, R, (o.bind (q := α.p) (q2 := true) (fun _ => e1.1) id).imp fun d S1 Hf1 H1 Fs1 _ R1 k1 o1 v pk => ?_⟩
      refine ⟨S1, Hf1, Φ, Fs1, R1, (o1.bind (q := β.p) (q2 := true) (fun _ => e1.2.1) id).imp fun d2 S2 Hf2 H2 Fs2 _ R2 k2 o2 v2 pk2 => ?_⟩
      cases es : p.sem g.sup [d, d2] with
      | none => rw [es] at o2; exact o2.elim
      | some r =>
        rw [es] at o2
        refine ⟨Hf2, [d, d2], r, R2.same, ?_, es, ?_⟩
        · rw [kp]
          exact .cons (Pk.mono k2.fz (k2.pure e1.2.1) pk) (.cons pk2 .nil)
        · rw [mp]
          intro w Hf' H' F N
          cases r with
          | bl k =>
            have fz := N.ow
            cases fz with
            | leaf fz =>
              cases fz
              refine ⟨k, rfl, ?_⟩
              have R3 := N.rel R2
              have k3 := N.kp (p := true) R2
              cases k with
              | true =>
                have o2 : Out X.K W σ true Φ Hf2 H2 ((γ.o false S2).bind fun z S3 => (Tk.R.opt S3 (q.sem g.sup [d2, z])).bind fun r S3 => Tk.R.ok (OT.leaf r) S3) _ := o2
                refine ⟨S2, Hf', Φ, Fs2, R3, ((o2.base (Ψ := Φ) k3 (fun z => z) fun _ z => z).bind (q := γ.p) (q2 := true) (fun _ => e1.2.2) id).imp fun d3 S4 Hf4 H4 Fs4 _ R4 k4 o4 v3 pk3 => ?_⟩
                cases es2 : q.sem g.sup [d2, d3] with
                | none => rw [es2] at o4; exact o4.elim
                | some r2 =>
                  rw [es2] at o4
                  refine ⟨Hf4, [d2, d3], r2, R4.same, ?_, es2, ?_⟩
                  · rw [kq]
                    exact .cons (Pk.mono (k3.fz.trans k4.fz) ((k3.pure rfl).trans (k4.pure e1.2.2)) pk2) (.cons pk3 .nil)
                  · rw [mq]
                    intro w2 Hf5 H5 F5 N5
                    exact o4 H5 Hf5 Fs4 (N5.rel R4) (N5.kp R4) w2 F5 N5.ow (N5.off R4)
              | false =>
                have o2 : Out X.K W σ true Φ Hf2 H2 (Tk.R.ok (OT.leaf (.bl false)) S2) _ := o2
                exact o2 H' Hf' Fs2 R3 k3 (.bl false) (fun _ => False) (.leaf .bl) fun _ z => z.elim
          | _ => exact o2.elim
  have hv := (pe_chain (pos := pos) ho ho2 (ha.o false) (hb.o false) (hc.o false) hm).weak hw
  refine snd_of hv ?_ ((pt_chain (pos := pos) ho ho2 (ha.o false) (hb.o false) (hc.o false) hm).weak (tt_of ?_ hw))
  · intro hp S
    have e1 : α.p = true ∧ β.p = true ∧ γ.p = true := by
      have : (α.p && (β.p && γ.p)) = true := hp
      simpa using this
    show ∀ x S', (if (α.p && (β.p && γ.p)) = true then _ else _) ≠ _
    rw [if_pos hp]
    refine bind_exc (ha.no e1.1 false S) fun _ _ _ => bind_exc (hb.no e1.2.1 false _) fun _ _ _ => bind_exc (opt_exc _) fun r _ _ => ?_
    split
    · exact bind_exc (hc.no e1.2.2 false _) fun _ _ _ => bind_exc (opt_exc _) fun _ _ _ => ok_exc _
    · exact ok_exc _
    · exact fun _ _ z => nomatch z
  · intro S u S' z
    have z : (if (α.p && (β.p && γ.p)) = true then _ else _) = Tk.R.ok u S' := z
    split at z
    · cases z1 : α.o false S with
      | ok x S1 =>
        rw [z1] at z
        have z : (β.o false S1).bind _ = Tk.R.ok u S' := z
        cases z2 : β.o false S1 with
        | ok y S2 =>
          rw [z2] at z
          have z : (Tk.R.opt S2 (p.sem g.sup [x, y])).bind _ = Tk.R.ok u S' := z
          cases z3 : p.sem g.sup [x, y] with
          | none => rw [z3] at z; cases z
          | some r =>
            rw [z3] at z
            cases r with
            | bl k =>
              cases k with
              | false => cases z; exact ⟨false, rfl⟩
              | true =>
                have z : (γ.o false S2).bind _ = Tk.R.ok u S' := z
                cases z4 : γ.o false S2 with
                | ok y3 S3 =>
                  rw [z4] at z
                  have z : (Tk.R.opt S3 (q.sem g.sup [y, y3])).bind _ = Tk.R.ok u S' := z
                  cases z5 : q.sem g.sup [y, y3] with
                  | none => rw [z5] at z; cases z
                  | some r2 =>
                    obtain ⟨k, rfl⟩ := hq _ _ z5
                    rw [z5] at z
                    cases z
                    exact ⟨k, rfl⟩
                | exc _ _ => rw [z4] at z; cases z
                | bad => rw [z4] at z; cases z
            | _ => cases z
        | exc _ _ => rw [z2] at z; cases z
        | bad => rw [z2] at z; cases z
      | exc _ _ => rw [z1] at z; cases z
      | bad => rw [z1] at z; cases z
    · cases z
/-! x[i] -/
theorem snd_ix (ho : IxR X fun x y => rD X.K g.sup .idx [x, y]) (ha : Snd X W a α) (hb : Snd X W b β) (hs : PlainIx b) (ht : PlainT X (.Subscript a b pos)) : Snd X W (.Subscript a b pos) (dPrim g .idx [α, β]) :=
  have hv := (pe_ix (pos := pos) ho (ha.q (allP [α, β]) true) (hb.q (allP [α, β]) true) hs).weak fun σ H Q h => two_prim (g := g) (p := .idx) h
  snd_of hv (nv_two ha hb) (pt_of hv ht)
/-! built-in functions -/
theorem snd_b1 {f : Str} {id : String} {p1 : Pos} (hc : CallR X (.builtin id) (rD X.K g.sup p)) (hg : Gl X f) (hm : X.mg f = none) (hv : bootBuiltins f = some (.builtin id)) (hn : f ≠ "__name__") (hd : (f == ("__debug__" : Str)) = false) (ha : Snd X W a α)
    (he : starEach [a] X.env = (false, eval a X.env) :: starEach [] X.env) (ht : PlainT X (.Call (.Name f p1) [a] [] pos)) : Snd X W (.Call (.Name f p1) [a] [] pos) (dPrim g p [α]) :=
  have hv := (pe_callB (p := p1) (pos := pos) hc hg hm hv (pa_cons (ha.q (allP [α]) p.keeps) pa_nil he) hn hd he).weak fun σ H Q h => one_prim (g := g) (p := p) h
  snd_of hv (nv_one ha) (pt_of hv ht)
theorem snd_b2 {f : Str} {id : String} {p1 : Pos} (hc : CallR X (.builtin id) (rD X.K g.sup p)) (hg : Gl X f) (hm : X.mg f = none) (hv : bootBuiltins f = some (.builtin id)) (hn : f ≠ "__name__") (hd : (f == ("__debug__" : Str)) = false) (ha : Snd X W a α) (hb : Snd X W b β)
    (he : starEach [a, b] X.env = (false, eval a X.env) :: starEach [b] X.env) (he2 : starEach [b] X.env = (false, eval b X.env) :: starEach [] X.env) (hpl : (backTo pos (starEach [b] X.env)).any (·.1) = false) (ht : PlainT X (.Call (.Name f p1) [a, b] [] pos)) :
    Snd X W (.Call (.Name f p1) [a, b] [] pos) (dPrim g p [α, β]) :=
  have hv := (pe_callB (p := p1) (pos := pos) hc hg hm hv (pa_cons (ha.q (allP [α, β]) p.keeps) (pa_cons (hb.q (allP [α, β]) p.keeps) pa_nil he2) he) hn hd he hpl).weak fun σ H Q h => two_prim (g := g) (p := p) h
  snd_of hv (nv_two ha hb) (pt_of hv ht)
theorem snd_t1 {f : Str} {id : String} {p1 : Pos} (hc : CallR X (.type id) (rD X.K g.sup p)) (hg : Gl X f) (hm : X.mg f = none) (hv : bootBuiltins f = some (.type id)) (hn : f ≠ "__name__") (hd : (f == ("__debug__" : Str)) = false) (ha : Snd X W a α)
    (he : starEach [a] X.env = (false, eval a X.env) :: starEach [] X.env) (ht : PlainT X (.Call (.Name f p1) [a] [] pos)) : Snd X W (.Call (.Name f p1) [a] [] pos) (dPrim g p [α]) :=
  have hv := (pe_callTy (p := p1) (pos := pos) hc hg hm hv (pa_cons (ha.q (allP [α]) p.keeps) pa_nil he) hn hd he).weak fun σ H Q h => one_prim (g := g) (p := p) h
  snd_of hv (nv_one ha) (pt_of hv ht)
/-- isinstance(x, T) -/
theorem snd_isi {cn : Str} {n : String} {p1 p2 : Pos} (hc : clsN cn = some n) (hg : Gl X "isinstance") (hm : X.mg "isinstance" = none) (hgc : Gl X cn) (hmc : X.mg cn = none) (hvc : bootBuiltins cn = some (.type n)) (hn : cn ≠ "__name__") (hd : (cn == ("__debug__" : Str)) = false) (ha : Snd X W a α)
    (he : starEach [a, .Name cn p2] X.env = (false, eval a X.env) :: starEach [.Name cn p2] X.env) :
    Snd X W (.Call (.Name "isinstance" p1) [a, .Name cn p2] [] pos) (dPrim g (.isinst [cn]) [α]) :=
  have hn2 : PE X (.Name cn p2) (tC (.ty n)) := ⟨fun pins s σ H Q I h => ld_blt I hgc hmc hvc ⟨.ty n, H, I, rfl, h⟩ hn hd⟩
  have hv := (pe_callB (p := p1) (pos := pos) (q_isi (sup := g.sup) hc) hg hm boot_isinstance (pa_cons (ha.q (allP [α]) false) (pa_cons hn2 pa_nil) he) (by decide) (by decide) he).weak fun σ H Q h => by
    obtain ⟨S, Hf, Φ, Fs, R, o⟩ := one_prim (g := g) (p := .isinst [cn]) h
    exact ⟨S, Hf, Φ, Fs, R, o.imp fun d S1 Hf1 H1 Fs1 _ R1 k1 o1 v pk => ⟨v, rfl, o1 v pk⟩⟩
  snd_of hv (nv_one ha) (pt_of hv fun _ => rfl)
end
end Tk
end
section
set_option linter.all false
set_option maxRecDepth 100000
set_option maxHeartbeats 4000000
/-! Expressions: and, or, not, if else; displays; names. -/
namespace Tk
open PySem PySem.Spec PyProof.Rows L2

section
variable {X : Cx} {W : WX} {g : G} {a b c : Expr} {α β γ : Den} {pos : Pos}
/-- expressions and what the evaluator says of each -/
inductive Snds (X : Cx) (W : WX) : List Expr → List Den → Prop
  | nil : Snds X W [] []
  | cons {e δ es δs} : Snd X W e δ → Snds X W es δs → Snds X W (e :: es) (δ :: δs)
theorem allP_cons {δ : Den} {δs : List Den} : allP (δ :: δs) = true → δ.p = true ∧ allP δs = true := fun z => by
  have z : (δ.p && allP δs) = true := z
  exact Bool.and_eq_true_iff.mp z
theorem pe_ands : ∀ {es : List Expr} {δs : List Den} {a : Expr} {α : Den}, Snd X W a α → Snds X W es δs → PE X (.BoolOp .And (a :: es) pos) (tV X.K W (allP (α :: δs)) (evAnd (α :: δs)))
  | [], _, a, α, ha, .nil => (pe_one ha.v).weak fun σ H Q h => by
    obtain ⟨S, Hf, Φ, Fs, R, o⟩ := h
    exact ⟨S, Hf, Φ, Fs, R, (show Out X.K W σ (allP [α]) Φ Hf H (α.v S) _ from o).flag fun z => (allP_cons z).1⟩
  | b :: es, _, a, α, ha, .cons (δ := β) (δs := δs) hb hs => (pe_andT ha.v (pe_ands hb hs)).weak fun σ H Q h => by
    obtain ⟨S, Hf, Φ, Fs, R, o⟩ := h
    have o : Out X.K W σ (allP (α :: β :: δs)) Φ Hf H ((α.v S).bind fun t S1 => (Tk.R.opt S1 t.frz.truth).bind fun b S1 => if b then evAnd (β :: δs) S1 else .ok (.leaf t.frz) S1) _ := o
    refine ⟨S, Hf, Φ, Fs, R, (o.bind (q := α.p) (q2 := allP (α :: β :: δs)) (fun z => (allP_cons z).1) id).imp fun t S1 Hf1 H1 Fs1 _ R1 k1 o1 v F ow off => ?_⟩
    cases et : t.frz.truth with
    | none => rw [et] at o1; exact o1.elim
    | some k =>
      rw [et] at o1
      refine ⟨k, tru_fz (ow.look R1.same) et, ?_⟩
      cases k with
      | true => exact ⟨S1, Hf1, Φ, Fs1, R1, (show Out X.K W σ _ Φ Hf1 H1 (evAnd (β :: δs) S1) _ from o1).flag fun z => (allP_cons z).2⟩
      | false => exact o1 H1 _ Fs1 (R1.freezeF off) (kp_freezeF fun b hb => (off b hb).1) v (fun _ => False) (.leaf ow.frozen) fun _ z => z.elim
theorem pe_ors : ∀ {es : List Expr} {δs : List Den} {a : Expr} {α : Den}, Snd X W a α → Snds X W es δs → PE X (.BoolOp .Or (a :: es) pos) (tV X.K W (allP (α :: δs)) (evOr (α :: δs)))
  | [], _, a, α, ha, .nil => (pe_one ha.v).weak fun σ H Q h => by
    obtain ⟨S, Hf, Φ, Fs, R, o⟩ := h
    exact ⟨S, Hf, Φ, Fs, R, (show Out X.K W σ (allP [α]) Φ Hf H (α.v S) _ from o).flag fun z => (allP_cons z).1⟩
  | b :: es, _, a, α, ha, .cons (δ := β) (δs := δs) hb hs => (pe_orT ha.v (pe_ors hb hs)).weak fun σ H Q h => by
    obtain ⟨S, Hf, Φ, Fs, R, o⟩ := h
    have o : Out X.K W σ (allP (α :: β :: δs)) Φ Hf H ((α.v S).bind fun t S1 => (Tk.R.opt S1 t.frz.truth).bind fun b S1 => if b then .ok (.leaf t.frz) S1 else evOr (β :: δs) S1) _ := o
    refine ⟨S, Hf, Φ, Fs, R, (o.bind (q := α.p) (q2 := allP (α :: β :: δs)) (fun z => (allP_cons z).1) id).imp fun t S1 Hf1 H1 Fs1 _ R1 k1 o1 v F ow off => ?_⟩
    cases et : t.frz.truth with
    | none => rw [et] at o1; exact o1.elim
    | some k =>
      rw [et] at o1
      refine ⟨k, tru_fz (ow.look R1.same) et, ?_⟩
      cases k with
      | false => exact ⟨S1, Hf1, Φ, Fs1, R1, (show Out X.K W σ _ Φ Hf1 H1 (evOr (β :: δs) S1) _ from o1).flag fun z => (allP_cons z).2⟩
      | true => exact o1 H1 _ Fs1 (R1.freezeF off) (kp_freezeF fun b hb => (off b hb).1) v (fun _ => False) (.leaf ow.frozen) fun _ z => z.elim
theorem pw_ands : ∀ {es : List Expr} {δs : List Den} {a : Expr} {α : Den}, Snd X W a α → Snds X W es δs → PW X (.BoolOp .And (a :: es) pos) (tTs X.K W (allP (α :: δs)) (evTand (α :: δs)))
  | [], _, a, α, ha, .nil => ⟨fun wh pins s σ H Q I h => (pw_and1 ha.t).run wh pins s σ H Q I (by
    obtain ⟨S, Hf, Φ, Fs, R, o⟩ := h
    have o : Out X.K W σ (allP [α]) Φ Hf H ((α.t S).bind fun b S1 => if b then .ok true S1 else .ok false S1) _ := o
    refine ⟨S, Hf, Φ, Fs, R, (o.bind (q := α.p) (q2 := true) (fun z => (allP_cons z).1) fun _ => rfl).imp fun k S1 Hf1 H1 Fs1 _ R1 k1 o1 => ?_⟩
    cases k with
    | true => exact o1.ok R1
    | false => exact o1.ok R1)⟩
  | b :: es, _, a, α, ha, .cons (δ := β) (δs := δs) hb hs => ⟨fun wh pins s σ H Q I h => (pw_and ha.t (pw_ands hb hs)).run wh pins s σ H Q I (by
    obtain ⟨S, Hf, Φ, Fs, R, o⟩ := h
    have o : Out X.K W σ (allP (α :: β :: δs)) Φ Hf H ((α.t S).bind fun k S1 => if k then evTand (β :: δs) S1 else .ok false S1) _ := o
    refine ⟨S, Hf, Φ, Fs, R, (o.bind (q := α.p) (q2 := allP (α :: β :: δs)) (fun z => (allP_cons z).1) id).imp fun k S1 Hf1 H1 Fs1 _ R1 k1 o1 => ?_⟩
    cases k with
    | true => exact ⟨S1, Hf1, Φ, Fs1, R1, (show Out X.K W σ _ Φ Hf1 H1 (evTand (β :: δs) S1) _ from o1).flag fun z => (allP_cons z).2⟩
    | false => exact (show Out X.K W σ _ Φ Hf1 H1 (.ok false S1) _ from o1).ok R1)⟩
theorem pw_ors : ∀ {es : List Expr} {δs : List Den} {a : Expr} {α : Den}, Snd X W a α → Snds X W es δs → PW X (.BoolOp .Or (a :: es) pos) (tTs X.K W (allP (α :: δs)) (evTor (α :: δs)))
  | [], _, a, α, ha, .nil => ⟨fun wh pins s σ H Q I h => (pw_or1 ha.t).run wh pins s σ H Q I (by
    obtain ⟨S, Hf, Φ, Fs, R, o⟩ := h
    have o : Out X.K W σ (allP [α]) Φ Hf H ((α.t S).bind fun b S1 => if b then .ok true S1 else .ok false S1) _ := o
    refine ⟨S, Hf, Φ, Fs, R, (o.bind (q := α.p) (q2 := true) (fun z => (allP_cons z).1) fun _ => rfl).imp fun k S1 Hf1 H1 Fs1 _ R1 k1 o1 => ?_⟩
    cases k with
    | true => exact o1.ok R1
    | false => exact o1.ok R1)⟩
  | b :: es, _, a, α, ha, .cons (δ := β) (δs := δs) hb hs => ⟨fun wh pins s σ H Q I h => (pw_or ha.t (pw_ors hb hs)).run wh pins s σ H Q I (by
    obtain ⟨S, Hf, Φ, Fs, R, o⟩ := h
    have o : Out X.K W σ (allP (α :: β :: δs)) Φ Hf H ((α.t S).bind fun k S1 => if k then .ok true S1 else evTor (β :: δs) S1) _ := o
    refine ⟨S, Hf, Φ, Fs, R, (o.bind (q := α.p) (q2 := allP (α :: β :: δs)) (fun z => (allP_cons z).1) id).imp fun k S1 Hf1 H1 Fs1 _ R1 k1 o1 => ?_⟩
    cases k with
    | false => exact ⟨S1, Hf1, Φ, Fs1, R1, (show Out X.K W σ _ Φ Hf1 H1 (evTor (β :: δs) S1) _ from o1).flag fun z => (allP_cons z).2⟩
    | true => exact (show Out X.K W σ _ Φ Hf1 H1 (.ok true S1) _ from o1).ok R1)⟩
theorem nv_ands : ∀ {es : List Expr} {δs : List Den} {a : Expr} {α : Den}, Snd X W a α → Snds X W es δs → allP (α :: δs) = true → ∀ S x S', evAnd (α :: δs) S ≠ .exc x S'
  | [], _, a, α, ha, .nil, hp, S => ha.nv (allP_cons hp).1 S
  | b :: es, _, a, α, ha, .cons (δ := β) (δs := δs) hb hs, hp, S => bind_exc (ha.nv (allP_cons hp).1 S) fun t S1 _ => bind_exc (opt_exc _) fun k S2 _ => by
    cases k with
    | true => exact nv_ands hb hs (allP_cons hp).2 S2
    | false => exact ok_exc _
theorem nv_ors : ∀ {es : List Expr} {δs : List Den} {a : Expr} {α : Den}, Snd X W a α → Snds X W es δs → allP (α :: δs) = true → ∀ S x S', evOr (α :: δs) S ≠ .exc x S'
  | [], _, a, α, ha, .nil, hp, S => ha.nv (allP_cons hp).1 S
  | b :: es, _, a, α, ha, .cons (δ := β) (δs := δs) hb hs, hp, S => bind_exc (ha.nv (allP_cons hp).1 S) fun t S1 _ => bind_exc (opt_exc _) fun k S2 _ => by
    cases k with
    | true => exact ok_exc _
    | false => exact nv_ors hb hs (allP_cons hp).2 S2
theorem nt_ands : ∀ {es : List Expr} {δs : List Den}, Snds X W es δs → allP δs = true → ∀ S x S', evTand δs S ≠ .exc x S'
  | [], _, .nil, _, S => ok_exc _
  | b :: es, _, .cons (δ := β) (δs := δs) hb hs, hp, S => bind_exc (hb.nt (allP_cons hp).1 S) fun k S2 _ => by
    cases k with
    | true => exact nt_ands hs (allP_cons hp).2 S2
    | false => exact ok_exc _
theorem nt_ors : ∀ {es : List Expr} {δs : List Den}, Snds X W es δs → allP δs = true → ∀ S x S', evTor δs S ≠ .exc x S'
  | [], _, .nil, _, S => ok_exc _
  | b :: es, _, .cons (δ := β) (δs := δs) hb hs, hp, S => bind_exc (hb.nt (allP_cons hp).1 S) fun k S2 _ => by
    cases k with
    | false => exact nt_ors hs (allP_cons hp).2 S2
    | true => exact ok_exc _
theorem pt_pw {e : Expr} {t : TT} (h : PW X e t) : PT X e t := ⟨fun pins s σ H Q I w => h.run _ pins s σ H Q I w⟩
theorem snd_and {es : List Expr} {δs : List Den} (ha : Snd X W a α) (hs : Snds X W es δs) : Snd X W (.BoolOp .And (a :: es) pos) (dAnd (α :: δs)) where
  v := pe_ands ha hs
  o := fun fl => frz_of (δ := dAnd (α :: δs)) (pe_ands ha hs) fl true
  t := pt_pw (pw_ands ha hs)
  nv := nv_ands ha hs
  no := fun hp fl S => frz_exc (nv_ands ha hs hp S)
  nt := nt_ands (.cons ha hs)
theorem snd_or {es : List Expr} {δs : List Den} (ha : Snd X W a α) (hs : Snds X W es δs) : Snd X W (.BoolOp .Or (a :: es) pos) (dOr (α :: δs)) where
  v := pe_ors ha hs
  o := fun fl => frz_of (δ := dOr (α :: δs)) (pe_ors ha hs) fl true
  t := pt_pw (pw_ors ha hs)
  nv := nv_ors ha hs
  no := fun hp fl S => frz_exc (nv_ors ha hs hp S)
  nt := nt_ors (.cons ha hs)
theorem snd_not (ha : Snd X W a α) : Snd X W (.UnaryOp .Not a pos) (dNot α) := by
  have hv : PE X (.UnaryOp .Not a pos) (tV X.K W α.p (dNot α).v) := (pe_notT (ha.o false)).weak fun σ H Q h => by
    obtain ⟨S, Hf, Φ, Fs, R, o⟩ := h
    have o : Out X.K W σ α.p Φ Hf H ((α.o false S).bind fun d S1 => (Tk.R.opt S1 d.truth).bind fun b S1 => Tk.R.ok (OT.leaf (.bl (!b))) S1) _ := o
    refine ⟨S, Hf, Φ, Fs, R, (o.bind (q := α.p) (q2 := α.p) id id).imp fun d S1 Hf1 H1 Fs1 _ R1 k1 o1 v pk => ?_⟩
    cases et : d.truth with
    | none => rw [et] at o1; exact o1.elim
    | some k =>
      rw [et] at o1
      exact ⟨k, tru_fz (Pk.all R1.same pk) et, o1 H1 Hf1 Fs1 R1 Kp.refl (.bl (!k)) (fun _ => False) (.leaf .bl) fun _ z => z.elim⟩
  have nv : α.p = true → ∀ S x S', (dNot α).v S ≠ .exc x S' := fun hp S => bind_exc (ha.no hp false S) fun _ _ _ => bind_exc (opt_exc _) fun _ _ _ => ok_exc _
  exact { v := hv, o := fun fl => frz_of (δ := dNot α) hv fl true, nv := nv, no := fun hp fl S => frz_exc (nv hp S), nt := fun hp S => bind_exc (ha.nt hp S) fun _ _ _ => ok_exc _
          t := (pt_not ha.t).weak fun σ H Q h => by
            obtain ⟨S, Hf, Φ, Fs, R, o⟩ := h
            have o : Out X.K W σ α.p Φ Hf H ((α.t S).bind fun b S1 => .ok (!b) S1) _ := o
            exact ⟨S, Hf, Φ, Fs, R, (o.bind (q := α.p) (q2 := α.p) id id).imp fun k S1 Hf1 H1 Fs1 _ R1 k1 o1 => o1.ok R1⟩ }
end
end Tk
end
section
set_option linter.all false
set_option maxRecDepth 100000
set_option maxHeartbeats 4000000
/-! Expressions: if else, slices, methods of texts and dicts, names. -/
namespace Tk
open PySem PySem.Spec PyProof.Rows L2

section
variable {X : Cx} {W : WX} {g : G} {p : P} {a b c : Expr} {α β γ : Den} {pos : Pos}
/-- b if a else c -/
theorem pt_ife {t1 t2 t3 : TT} (ha : PT X a t1) (hb : PT X b t2) (hc : PT X c t3) : PT X (.IfExp a b c pos) fun σ H Q => t1 σ H fun k H1 => if k = true then t2 σ H1 Q else t3 σ H1 Q := ⟨fun pins s σ H Q I w => by
  show wpAny _ _ (do if ← isTrue a X.env (eval a X.env) then isTrue b X.env (eval b X.env) else isTrue c X.env (eval c X.env)) _ _ _
  refine wpAny_bind (thn (ha.run pins s σ H _ I w) fun k s1 ⟨H1, I1, q⟩ => ?_)
  cases k with
  | true => exact hb.run pins s1 σ H1 Q I1 q
  | false => exact hc.run pins s1 σ H1 Q I1 q⟩
theorem snd_ife (ha : Snd X W a α) (hb : Snd X W b β) (hc : Snd X W c γ) : Snd X W (.IfExp a b c pos) (dIfe α β γ) := by
  have pp : (α.p && (β.p && γ.p)) = true → α.p = true ∧ β.p = true ∧ γ.p = true := fun z => by simpa using z
  have hv : PE X (.IfExp a b c pos) (tV X.K W (α.p && (β.p && γ.p)) (dIfe α β γ).v) := (pe_ifExp ha.t hb.v hc.v).weak fun σ H Q h => by
    obtain ⟨S, Hf, Φ, Fs, R, o⟩ := h
    have o : Out X.K W σ (α.p && (β.p && γ.p)) Φ Hf H ((α.t S).bind fun t S1 => if t then β.v S1 else γ.v S1) _ := o
    refine ⟨S, Hf, Φ, Fs, R, (o.bind (q := α.p) (q2 := (α.p && (β.p && γ.p))) (fun z => (pp z).1) id).imp fun k S1 Hf1 H1 Fs1 _ R1 k1 o1 => ?_⟩
    cases k with
    | true => exact ⟨S1, Hf1, Φ, Fs1, R1, (show Out X.K W σ _ Φ Hf1 H1 (β.v S1) _ from o1).flag fun z => (pp z).2.1⟩
    | false => exact ⟨S1, Hf1, Φ, Fs1, R1, (show Out X.K W σ _ Φ Hf1 H1 (γ.v S1) _ from o1).flag fun z => (pp z).2.2⟩
  have nv : (α.p && (β.p && γ.p)) = true → ∀ S x S', (dIfe α β γ).v S ≠ .exc x S' := fun hp S => bind_exc (ha.nt (pp hp).1 S) fun k S1 _ => by
    cases k with
    | true => exact hb.nv (pp hp).2.1 S1
    | false => exact hc.nv (pp hp).2.2 S1
  refine ⟨hv, fun fl => ?_, (pt_ife ha.t hb.t hc.t).weak fun σ H Q h => ?_, nv, fun hp fl S => frz_exc (nv hp S), fun hp S => bind_exc (ha.nt (pp hp).1 S) fun k S1 _ => ?_⟩
  · exact (frz_of (δ := dIfe α β γ) hv fl true).weak fun σ H Q h => h
  · obtain ⟨S, Hf, Φ, Fs, R, o⟩ := h
    have o : Out X.K W σ (α.p && (β.p && γ.p)) Φ Hf H ((α.t S).bind fun t S1 => if t then β.t S1 else γ.t S1) _ := o
    refine ⟨S, Hf, Φ, Fs, R, (o.bind (q := α.p) (q2 := (α.p && (β.p && γ.p))) (fun z => (pp z).1) id).imp fun k S1 Hf1 H1 Fs1 _ R1 k1 o1 => ?_⟩
    cases k with
    | true => exact ⟨S1, Hf1, Φ, Fs1, R1, (show Out X.K W σ _ Φ Hf1 H1 (β.t S1) _ from o1).flag fun z => (pp z).2.1⟩
    | false => exact ⟨S1, Hf1, Φ, Fs1, R1, (show Out X.K W σ _ Φ Hf1 H1 (γ.t S1) _ from o1).flag fun z => (pp z).2.2⟩
  · cases k with
    | true => exact hb.nt (pp hp).2.1 S1
    | false => exact hc.nt (pp hp).2.2 S1
/-! ## parts -/
theorem q_part {pu fl : Bool} {β : Den} {b : Expr} (hb : Snd X W b β) : PO X (some b) (tPart (tQ X.K W β.p pu fl (evQ pu fl β))) := po_some (hb.q pu fl)
theorem snd_slcF {p2 : Pos} (ha : Snd X W a α) (hb : Snd X W b β) (ht : PlainT X (.Subscript a (.Slice none (some b) none p2) pos)) : Snd X W (.Subscript a (.Slice none (some b) none p2) pos) (dPrim g (.slc false true) [α, β]) :=
  have hv := (pe_slice (pos := pos) (p2 := p2) q_sl (ha.q (allP [α, β]) true) po_none (q_part (pu := allP [α, β]) (fl := true) hb)).weak fun σ H Q h => by
    obtain ⟨S, Hf, Φ, Fs, R, o⟩ := two_prim (g := g) (p := .slc false true) h
    refine ⟨S, Hf, Φ, Fs, R, o.imp fun d S1 Hf1 H1 Fs1 _ R1 k1 o1 v pk => ?_⟩
    obtain ⟨S, Hf, Φ, Fs, R, o⟩ := o1 v pk
    refine ⟨S, Hf, Φ, Fs, R, o.imp fun d2 S2 Hf2 H2 Fs2 _ R2 k2 o2 v2 pk2 => ?_⟩
    obtain ⟨Hf3, x, y, d3, e, q1, q2, hs, q⟩ := (o2 v2 pk2).two
    have hs : sSlcFT [x, y] = some d3 := hs
    unfold sSlcFT at hs
    split at hs
    · rename_i hh
      cases hh
      exact ⟨_, pk_int q2, Hf3, _, d3, e, q1, hs, q⟩
    · cases hs
  snd_of hv (nv_two ha hb) (pt_of hv ht)
theorem snd_slcT {p2 : Pos} (ha : Snd X W a α) (hb : Snd X W b β) (ht : PlainT X (.Subscript a (.Slice (some b) none none p2) pos)) : Snd X W (.Subscript a (.Slice (some b) none none p2) pos) (dPrim g (.slc true false) [α, β]) :=
  have hv := (pe_slice (pos := pos) (p2 := p2) q_sl (ha.q (allP [α, β]) true) (q_part (pu := allP [α, β]) (fl := true) hb) po_none).weak fun σ H Q h => by
    obtain ⟨S, Hf, Φ, Fs, R, o⟩ := two_prim (g := g) (p := .slc true false) h
    refine ⟨S, Hf, Φ, Fs, R, o.imp fun d S1 Hf1 H1 Fs1 _ R1 k1 o1 v pk => ?_⟩
    obtain ⟨S, Hf, Φ, Fs, R, o⟩ := o1 v pk
    refine ⟨S, Hf, Φ, Fs, R, o.imp fun d2 S2 Hf2 H2 Fs2 _ R2 k2 o2 v2 pk2 => ?_⟩
    obtain ⟨Hf3, x, y, d3, e, q1, q2, hs, q⟩ := (o2 v2 pk2).two
    have hs : sSlcTF [x, y] = some d3 := hs
    unfold sSlcTF at hs
    split at hs
    · rename_i hh
      cases hh
      exact ⟨_, pk_int q2, Hf3, _, d3, e, q1, hs, q⟩
    · cases hs
  snd_of hv (nv_two ha hb) (pt_of hv ht)
/-! ## methods of a text -/
/-- s.join(x), s a text that stands there -/
theorem snd_join {s0 : Str} {j : Nat} {p0 apos : Pos} (hb : Snd X W b β) (hs : starEach [b] X.env = [(false, eval b X.env)]) (hl : (apos.endLine == pos.line) = true) (ht : PlainT X (.Call (.Attribute (.Constant (.str s0) j p0) "join" apos) [b] [] pos)) :
    Snd X W (.Call (.Attribute (.Constant (.str s0) j p0) "join" apos) [b] [] pos) (dPrim g .join [denC (.str s0), β]) := by
  have hv := (pe_m1 (pos := pos) (apos := apos) F.slot_str_join F.type_str_join (q_join (sup := g.sup)) (pe_str (x := s0) (j := j) (pos := p0)) (hb.q (allP [denC (.str s0), β]) false) hs rfl hl).weak fun σ H Q h => by
    obtain ⟨S, Hf, Φ, Fs, R, o⟩ := two_prim (g := g) (p := .join) h
    refine ⟨⟨s0, rfl⟩, ?_⟩
    have e : evQ (allP [denC (.str s0), β]) P.join.keeps (denC (.str s0)) S = .ok (.str s0) S := by cases allP [denC (.str s0), β] <;> rfl
    rw [e] at o
    have pk : PkQ X.K (allP [denC (.str s0), β]) P.join.keeps Hf H (.str s0) (.str s0) := by cases allP [denC (.str s0), β] <;> exact .str
    exact o.ok R (.str s0) pk
  refine snd_of hv (fun hp S => ?_) (pt_of hv ht)
  have hp := (allP_cons (allP_cons hp).2).1
  have e : ∀ pu fl, evQ pu fl (denC (.str s0)) S = .ok (.str s0) S := fun pu fl => by cases pu <;> rfl
  refine bind_exc (bind_exc (by rw [e]; exact ok_exc _) fun _ _ _ => bind_exc (bind_exc (evQ_exc hb hp _) fun _ _ _ => ok_exc _) fun _ _ _ => ok_exc _) fun _ _ _ => nx_end _ _
end
end Tk
end
section
set_option linter.all false
set_option maxRecDepth 100000
set_option maxHeartbeats 4000000
/-! Names and places. -/
namespace Tk
open PySem PySem.Spec PyProof.Rows L2

/-- what stands at a path -/
inductive AtP (K : PySem.W.Frag) (H : Hp) : V → List Pst → V → Prop
  | nil {v} : AtP K H v [] v
  | attr {a C dx fs f u ps w} : H a = some (.ins C dx fs) → Cls K C → NoAttr K C f → fs.lookup f = some u → AtP K H u ps w → AtP K H (.ref a) (.attr f :: ps) w
  | lst {a vs i u ps w d} : H a = some (.lst vs) → d = D.int i → atI vs i = some u → AtP K H u ps w → AtP K H (.ref a) (.at d :: ps) w
  | tup {a vs i u ps w d} : SqT K H a vs → d = D.int i → atI vs i = some u → AtP K H u ps w → AtP K H (.ref a) (.at d :: ps) w
  | dK {a kvs k u ps w d} : H a = some (.dK kvs) → d = keyD k → valV kvs k = some u → AtP K H u ps w → AtP K H (.ref a) (.at d :: ps) w
  | dT {a kvs k u ps w d} : H a = some (.dT kvs) → d = D.tup (List.map keyD k) → valV kvs k = some u → AtP K H u ps w → AtP K H (.ref a) (.at d :: ps) w
section
variable {K : PySem.W.Frag}
theorem AtP.snoc {H : Hp} {v w : V} {ps : List Pst} (h : AtP K H v ps w) : ∀ {s : Pst} {z : V}, AtP K H w [s] z → AtP K H v (ps ++ [s]) z := by
  induction h with
  | nil => exact fun k => k
  | attr h c n l _ ih => exact fun k => .attr h c n l (ih k)
  | lst h d l _ ih => exact fun k => .lst h d l (ih k)
  | tup h d l _ ih => exact fun k => .tup h d l (ih k)
  | dK h d l _ ih => exact fun k => .dK h d l (ih k)
  | dT h d l _ ih => exact fun k => .dT h d l (ih k)
theorem look_fs {Hf : Hp} {f : Str} : ∀ {fs : List (Str × V)} {ds : List D} {d : D}, Fzs K Hf (fs.map (·.2)) ds → lookN (fs.map (·.1)) ds f = some d → ∃ u, fs.lookup f = some u ∧ Fz K Hf u d
  | [], _, d, .nil, h => by cases h
  | p :: fs, _, d, .cons (d := e) h r, z => by
    have z : (if p.1 = f then some e else lookN (fs.map (·.1)) _ f) = some d := z
    by_cases q : p.1 = f
    · rw [if_pos q] at z
      cases z
      refine ⟨p.2, ?_, h⟩
      rw [List.lookup_cons, q]
      simp
    · rw [if_neg q] at z
      obtain ⟨u, hu, hz⟩ := look_fs r z
      refine ⟨u, ?_, hz⟩
      rw [List.lookup_cons]
      have : (f == p.1) = false := by simpa using fun c => q c.symm
      rw [this]
      exact hu
theorem look_ows {Hf H : Hp} {f : Str} : ∀ {fs : List (Str × V)} {ts : List OT} {t : OT} {F : Fp}, Ows K Hf H (fs.map (·.2)) ts F → lookN (fs.map (·.1)) ts f = some t → ∃ u G, fs.lookup f = some u ∧ Ow K Hf H u t G ∧ ∀ b, G b → F b
  | [], _, d, F, .nil, h => by cases h
  | p :: fs, _, d, F, .cons (t := e) (F := F1) (G := G1) h r h1 h2 h3, z => by
    have z : (if p.1 = f then some e else lookN (fs.map (·.1)) _ f) = some d := z
    by_cases q : p.1 = f
    · rw [if_pos q] at z
      cases z
      refine ⟨p.2, F1, ?_, h, h1⟩
      rw [List.lookup_cons, q]
      simp
    · rw [if_neg q] at z
      obtain ⟨u, G, hu, hz, hs⟩ := look_ows r z
      refine ⟨u, G, ?_, hz, fun b g => h2 b (hs b g)⟩
      rw [List.lookup_cons]
      have : (f == p.1) = false := by simpa using fun c => q c.symm
      rw [this]
      exact hu
theorem ows_get {Hf H : Hp} : ∀ {vs : List V} {ts : List OT} {F : Fp}, Ows K Hf H vs ts F → ∀ {i : Nat} {t : OT}, ts[i]? = some t → ∃ v G, vs[i]? = some v ∧ Ow K Hf H v t G ∧ ∀ b, G b → F b
  | _, _, _, .nil, i, d, h => by simp at h
  | _, _, _, .cons h t h1 h2 h3, 0, d, e => by simp at e; subst e; exact ⟨_, _, rfl, h, h1⟩
  | _, _, _, .cons h t h1 h2 h3, i + 1, d, e => by
    obtain ⟨v, G, hv, ho, hs⟩ := ows_get t (i := i) (by simpa using e)
    exact ⟨v, G, by simpa using hv, ho, fun b g => h2 b (hs b g)⟩
theorem ows_atI {Hf H : Hp} {vs : List V} {ts : List OT} {F : Fp} (h : Ows K Hf H vs ts F) {i : Int} {t : OT} (e : atL ts i = some t) : ∃ v G, atI vs i = some v ∧ Ow K Hf H v t G ∧ ∀ b, G b → F b := by
  unfold atL at e
  obtain ⟨k, hk, hd⟩ := Option.bind_eq_some_iff.mp e
  obtain ⟨v, G, hv, hz, hs⟩ := ows_get h hd
  refine ⟨v, G, ?_, hz, hs⟩
  unfold atI
  rw [h.length, show ixN ts.length i = some k from hk]
  exact hv
theorem look_valO {κ : Type} [DecidableEq κ] {f : κ → D} {Hf H : Hp} (hf : ∀ a b, f a = f b → a = b) (k : κ) {t : OT} : ∀ {kvs : List (κ × V)} {ts : List OT} {F : Fp}, Ows K Hf H (kvs.map (·.2)) ts F → lookD (kvs.map fun p => f p.1) ts (f k) = some t →
    ∃ v G, valV kvs k = some v ∧ Ow K Hf H v t G ∧ ∀ b, G b → F b
  | [], _, _, .nil, h => by cases h
  | p :: kvs, _, _, .cons (t := d) h r h1 h2 h3, z => by
    have z : (if f p.1 = f k then some d else lookD (kvs.map fun p => f p.1) _ (f k)) = some t := z
    by_cases e : p.1 = k
    · rw [if_pos (congrArg f e)] at z
      cases z
      exact ⟨_, _, valV_pos e, h, h1⟩
    · rw [if_neg fun z => e (hf _ _ z)] at z
      obtain ⟨v, G, hv, ho, hs⟩ := look_valO hf k r z
      exact ⟨v, G, by rw [valV_neg e]; exact hv, ho, fun b g => h2 b (hs b g)⟩
/-- a key of a dict of that kind -/
theorem key_K {ks : List Key} {k : D} {d : OT} {ts : List OT} (h : lookD (ks.map keyD) ts k = some d) : ∃ j, k = keyD j := by
  induction ks generalizing ts with
  | nil => cases h
  | cons a ks ih =>
    cases ts with
    | nil => cases h
    | cons t ts =>
      have z : (if keyD a = k then some t else lookD (ks.map keyD) ts k) = some d := h
      split at z
      · rename_i e; exact ⟨a, e.symm⟩
      · exact ih z
theorem key_in {α : Type} : ∀ {ks : List D} {vs : List α} {k : D} {v : α}, lookD ks vs k = some v → k ∈ ks
  | [], _, _, _, h => by cases h
  | _ :: _, [], _, _, h => by cases h
  | a :: ks, t :: ts, k, v, h => by
    have z : (if a = k then some t else lookD ks ts k) = some v := h
    split at z
    · rename_i e; subst e; exact List.mem_cons_self ..
    · exact List.mem_cons_of_mem _ (key_in z)
theorem nm_in {α : Type} : ∀ {ks : List Str} {vs : List α} {k : Str} {v : α}, lookN ks vs k = some v → k ∈ ks
  | [], _, _, _, h => by cases h
  | _ :: _, [], _, _, h => by cases h
  | a :: ks, t :: ts, k, v, h => by
    have z : (if a = k then some t else lookN ks ts k) = some v := h
    split at z
    · rename_i e; subst e; exact List.mem_cons_self ..
    · exact List.mem_cons_of_mem _ (nm_in z)
/-- frozen: one step -/
theorem fz_step {Hf : Hp} {v : V} {d u : D} {s : Pst} (h : Fz K Hf v d) (e : d.get s = some u) : ∃ w, AtP K Hf v [s] w ∧ Fz K Hf w u := by
  cases s with
  | attr f =>
    cases h with
    | ins h1 h2 zc q r =>
      subst q
      obtain ⟨w, hw, hz⟩ := look_fs r e
      exact ⟨w, .attr h1 zc.1 (zc.2 f (nm_in e)) hw .nil, hz⟩
    | _ => cases e
  | «at» k =>
    rcases get_at e with ⟨ds, i, rfl, rfl, e⟩ | ⟨ds, i, rfl, rfl, e⟩ | ⟨ks, vs, rfl, ok, e⟩
    · cases h with
      | lst g r =>
        obtain ⟨w, hw, hz⟩ := fzs_atI r e
        exact ⟨w, .lst g rfl hw .nil, hz⟩
    · cases h with
      | tup g r =>
        obtain ⟨w, hw, hz⟩ := fzs_atI r e
        exact ⟨w, .tup g rfl hw .nil, hz⟩
    · cases h with
      | dicK g q r =>
        subst q
        obtain ⟨p, hp, hk⟩ := List.mem_map.mp (key_in e)
        subst hk
        have := look_val (f := keyD) (fun _ _ => keyD_inj) p.1 r
        rw [e] at this
        obtain ⟨w, hw, hz⟩ := this
        exact ⟨w, .dK g rfl hw .nil, hz⟩
      | dicT g q r =>
        subst q
        obtain ⟨p, hp, hk⟩ := List.mem_map.mp (key_in e)
        subst hk
        have := look_val (f := fun j : List Key => D.tup (j.map keyD)) (fun _ _ z => keyDs_inj (D.tup.inj z)) p.1 r
        rw [e] at this
        obtain ⟨w, hw, hz⟩ := this
        exact ⟨w, .dT g rfl hw .nil, hz⟩
theorem AtP.mono {H H' : Hp} (e : Same H H') {v w : V} {ps : List Pst} (h : AtP K H v ps w) : AtP K H' v ps w := by
  induction h with
  | nil => exact .nil
  | attr h c n l _ ih => exact .attr (e _ _ h) c n l ih
  | lst h d l _ ih => exact .lst (e _ _ h) d l ih
  | tup h d l _ ih => exact .tup (sqT_same e h) d l ih
  | dK h d l _ ih => exact .dK (e _ _ h) d l ih
  | dT h d l _ ih => exact .dT (e _ _ h) d l ih
/-- owned: one step -/
theorem ow_step {Hf H : Hp} (same : Same Hf H) {v : V} {t u : OT} {F : Fp} {s : Pst} (h : Ow K Hf H v t F) (e : t.get s = some u) : ∃ w G, AtP K H v [s] w ∧ Ow K Hf H w u G ∧ ∀ b, G b → F b := by
  cases h with
  | leaf h =>
    obtain ⟨d, hd, rfl⟩ := Option.map_eq_some_iff.mp (show (D.get _ s).map OT.leaf = some u by cases s <;> exact e)
    obtain ⟨w, hw, hz⟩ := fz_step h hd
    exact ⟨w, fun _ => False, hw.mono same, .leaf hz, fun _ z => z.elim⟩
  | lst h1 h2 h3 h4 h5 r =>
    cases s with
    | attr f => cases e
    | «at» k =>
      cases k <;> try (cases e)
      obtain ⟨w, G, hw, ho, hs⟩ := ows_atI r e
      exact ⟨w, G, .lst h1 rfl hw .nil, ho, fun b g => h4 b (hs b g)⟩
  | dicK h1 h2 h3 h4 h5 q r =>
    cases s with
    | attr f => cases e
    | «at» k =>
      subst q
      have e : (if keyOk _ k then lookD _ _ k else none) = some u := e
      split at e
      · obtain ⟨p, hp, hk⟩ := List.mem_map.mp (key_in e)
        subst hk
        obtain ⟨w, G, hw, ho, hs⟩ := look_valO (f := keyD) (fun _ _ => keyD_inj) p.1 r e
        exact ⟨w, G, .dK h1 rfl hw .nil, ho, fun b g => h4 b (hs b g)⟩
      · cases e
  | dicT h1 h2 h3 h4 h5 q r =>
    cases s with
    | attr f => cases e
    | «at» k =>
      subst q
      have e : (if keyOk _ k then lookD _ _ k else none) = some u := e
      split at e
      · obtain ⟨p, hp, hk⟩ := List.mem_map.mp (key_in e)
        subst hk
        obtain ⟨w, G, hw, ho, hs⟩ := look_valO (f := fun j : List Key => D.tup (j.map keyD)) (fun _ _ z => keyDs_inj (D.tup.inj z)) p.1 r e
        exact ⟨w, G, .dT h1 rfl hw .nil, ho, fun b g => h4 b (hs b g)⟩
      · cases e
  | ins h1 h1b h2 h2b h3 h3b h4 h5 h6 zc q r =>
    cases s with
    | attr f =>
      subst q
      obtain ⟨w, G, hw, ho, hs⟩ := look_ows r e
      exact ⟨w, G, .attr h1 zc.1 (zc.2 f (nm_in e)) hw .nil, ho, fun b g => h4 b (hs b g)⟩
    | «at» k => cases e
theorem ow_path {Hf H : Hp} (same : Same Hf H) : ∀ (ps : List Pst) {v : V} {t u : OT} {F : Fp}, Ow K Hf H v t F → t.getP ps = some u → ∃ w G, AtP K H v ps w ∧ Ow K Hf H w u G ∧ ∀ b, G b → F b
  | [], v, t, u, F, h, e => by cases e; exact ⟨v, F, .nil, h, fun _ z => z⟩
  | s :: ps, v, t, u, F, h, e => by
    obtain ⟨t1, h1, e1⟩ := Option.bind_eq_some_iff.mp e
    obtain ⟨w1, G1, a1, o1, s1⟩ := ow_step same h h1
    obtain ⟨w, G, a2, o2, s2⟩ := ow_path same ps o1 e1
    refine ⟨w, G, ?_, o2, fun b g => s1 b (s2 b g)⟩
    cases a1 with
    | attr p c n q r => cases r; exact .attr p c n q a2
    | lst p d q r => cases r; exact .lst p d q a2
    | tup p d q r => cases r; exact .tup p d q a2
    | dK p d q r => cases r; exact .dK p d q a2
    | dT p d q r => cases r; exact .dT p d q a2

theorem keyT_ne {k : Key} {j : List Key} (h : keyD k = D.tup (j.map keyD)) : False := by cases k <;> cases h
section
variable {X : Cx} {pins : List (Addr × Obj)} {σ : L2.St} {H : Hp} {s : Shared} {a : Addr}
theorem lst_tup (I : Inv X pins σ H s) {vs ws : List V} (h : H a = some (.lst vs)) (k : SqT X.K H a ws) : False := by
  obtain ⟨its, _, ⟨o, n, e, c, _⟩, _⟩ := I.list (.inl (.inl h))
  obtain ⟨its2, _, ⟨o2, e2, c2, _⟩, _⟩ := I.tuple k
  rw [e] at e2
  cases e2
  rw [c] at c2
  exact absurd (Value.type.inj c2) (by decide)
theorem dk_tup (I : Inv X pins σ H s) {kvs : List (Key × V)} {ws : List V} (h : H a = some (.dK kvs)) (k : SqT X.K H a ws) : False := by
  obtain ⟨_, _, _, _, o, _, _, e, c, _⟩ := dk_of I.hok h
  obtain ⟨its2, _, ⟨o2, e2, c2, _⟩, _⟩ := I.tuple k
  rw [e] at e2
  cases e2
  rw [c.1] at c2
  exact absurd (Value.type.inj c2) (by decide)
theorem atP_det (I : Inv X pins σ H s) {v w : V} {ps : List Pst} (h : AtP X.K H v ps w) : ∀ {w' : V}, AtP X.K H v ps w' → w = w' := by
  induction h with
  | nil => intro w' k; cases k; rfl
  | attr h c n l _ ih =>
    intro w' k
    cases k with
    | attr h2 c2 n2 l2 r =>
      rw [h] at h2
      cases h2
      rw [l] at l2
      cases l2
      exact ih r
  | lst h d l _ ih =>
    intro w' k
    subst d
    cases k with
    | lst h2 d2 l2 r =>
      rw [h] at h2
      cases h2
      cases d2
      rw [l] at l2
      cases l2
      exact ih r
    | tup h2 d2 l2 r => exact (lst_tup I h h2).elim
    | dK h2 d2 l2 r => rw [h] at h2; cases h2
    | dT h2 d2 l2 r => rw [h] at h2; cases h2
  | tup h d l _ ih =>
    intro w' k
    subst d
    cases k with
    | lst h2 d2 l2 r => exact (lst_tup I h2 h).elim
    | tup h2 d2 l2 r =>
      cases I.tuple_inj h h2
      cases d2
      rw [l] at l2
      cases l2
      exact ih r
    | dK h2 d2 l2 r => exact (dk_tup I h2 h).elim
    | dT h2 d2 l2 r => cases d2
  | dK h d l _ ih =>
    intro w' k
    subst d
    cases k with
    | lst h2 d2 l2 r => rw [h] at h2; cases h2
    | tup h2 d2 l2 r => exact (dk_tup I h h2).elim
    | dK h2 d2 l2 r =>
      rw [h] at h2
      cases h2
      cases keyD_inj d2
      rw [l] at l2
      cases l2
      exact ih r
    | dT h2 d2 l2 r => exact (keyT_ne d2).elim
  | dT h d l _ ih =>
    intro w' k
    subst d
    cases k with
    | lst h2 d2 l2 r => cases d2
    | tup h2 d2 l2 r => cases d2
    | dK h2 d2 l2 r => exact (keyT_ne d2.symm).elim
    | dT h2 d2 l2 r =>
      rw [h] at h2
      cases h2
      cases keyDs_inj (D.tup.inj d2)
      rw [l] at l2
      cases l2
      exact ih r
end
theorem PE.inv {X : Cx} {e : Expr} {t : TE} (h : PE X e t) : PE X e fun σ H Q => t σ H fun v H' => (∃ pins s, Inv X pins σ H' s) → Q v H' :=
  ⟨fun pins s σ H Q I w => thn (h.run pins s σ H _ I w) fun u s' ⟨v, H', I', r, q⟩ => ⟨v, H', I', r, q ⟨pins, s', I'⟩⟩⟩
/-! ## places -/
theorem getS_own {S : SS} {i : Nat} {t : OT} (h : getS S i = .own t) : S[i]? = some (.own t) := by
  unfold getS at h
  cases e : S[i]? with
  | none => rw [e] at h; cases h
  | some s => rw [e] at h; exact congrArg some h
def getP_snoc : ∀ (ps : List Pst) (s : Pst) (t : OT), t.getP (ps ++ [s]) = (t.getP ps).bind fun u => u.get s
  | [], s, t => by
    show (t.get s).bind (fun u => u.getP []) = t.get s
    cases t.get s <;> rfl
  | q :: ps, s, t => by
    show (t.get q).bind (fun u => u.getP (ps ++ [s])) = ((t.get q).bind fun u => u.getP ps).bind fun u => u.get s
    cases t.get q with
    | none => rfl
    | some u => exact getP_snoc ps s u
theorem leafs_of {K : PySem.W.Frag} {Hf H : Hp} : ∀ {vs : List V} {ts : List OT} {F : Fp}, Ows K Hf H vs ts F → ts.all OT.isLeaf = true → Fzs K Hf vs (OT.frzs ts)
  | _, _, _, .nil, _ => .nil
  | _, _, _, .cons (t := t) (ts := ts) h r _ _ _, e => by
    have e : (t.isLeaf && ts.all OT.isLeaf) = true := e
    obtain ⟨e1, e2⟩ := Bool.and_eq_true_iff.mp e
    cases h with
    | leaf h => exact .cons h (leafs_of r e2)
    | _ => cases e1
theorem flat_fz1 {K : PySem.W.Frag} {Hf H : Hp} (same : Same Hf H) {v : V} {t : OT} {F : Fp} (h : Ow K Hf H v t F) (e : t.flat = true) : Fz1 K Hf H v t.frz := by
  cases h with
  | leaf h => exact .fz h
  | lst h1 _ _ _ _ r => exact .lst h1 (leafs_of r e)
  | dicK h1 _ _ _ _ q r => exact .dicK h1 q (leafs_of r e)
  | dicT h1 _ _ _ _ q r => exact .dicT h1 q (leafs_of r e)
  | ins h1 h2 _ _ _ _ _ _ _ z q r => exact .ins h1 h2 z q (leafs_of r e)
/-- a place's reading -/
def tPl (K : PySem.W.Frag) (i : Nat) (f : SS → R (List Pst)) : TE := fun σ H Q => ∃ S Hf Φ Fs ps t u, Rel K S σ Hf H Φ Fs ∧ f S = .ok ps S ∧ getS S i = .own t ∧ t.getP ps = some u ∧
  ∀ Hf' H' Fs', Rel K S σ Hf' H' Φ Fs' → Kp true Φ Hf H Hf' H' → ∀ v0 w, σ[i]? = some (some v0) → AtP K H' v0 ps w → Q w H'
/-- steps keep the slots, and raise nothing -/
def Stl (f : SS → R α) : Prop := ∀ S, (∃ a, f S = .ok a S) ∨ f S = .bad
section
variable {X : Cx} {W : WX} {e b : Expr} {β : Den} {i : Nat} {f : SS → R (List Pst)} {pos : Pos}
theorem plc_name {x : Str} (hi : X.N[i]? = some x) (hv : Vis X.env.scope x) (hd : (x == ("__debug__" : Str)) = false) (hcd : (x == ("__classdict__" : Str)) = false) : PE X (.Name x pos) (tPl X.K i fun S => .ok [] S) :=
  (pe_var hi hv hd hcd).weak fun σ H Q h => by
    obtain ⟨S, Hf, Φ, Fs, ps, t, u, R, e1, e2, e3, q⟩ := h
    cases e1
    obtain ⟨v, ev, ow⟩ := R.own i t (getS_own e2)
    exact ⟨v, ev, q Hf H Fs R Kp.refl v v ev .nil⟩
theorem stl_step {g : List Pst → SS → R (List Pst)} (hf : Stl f) (hg : ∀ ps, Stl (g ps)) : Stl fun S => (f S).bind fun ps S1 => g ps S1 := fun S => by
  rcases hf S with ⟨a, e⟩ | e
  · show (∃ b, (f S).bind _ = _) ∨ (f S).bind _ = _
    rw [e]
    exact hg a S
  · right
    show (f S).bind _ = _
    rw [e]
    rfl
theorem plc_attr {fl : Str} (hf : Stl f) (h : PE X e (tPl X.K i f)) (hb : attributeBase e fl X.env (eval e X.env) = eval e X.env) : PE X (.Attribute e fl pos) (tPl X.K i fun S => (f S).bind fun ps S1 => .ok (ps ++ [.attr fl]) S1) :=
  (pe_fld (PE.inv h) hb).weak fun σ H Q h => by
    obtain ⟨S, Hf, Φ, Fs, ps, t, u, R, e1, e2, e3, q⟩ := h
    have e1 : (f S).bind (fun ps S1 => .ok (ps ++ [.attr fl]) S1) = Tk.R.ok ps S := e1
    rcases hf S with ⟨p1, ep⟩ | ep
    · rw [ep] at e1
      cases e1
      rw [getP_snoc] at e3
      obtain ⟨u1, g1, g2⟩ := Option.bind_eq_some_iff.mp e3
      refine ⟨S, Hf, Φ, Fs, p1, t, u1, R, ep, e2, g1, fun Hf' H' Fs' R' k' v0 w ev aw ⟨pins, s, I⟩ => ?_⟩
      obtain ⟨v1, ev1, ow⟩ := R'.own i t (getS_own e2)
      rw [ev] at ev1
      cases ev1
      obtain ⟨w1, G, a1, o1, _⟩ := ow_path R'.same p1 ow g1
      obtain rfl : w1 = w := atP_det I a1 aw
      obtain ⟨w2, G2, a2, o2, _⟩ := ow_step R'.same o1 g2
      cases a2 with
      | attr h1 c n l r =>
        cases r
        exact ⟨_, _, _, _, _, rfl, h1, c, n, l, q Hf' H' Fs' R' k' v0 _ ev (a1.snoc (.attr h1 c n l .nil))⟩
    · rw [ep] at e1
      cases e1
theorem fz_key {K : PySem.W.Frag} {H : Hp} {y : V} {j : Key} (h : Fz K H y (keyD j)) : y = kV j := by cases j <;> cases h <;> rfl
theorem keyT_map {j : List Key} : keyT (j.map keyD) = true := by
  unfold keyT
  rw [List.all_map, List.all_eq_true]
  intro z _
  cases z <;> rfl
/-- what of an index is asked: pure, leaving the slots -/
structure Ixn (X : Cx) (W : WX) (b : Expr) (β : Den) : Prop where
  s : Snd X W b β
  p : β.p = true
  st : ∀ fl, Stl (β.o fl)
theorem plc_idx (hu : X.A.units + 64 < cLine) (hf : Stl f) (h : PE X e (tPl X.K i f)) (hi : Ixn X W b β) (hs : PlainIx b) : PE X (.Subscript e b pos) (tPl X.K i fun S => (f S).bind fun ps S1 => (β.o true S1).bind fun d S2 => .ok (ps ++ [.at d]) S2) := by
  have rule : IxR X fun x y H Q => (∃ pins s σ', Inv X pins σ' H s) → ∃ Hf k t G u, Same Hf H ∧ Ow X.K Hf H x t G ∧ Pk X.K true Hf H y k ∧ t.get (.at k) = some u ∧ ∀ w, AtP X.K H x [.at k] w → Q w H := by
    intro value slice pins s σ H x y v u0 Q I rx ry q hsl
    obtain ⟨Hf, k, t, G, u, same, ow, pk, hg, hQ⟩ := q ⟨pins, s, σ, I⟩
    obtain ⟨w, G2, aw, _, _⟩ := ow_step same ow hg
    have hk := Pk.all same pk
    have fz := ow.look same
    cases aw with
    | lst g dd l r =>
      subst dd
      cases r
      cases hk
      exact ix_list value slice pins s σ H _ _ v u0 Q I rx ry ⟨_, _, _, _, rfl, rfl, .inl (.inl g), l, hQ _ (.lst g rfl l .nil)⟩ hsl
    | tup g dd l r =>
      subst dd
      cases r
      cases hk
      exact ix_tup value slice pins s σ H _ _ v u0 Q I rx ry ⟨_, _, _, _, rfl, rfl, g, l, hQ _ (.tup g rfl l .nil)⟩ hsl
    | dK g dd l r =>
      subst dd
      cases r
      have ey := fz_key hk
      subst ey
      exact ix_dg hu value slice pins s σ H _ _ v u0 Q I rx ry ⟨_, w, rfl, by rw [← l]; exact .k g, hQ _ (.dK g rfl l .nil)⟩ hsl
    | dT g dd l r =>
      subst dd
      cases r
      cases hk with
      | tup sq fzs =>
        obtain ⟨ks, rfl, ek⟩ := tup_key fzs keyT_map
        cases keyDs_inj ek
        exact ix_dg hu value slice pins s σ H _ _ v u0 Q I rx ry ⟨_, w, rfl, by rw [← l]; exact .t g sq, hQ _ (.dT g rfl l .nil)⟩ hsl
  refine (pe_ix rule (PE.inv h) (PE.inv (hi.s.o true)) hs).weak fun σ H Q h => ?_
  obtain ⟨S, Hf, Φ, Fs, ps, t, u, R, e1, e2, e3, q⟩ := h
  have e1 : (f S).bind (fun ps S1 => (β.o true S1).bind fun d S2 => .ok (ps ++ [.at d]) S2) = Tk.R.ok ps S := e1
  rcases hf S with ⟨p1, ep⟩ | ep
  · rw [ep] at e1
    have e1 : (β.o true S).bind (fun d S2 => .ok (p1 ++ [.at d]) S2) = Tk.R.ok ps S := e1
    rcases hi.st true S with ⟨d, ed⟩ | ed
    · rw [ed] at e1
      cases e1
      rw [getP_snoc] at e3
      obtain ⟨u1, g1, g2⟩ := Option.bind_eq_some_iff.mp e3
      refine ⟨S, Hf, Φ, Fs, p1, t, u1, R, ep, e2, g1, fun Hf' H' Fs' R' k' v0 w ev aw inv => ?_⟩
      refine ⟨S, Hf', Φ, Fs', R', ?_⟩
      rw [ed]
      intro H2 Hf2 Fs2 R2 k2 v pk inv2 ⟨pins, s, σ', I⟩
      have k2 : Kp true Φ Hf' H' Hf2 H2 := k2.low fun _ => hi.p
      obtain ⟨v1, ev1, ow⟩ := R2.own i t (getS_own e2)
      rw [ev] at ev1
      cases ev1
      obtain ⟨w1, G, a1, o1, _⟩ := ow_path R2.same p1 ow g1
      obtain rfl : w1 = w := atP_det I a1 (aw.mono (k2.pure rfl))
      exact ⟨Hf2, d, u1, G, u, R2.same, o1, pk, g2, fun w2 aw2 => q Hf2 H2 Fs2 R2 (k'.trans k2) v0 w2 ev (a1.snoc aw2)⟩
    · rw [ed] at e1; cases e1
  · rw [ep] at e1; cases e1
/-! ## a place's three readings -/
theorem pl_v (hf : Stl f) (h : PE X e (tPl X.K i f)) : PE X e (tV X.K W true fun S => (f S).bind fun ps S1 => take S1 i ps) :=
  (PE.inv h).weak fun σ H Q h => by
    obtain ⟨S, Hf, Φ, Fs, R, o⟩ := h
    have o : Out X.K W σ true Φ Hf H ((f S).bind fun ps S1 => take S1 i ps) _ := o
    rcases hf S with ⟨ps, ep⟩ | ep
    · rw [ep] at o
      have o : Out X.K W σ true Φ Hf H (take S i ps) _ := o
      unfold take at o
      cases eg : getS S i with
      | un => rw [eg] at o; exact o.elim
      | own t =>
        rw [eg] at o
        have o : Out X.K W σ true Φ Hf H (takeT S i ps (t.getP ps)) _ := o
        cases et : t.getP ps with
        | none => rw [et] at o; exact o.elim
        | some u =>
          refine ⟨S, Hf, Φ, Fs, ps, t, u, R, ep, eg, et, fun Hf' H' Fs' R' k' v0 w ev aw ⟨pins, s, I⟩ => ?_⟩
          obtain ⟨v1, ev1, ow⟩ := R'.own i t (getS_own eg)
          rw [ev] at ev1
          cases ev1
          obtain ⟨w1, G, a1, o1, hs⟩ := ow_path R'.same ps ow et
          obtain rfl : w1 = w := atP_det I a1 aw
          have leafcase : ∀ d, u = .leaf d → Q w1 H' := fun d ed => by
            subst ed
            rw [et] at o
            exact o H' Hf' Fs' R' k' w1 (fun _ => False) (by cases o1 with | leaf h => exact .leaf h) fun _ z => z.elim
          have whole : ps = [] → Out X.K W σ true Φ Hf H (.ok (.leaf u.frz) (S.set i (.own (.leaf u.frz)))) (fun t _ Hf' H' Fs' => ∀ v F, Ow X.K Hf' H' v t F → Off F Φ H' Fs' → Q v H') → Q w1 H' := fun eps o => by
            subst eps
            cases aw
            cases et
            exact o H' _ _ (R'.take (getS_own eg)) (k'.trans (kp_freezeF fun b hb => R'.off i b hb)) v0 (fun _ => False) (.leaf ow.frozen) fun _ z => z.elim
          rw [et] at o
          cases ps with
          | nil =>
            cases u with
            | leaf d => exact leafcase d rfl
            | lst ts => exact whole rfl o
            | dic ks ts => exact whole rfl o
            | ins c ns ts => exact whole rfl o
          | cons p ps =>
            cases u with
            | leaf d => exact leafcase d rfl
            | lst ts => exact o.elim
            | dic ks ts => exact o.elim
            | ins c ns ts => exact o.elim
    · rw [ep] at o; exact o.elim
theorem pl_o (hf : Stl f) (h : PE X e (tPl X.K i f)) (fl : Bool) : PE X e (tO X.K W true fl fun S => (f S).bind fun ps S1 => peek fl S1 i ps) :=
  (PE.inv h).weak fun σ H Q h => by
    obtain ⟨S, Hf, Φ, Fs, R, o⟩ := h
    have o : Out X.K W σ true Φ Hf H ((f S).bind fun ps S1 => peek fl S1 i ps) _ := o
    rcases hf S with ⟨ps, ep⟩ | ep
    · rw [ep] at o
      have o : Out X.K W σ true Φ Hf H (peek fl S i ps) _ := o
      unfold peek at o
      cases eg : getS S i with
      | un => rw [eg] at o; exact o.elim
      | own t =>
        rw [eg] at o
        have o : Out X.K W σ true Φ Hf H (peekT fl S (t.getP ps)) _ := o
        cases et : t.getP ps with
        | none => rw [et] at o; exact o.elim
        | some u =>
          rw [et] at o
          refine ⟨S, Hf, Φ, Fs, ps, t, u, R, ep, eg, et, fun Hf' H' Fs' R' k' v0 w ev aw ⟨pins, s, I⟩ => ?_⟩
          obtain ⟨v1, ev1, ow⟩ := R'.own i t (getS_own eg)
          rw [ev] at ev1
          cases ev1
          obtain ⟨w1, G, a1, o1, hs⟩ := ow_path R'.same ps ow et
          obtain rfl : w1 = w := atP_det I a1 aw
          have o : Out X.K W σ true Φ Hf H (if (!fl || u.flat) = true then .ok u.frz S else .bad) _ := o
          split at o
          · rename_i hfl
            refine o H' Hf' Fs' R' k' w1 ?_
            cases fl with
            | false => exact o1.look R'.same
            | true => exact flat_fz1 R'.same o1 hfl
          · exact o.elim
    · rw [ep] at o; exact o.elim
end
end
end Tk
end
section
set_option linter.all false
set_option maxRecDepth 100000
set_option maxHeartbeats 4000000
/-! Names and places as expressions; rows of expressions; displays. -/
namespace Tk
open PySem PySem.Spec PyProof.Rows L2

theorem stl_exc {α : Type} {f : SS → R α} (h : Stl f) (S : SS) : ∀ x S', f S ≠ .exc x S' := by
  intro x S' z
  rcases h S with ⟨a, e⟩ | e <;> rw [e] at z <;> cases z
theorem take_exc {S : SS} {i : Nat} {ps : List Pst} : ∀ x S', take S i ps ≠ .exc x S' := by
  intro x S' z
  unfold take at z
  split at z
  · rename_i t _
    unfold takeT at z
    split at z
    · cases z
    · split at z <;> cases z
    · cases z
  · cases z
theorem peek_exc {fl : Bool} {S : SS} {i : Nat} {ps : List Pst} : ∀ x S', peek fl S i ps ≠ .exc x S' := by
  intro x S' z
  unfold peek at z
  split at z
  · unfold peekT at z
    split at z
    · split at z <;> cases z
    · cases z
  · cases z
section
variable {X : Cx} {W : WX} {e : Expr} {i : Nat} {f : SS → R (List Pst)}
theorem snd_pl (hf : Stl f) (h : PE X e (tPl X.K i f)) (ht : PlainT X e) : Snd X W e (dPl i true f) where
  v := pl_v hf h
  o := fun fl => pl_o hf h fl
  t := pt_ofO (pl_o hf h false) ht
  nv := fun _ S => bind_exc (stl_exc hf S) fun _ _ _ => take_exc
  no := fun _ fl S => bind_exc (stl_exc hf S) fun _ _ _ => peek_exc
  nt := fun _ S => bind_exc (bind_exc (stl_exc hf S) fun _ _ _ => peek_exc) fun _ _ _ => opt_exc _
theorem peek_stl {fl : Bool} {ps : List Pst} : Stl fun S => peek fl S i ps := fun S => by
  show (∃ a, peek fl S i ps = _) ∨ peek fl S i ps = _
  unfold peek
  split
  · unfold peekT
    split
    · split
      · exact .inl ⟨_, rfl⟩
      · exact .inr rfl
    · exact .inr rfl
  · exact .inr rfl
theorem stl_bind {α β : Type} {f : SS → R α} {g : α → SS → R β} (hf : Stl f) (hg : ∀ a, Stl (g a)) : Stl fun S => (f S).bind g := fun S => by
  rcases hf S with ⟨a, e⟩ | e
  · show (∃ b, (f S).bind _ = _) ∨ (f S).bind _ = _
    rw [e]
    exact hg a S
  · right
    show (f S).bind _ = _
    rw [e]
    rfl
theorem ixn_pl (hf : Stl f) (h : PE X e (tPl X.K i f)) (ht : PlainT X e) : Ixn X W e (dPl i true f) := ⟨snd_pl hf h ht, rfl, fun fl => stl_bind hf fun _ => peek_stl⟩
theorem ixn_c {v : V} {d : D} (h : PE X e (tC v)) (hf : ∀ Hf : Hp, Fz X.K Hf v d) (ht : PlainT X e) : Ixn X W e (denC d) := ⟨snd_c h hf ht, rfl, fun fl S => .inl ⟨d, rfl⟩⟩
end

/-! ## rows -/
structure RowOk (X : Cx) (W : WX) (keep : Bool) (es : List Expr) (ds : List Den) : Prop where
  pa : PA X es (tR X.K W (allP ds) (evA keep ds))
  nx : allP ds = true → ∀ S x S', evA keep ds S ≠ .exc x S'
section
variable {X : Cx} {W : WX} {keep : Bool} {e : Expr} {es : List Expr} {δ : Den} {ds : List Den} {p0 : Pos}
theorem RowOk.nil : RowOk X W keep [] [] := ⟨row_nil, fun _ _ => ok_exc _⟩
theorem RowOk.val (h : Snd X W e δ) (hr : RowOk X W keep es ds) (hk : δ.k = .plain) (hs : starEach (e :: es) X.env = (false, eval e X.env) :: starEach es X.env) : RowOk X W keep (e :: es) (δ :: ds) :=
  ⟨row_val h hr.pa hk hs, fun hp S => by
    have e1 : evA keep (δ :: ds) S = (δ.v S).bind fun t S1 => (evA keep ds S1).bind fun vs S2 => .ok ((false, .val (keepT keep t)) :: vs) S2 := by simp only [evA, hk]
    rw [e1]
    exact bind_exc (h.nv (allP_cons hp).1 S) fun _ _ _ => bind_exc (hr.nx (allP_cons hp).2 _) fun _ _ _ => ok_exc _⟩
theorem RowOk.moved (h : Snd X W e δ) (hr : RowOk X W keep es ds) (hs : starEach (e :: es) X.env = (false, eval e X.env) :: starEach es X.env) : RowOk X W keep (e :: es) ({ δ with k := .moved } :: ds) :=
  ⟨row_moved h hr.pa hs, fun hp S => bind_exc (h.nv (allP_cons hp).1 S) fun _ _ _ => bind_exc (hr.nx (allP_cons hp).2 _) fun _ _ _ => ok_exc _⟩
theorem RowOk.star (h : Snd X W e δ) (hr : RowOk X W keep es ds) : RowOk X W keep (.Starred e p0 :: es) ({ δ with k := .star } :: ds) :=
  ⟨row_star h hr.pa rfl, fun hp S => bind_exc (h.nv (allP_cons hp).1 S) fun _ _ _ => bind_exc (opt_exc _) fun _ _ _ => bind_exc (hr.nx (allP_cons hp).2 _) fun _ _ _ => ok_exc _⟩
end
theorem ows_app {K : PySem.W.Frag} {Hf H : Hp} {F : Fp} : ∀ {vs : List V} {ds : List D} {ws : List V} {ts : List OT}, Fzs K Hf vs ds → Ows K Hf H ws ts F → Ows K Hf H (vs ++ ws) (leafs ds ++ ts) F
  | _, _, _, _, .nil, r => r
  | _, _, _, _, .cons h t, r => .cons (F := fun _ => False) (.leaf h) (ows_app t r) (fun _ z => z.elim) (fun _ z => z) fun _ z => z.elim
theorem owns_map : ∀ (l : List D) (bs : List AV), ownsA (l.map (fun d => .val (.leaf d)) ++ bs) = (ownsA bs).map (leafs l ++ ·)
  | [], bs => by
    show ownsA bs = (ownsA bs).map fun x => x
    cases ownsA bs <;> rfl
  | d :: l, bs => by
    show (ownsA (l.map (fun d => .val (.leaf d)) ++ bs)).map (OT.leaf d :: ·) = _
    rw [owns_map l bs]
    cases ownsA bs <;> rfl
/-- a row of values, spread -/
theorem row_ows {K : PySem.W.Frag} {Hf H : Hp} {σ : L2.St} {r : List (Bool × AV)} {vs : List V} {F : Fp} (h : Row K Hf H σ r vs F) : ∀ {bs : List AV} {ts : List OT}, spreadA r = some bs → ownsA bs = some ts → Ows K Hf H vs ts F := by
  induction h with
  | nil => intro bs ts e1 e2; cases e1; cases e2; exact .nil
  | val o _ h1 h2 h3 ih =>
    intro bs ts e1 e2
    obtain ⟨b2, e3, rfl⟩ := Option.map_eq_some_iff.mp (show (spreadA _).map _ = some bs from e1)
    obtain ⟨t2, e4, rfl⟩ := Option.map_eq_some_iff.mp (show (ownsA b2).map _ = some ts from e2)
    exact .cons o (ih e3 e4) h1 h2 h3
  | star ei fz _ ih =>
    intro bs ts e1 e2
    rename_i d its xs r vs G _
    have e1 : (items? (OT.frz (.leaf d))).bind (fun ds => (spreadA r).map (ds.map (fun d => .val (.leaf d)) ++ ·)) = some bs := e1
    have ei' : items? (OT.frz (.leaf d)) = some its := ei
    rw [ei'] at e1
    obtain ⟨b2, e3, rfl⟩ := Option.map_eq_some_iff.mp (show (spreadA r).map _ = some bs from e1)
    rw [owns_map] at e2
    obtain ⟨t2, e4, rfl⟩ := Option.map_eq_some_iff.mp e2
    exact ows_app fz (ih e3 e4)
  | bor _ _ ih =>
    intro bs ts e1 e2
    obtain ⟨b2, e3, rfl⟩ := Option.map_eq_some_iff.mp (show (spreadA _).map _ = some bs from e1)
    cases e2
theorem row_vals {K : PySem.W.Frag} {Hf H : Hp} {σ : L2.St} {r : List (Bool × AV)} {vs : List V} {F : Fp} (h : Row K Hf H σ r vs F) : ∀ {ts : List OT}, valsA r = some ts → Ows K Hf H vs ts F := by
  induction h with
  | nil => intro ts e; cases e; exact .nil
  | val o _ h1 h2 h3 ih =>
    intro ts e
    obtain ⟨t2, e4, rfl⟩ := Option.map_eq_some_iff.mp (show (valsA _).map _ = some ts from e)
    exact .cons o (ih e4) h1 h2 h3
  | star _ _ _ _ => intro ts e; cases e
  | bor _ _ _ => intro ts e; cases e
section
variable {K : PySem.W.Frag} {S : SS} {σ : L2.St} {Hf H : Hp} {Φ : Fp} {Fs : Nat → Fp} {F : Fp} {p : Addr} {vs : List V} {ts : List OT}
/-- a thing is laid where nothing stands -/
theorem Rel.lay {o : HO} (R : Rel K S σ Hf H Φ Fs) (h : H p = none) : Rel K S σ Hf (upd H p o) Φ Fs := R.grow (same_upd h) (Same.refl _) (R.same.trans (same_upd h)) fun _ h1 h2 => absurd h1 h2
theorem Kp.lay {o : HO} {q : Bool} (R : Rel K S σ Hf H Φ Fs) (h : H p = none) : Kp q Φ Hf H Hf (upd H p o) :=
  ⟨Same.refl _, fun b hb => upd_ne fun z => by subst z; exact R.hΦ b hb h, fun _ _ z => z, fun b hb => same_none (same_upd h) hb, fun _ => same_upd h⟩
theorem stay_lay {o : HO} (h : H p = none) : Stay F Hf H Hf (upd H p o) := ⟨Same.refl _, fun _ _ z => z, fun b u _ e => same_upd h b u e⟩
theorem off_lay {o : HO} (R : Rel K S σ Hf H Φ Fs) (h : H p = none) (off : Off F Φ H Fs) : Off (fun b => F b ∨ b = p) Φ (upd H p o) Fs := fun b hb => by
  rcases hb with hb | rfl
  · exact ⟨(off b hb).1, same_none (same_upd h) (off b hb).2.1, (off b hb).2.2⟩
  · exact ⟨fun z => R.hΦ b z h, by rw [upd_same]; simp, fun i z => R.hF i b z h⟩
theorem ow_lst (R : Rel K S σ Hf H Φ Fs) (h : H p = none) (off : Off F Φ H Fs) (o : Ows K Hf H vs ts F) : Ow K Hf (upd H p (.lst vs)) (.ref p) (.lst ts) fun b => F b ∨ b = p :=
  .lst (G := F) upd_same (fr0 R.same h) (.inr rfl) (fun _ z => .inl z) (fun z => (off p z).2.1 h) (o.stay (stay_lay h))
end
section
variable {X : Cx} {W : WX} {es : List Expr} {ds : List Den} {pos : Pos}
theorem snd_lst {keep : Bool} (h : RowOk X W keep es ds) (ht : PlainT X (.List es pos)) : Snd X W (.List es pos) (dLst keep ds) := by
  have hv : PE X (.List es pos) (tV X.K W (allP ds) (dLst keep ds).v) := (pe_lst h.pa).weak fun σ H Q w => by
    obtain ⟨S, Hf, Φ, Fs, R, o⟩ := w
    have o : Out X.K W σ (allP ds) Φ Hf H ((evA keep ds S).bind fun r S1 => Tk.R.opt S1 ((spreadA r).bind fun bs => (ownsA bs).bind fun ts => if ts.length ≤ lim then some (OT.lst ts) else none)) _ := o
    refine ⟨S, Hf, Φ, Fs, R, (o.bind (q := allP ds) (q2 := true) id fun _ => rfl).imp fun r S1 Hf1 H1 Fs1 _ R1 k1 o1 vs F row off => ?_⟩
    cases e1 : spreadA r with
    | none => rw [e1] at o1; exact o1.elim
    | some bs =>
      rw [e1] at o1
      cases e2 : ownsA bs with
      | none =>
        have o1 : Out X.K W σ true Φ Hf1 H1 (Tk.R.opt S1 ((ownsA bs).bind fun ts => if ts.length ≤ lim then some (OT.lst ts) else none)) _ := o1
        rw [e2] at o1
        exact o1.elim
      | some ts =>
        have o1 : Out X.K W σ true Φ Hf1 H1 (Tk.R.opt S1 ((ownsA bs).bind fun ts => if ts.length ≤ lim then some (OT.lst ts) else none)) _ := o1
        rw [e2] at o1
        have o1 : Out X.K W σ true Φ Hf1 H1 (Tk.R.opt S1 (if ts.length ≤ lim then some (OT.lst ts) else none)) _ := o1
        split at o1
        · rename_i hl
          have ow := row_ows row e1 e2
          refine ⟨by rw [ow.length]; exact hl, fun p hp => ?_⟩
          exact o1 _ Hf1 Fs1 (R1.lay hp) (Kp.lay R1 hp) (.ref p) _ (ow_lst R1 hp off ow) (off_lay R1 hp off)
        · exact o1.elim
  refine snd_of hv (fun hp S => bind_exc (h.nx hp S) fun _ _ _ => opt_exc _) (pt_of hv ht)
theorem snd_tup {x1 : Nat} (h : RowOk X W false es ds) (ht : PlainT X (.Tuple es x1 pos)) : Snd X W (.Tuple es x1 pos) (dTup ds) := by
  have hv : PE X (.Tuple es x1 pos) (tV X.K W (allP ds) (dTup ds).v) := (pe_tup h.pa).weak fun σ H Q w => by
    obtain ⟨S, Hf, Φ, Fs, R, o⟩ := w
    have o : Out X.K W σ (allP ds) Φ Hf H (((evA false ds S).bind fun r S1 => Tk.R.opt S1 (spreadA r)).bind fun bs S1 => Tk.R.opt S1 ((ownsA bs).bind fun ts => if ts.length ≤ lim then some (OT.leaf (.tup (OT.frzs ts))) else none)) _ := o
    refine ⟨S, Hf, Φ, Fs, R, ((o.bind (q := allP ds) (q2 := true) id fun _ => rfl).bind (q := allP ds) (q2 := true) id fun _ => rfl).imp fun r S1 Hf1 H1 Fs1 _ R1 k1 o1 vs F row off => ?_⟩
    cases e1 : spreadA r with
    | none => rw [e1] at o1; exact o1.elim
    | some bs =>
      rw [e1] at o1
      have o1 := Out.ok (show Out X.K W σ true Φ Hf1 H1 (.ok bs S1) _ from o1) R1
      cases e2 : ownsA bs with
      | none => rw [e2] at o1; exact o1.elim
      | some ts =>
        rw [e2] at o1
        have o1 : Out X.K W σ true Φ Hf1 H1 (Tk.R.opt S1 (if ts.length ≤ lim then some (OT.leaf (.tup (OT.frzs ts))) else none)) _ := o1
        split at o1
        · rename_i hl
          have ow := row_ows row e1 e2
          refine ⟨by rw [ow.length]; exact hl, fun p hp => ?_⟩
          have R2 := R1.freezeF off
          have N := New.tup (K := X.K) R2.same hp ow.frozen
          exact o1 _ _ Fs1 (N.rel R2) ((kp_freezeF fun b hb => (off b hb).1).trans (N.kp R2)) (.ref p) _ N.ow (N.off R2)
        · exact o1.elim
  refine snd_of hv (fun hp S => bind_exc (bind_exc (h.nx hp S) fun _ _ _ => opt_exc _) fun _ _ _ => opt_exc _) (pt_of hv ht)
end
end Tk
end
section
set_option linter.all false
set_option maxRecDepth 100000
set_option maxHeartbeats 4000000
/-! Calls of defs. -/
namespace Tk
open PySem PySem.Spec PyProof.Rows L2

/-- what was lent, as it is at the end -/
inductive Owo (K : PySem.W.Frag) (Hf H : Hp) : List V → List (Option OT) → Fp → Prop
  | nil {G} : Owo K Hf H [] [] G
  | no {v vs ps G} : Owo K Hf H vs ps G → Owo K Hf H (v :: vs) (none :: ps) G
  | some {v vs t ps F G J} : Ow K Hf H v t F → Owo K Hf H vs ps G → (∀ b, F b → J b) → (∀ b, G b → J b) → (∀ b, F b → G b → False) → Owo K Hf H (v :: vs) (Option.some t :: ps) J
structure Args (K : PySem.W.Frag) (Hf H : Hp) (Φ : Fp) (vs : List V) (ts : List OT) (A : Fp) : Prop where
  same : Same Hf H
  ows : Ows K Hf H vs ts A
  off : ∀ b, A b → ¬ Φ b ∧ H b ≠ none
  hΦ : ∀ b, Φ b → H b ≠ none
structure Ret (K : PySem.W.Frag) (Φ : Fp) (Hf H : Hp) (vs : List V) (Hf' H' : Hp) (ps : List (Option OT)) (B : Fp) : Prop where
  same : Same Hf' H'
  kp : Kp false Φ Hf H Hf' H'
  owo : Owo K Hf' H' vs ps B
  off : ∀ b, B b → ¬ Φ b ∧ H' b ≠ none
/-- what a def promises: what the evaluator says of it -/
def spOf (K : PySem.W.Frag) (g : G) (f : Str) (n : Nat) : L2.Sp := fun vs H Q E => vs.length = n ∧ ∃ Hf Φ ts A, Args K Hf H Φ vs ts A ∧ match g.fn f ts with
  | .ok t ps => ∀ v Hf' H' F B, Ret K Φ Hf H vs Hf' H' ps B → Ow K Hf' H' v t F → (∀ b, F b → ¬ Φ b ∧ H' b ≠ none ∧ ¬ B b) → Q v H'
  | .exc x ps => ∀ cls d Hf' H' B, Ret K Φ Hf H vs Hf' H' ps B → Exn K Hf' x cls d → E cls d H'
  | .bad => False

/-! ## arguments -/
inductive RowA (K : PySem.W.Frag) (Hf H : Hp) (σ : L2.St) : List AV → List V → Fp → Prop
  | nil {F} : RowA K Hf H σ [] [] F
  | val {v t r vs F G J} : Ow K Hf H v t F → RowA K Hf H σ r vs G → (∀ b, F b → J b) → (∀ b, G b → J b) → (∀ b, F b → G b → False) → RowA K Hf H σ (.val t :: r) (v :: vs) J
  | bor {i v r vs G} : σ[i]? = some (some v) → RowA K Hf H σ r vs G → RowA K Hf H σ (.bor i [] :: r) (v :: vs) G
section
variable {K : PySem.W.Frag} {Hf H : Hp} {σ : L2.St}
theorem rowA_app {F : Fp} : ∀ {vs : List V} {ds : List D} {ws : List V} {bs : List AV}, Fzs K Hf vs ds → RowA K Hf H σ bs ws F → RowA K Hf H σ (ds.map (fun d => .val (.leaf d)) ++ bs) (vs ++ ws) F
  | _, _, _, _, .nil, r => r
  | _, _, _, _, .cons h t, r => .val (F := fun _ => False) (.leaf h) (rowA_app t r) (fun _ z => z.elim) (fun _ z => z) fun _ z => z.elim
theorem row_A {r : List (Bool × AV)} {vs : List V} {F : Fp} (h : Row K Hf H σ r vs F) : ∀ {bs : List AV}, spreadA r = some bs → RowA K Hf H σ bs vs F := by
  induction h with
  | nil => intro bs e; cases e; exact .nil
  | val o _ h1 h2 h3 ih =>
    intro bs e
    obtain ⟨b2, e3, rfl⟩ := Option.map_eq_some_iff.mp (show (spreadA _).map _ = some bs from e)
    exact .val o (ih e3) h1 h2 h3
  | star ei fz _ ih =>
    intro bs e
    rename_i d its xs r vs G _
    have e : (items? (OT.frz (.leaf d))).bind (fun ds => (spreadA r).map (ds.map (fun d => .val (.leaf d)) ++ ·)) = some bs := e
    have ei' : items? (OT.frz (.leaf d)) = some its := ei
    rw [ei'] at e
    obtain ⟨b2, e3, rfl⟩ := Option.map_eq_some_iff.mp (show (spreadA r).map _ = some bs from e)
    exact rowA_app fz (ih e3)
  | bor e1 _ ih =>
    intro bs e
    obtain ⟨b2, e3, rfl⟩ := Option.map_eq_some_iff.mp (show (spreadA _).map _ = some bs from e)
    exact .bor e1 (ih e3)
theorem lend_ows {S : SS} {Φ : Fp} {Fs : Nat → Fp} (R : Rel K S σ Hf H Φ Fs) {bs : List AV} {vs : List V} {F : Fp} (h : RowA K Hf H σ bs vs F) : ∀ {ts : List OT}, (∀ b, F b → ∀ i, ¬ Fs i b) → (lents bs).Nodup → lend S bs = some ts →
    Ows K Hf H vs ts fun b => F b ∨ ∃ i, i ∈ lents bs ∧ Fs i b := by
  induction h with
  | nil => intro ts _ _ e; cases e; exact .nil
  | val o _ h1 h2 h3 ih =>
    intro ts hF nd e
    obtain ⟨t2, e3, rfl⟩ := Option.map_eq_some_iff.mp (show (lend S _).map _ = some ts from e)
    refine .cons o (ih (fun b g => hF b (h2 b g)) nd e3) (fun b f => .inl (h1 b f)) (fun b g => ?_) fun b f g => ?_
    · rcases g with g | g
      · exact .inl (h2 b g)
      · exact .inr g
    · rcases g with g | ⟨i, _, g⟩
      · exact h3 b f g
      · exact hF b (h1 b f) i g
  | bor e1 _ ih =>
    intro ts hF nd e
    rename_i i v r vs G _
    have e : (match getS S i with | .own t => (lend S r).map (t :: ·) | .un => none) = some ts := e
    cases eg : getS S i with
    | un => rw [eg] at e; cases e
    | own t =>
      rw [eg] at e
      obtain ⟨t2, e3, rfl⟩ := Option.map_eq_some_iff.mp (show (lend S r).map _ = some ts from e)
      obtain ⟨v1, ev1, ow⟩ := R.own i t (getS_own eg)
      rw [e1] at ev1
      cases ev1
      have nd : i ∉ lents r ∧ (lents r).Nodup := List.nodup_cons.mp nd
      refine .cons ow (ih hF nd.2 e3) (fun b f => .inr ⟨i, List.mem_cons_self .., f⟩) (fun b g => ?_) fun b f g => ?_
      · rcases g with g | ⟨j, hj, g⟩
        · exact .inl g
        · exact .inr ⟨j, List.mem_cons_of_mem _ hj, g⟩
      · rcases g with g | ⟨j, hj, g⟩
        · exact hF b g i f
        · exact R.dis i j b (fun z => nd.1 (by rw [z]; exact hj)) f g
theorem lend_in {S : SS} : ∀ {bs : List AV} {ts : List OT}, lend S bs = some ts → ∀ i, i ∈ lents bs → ∃ t, S[i]? = some (.own t)
  | [], _, _, i, h => nomatch h
  | .val _ :: r, ts, e, i, h => by
    obtain ⟨t2, e3, _⟩ := Option.map_eq_some_iff.mp (show (lend S r).map _ = some ts from e)
    exact lend_in e3 i h
  | .bor j _ :: r, ts, e, i, h => by
    have e : (match getS S j with | .own t => (lend S r).map (t :: ·) | .un => none) = some ts := e
    cases eg : getS S j with
    | un => rw [eg] at e; cases e
    | own t =>
      rw [eg] at e
      obtain ⟨t2, e3, _⟩ := Option.map_eq_some_iff.mp (show (lend S r).map _ = some ts from e)
      rcases List.mem_cons.mp (show i ∈ j :: lents r from h) with h | h
      · subst h; exact ⟨t, getS_own eg⟩
      · exact lend_in e3 i h
/-- the slots behind a call -/
theorem back_of {Hf2 H2 : Hp} : ∀ {bs : List AV} {vs : List V} {F : Fp}, RowA K Hf H σ bs vs F → ∀ {S S' : SS} {ps : List (Option OT)} {B : Fp}, (lents bs).Nodup → (∀ i, i ∈ lents bs → i < S.length) → Owo K Hf2 H2 vs ps B → giveBack S bs ps = some S' →
    S'.length = S.length ∧ (∀ j, j ∉ lents bs → S'[j]? = S[j]?) ∧ ∃ Gs : Nat → Fp, (∀ i, i ∈ lents bs → ∃ v u, σ[i]? = some (some v) ∧ S'[i]? = some (.own u) ∧ Ow K Hf2 H2 v u (Gs i) ∧ ∀ b, Gs i b → B b) ∧
      ∀ i j b, i ∈ lents bs → j ∈ lents bs → i ≠ j → Gs i b → Gs j b → False
  | [], _, _, .nil, S, S', ps, B, nd, hl, o, e => by
    cases o
    cases e
    exact ⟨rfl, fun _ _ => rfl, fun _ _ => False, fun i h => (nomatch h), fun i j b h => nomatch h⟩
  | .val _ :: r, _, _, .val _ h _ _ _, S, S', ps, B, nd, hl, o, e => by
    cases o with
    | no o => exact back_of h nd hl o e
    | some ow o h1 h2 h3 =>
      obtain ⟨e1, e2, Gs, g1, g2⟩ := back_of h nd hl o e
      exact ⟨e1, e2, Gs, fun i hi => let ⟨v, u, a, b, c, d⟩ := g1 i hi; ⟨v, u, a, b, c, fun x z => h2 x (d x z)⟩, g2⟩
  | .bor i _ :: r, _, _, .bor e1 h, S, S', ps, B, nd, hl, o, e => by
    cases o with
    | no o => cases e
    | some ow o h1 h2 h3 =>
      rename_i u ps1 F1 G1
      have nd : i ∉ lents r ∧ (lents r).Nodup := List.nodup_cons.mp nd
      have hi : i < S.length := hl i (List.mem_cons_self ..)
      have e : giveBack (S.set i (.own u)) r ps1 = some S' := e
      obtain ⟨q1, q2, Gs, g1, g2⟩ := back_of h nd.2 (fun j hj => by rw [List.length_set]; exact hl j (List.mem_cons_of_mem _ hj)) o e
      refine ⟨by rw [q1, List.length_set], fun j hj => ?_, fun k => if k = i then F1 else Gs k, fun k hk => ?_, fun a b x ha hb hab ya yb => ?_⟩
      · have hj : j ≠ i ∧ j ∉ lents r := by
          have : j ∉ i :: lents r := hj
          simpa using this
        rw [q2 j hj.2, List.getElem?_set_ne fun z => hj.1 z.symm]
      · rcases List.mem_cons.mp (show k ∈ i :: lents r from hk) with hk | hk
        · subst hk
          refine ⟨_, u, e1, ?_, ?_, ?_⟩
          · rw [q2 k nd.1, List.getElem?_set_self hi]
          · show Ow K Hf2 H2 _ u (if k = k then F1 else Gs k)
            rw [if_pos rfl]; exact ow
          · show ∀ b, (if k = k then F1 else Gs k) b → _
            rw [if_pos rfl]; exact h1
        · have hne : k ≠ i := fun z => nd.1 (by rw [← z]; exact hk)
          obtain ⟨v, u, a, b, c, d⟩ := g1 k hk
          refine ⟨v, u, a, b, ?_, ?_⟩
          · show Ow K Hf2 H2 _ u (if k = i then F1 else Gs k)
            rw [if_neg hne]; exact c
          · show ∀ b, (if k = i then F1 else Gs k) b → _
            rw [if_neg hne]; exact fun x z => h2 x (d x z)
      · have za : (if a = i then F1 else Gs a) x := ya
        have zb : (if b = i then F1 else Gs b) x := yb
        clear ya yb
        by_cases ea : a = i
        · subst ea
          rw [if_pos rfl] at za
          have hb2 : b ∈ lents r := by
            rcases List.mem_cons.mp (show b ∈ a :: lents r from hb) with z | z
            · exact absurd z.symm hab
            · exact z
          rw [if_neg fun z => hab z.symm] at zb
          obtain ⟨_, _, _, _, _, d⟩ := g1 b hb2
          exact h3 x za (d x zb)
        · rw [if_neg ea] at za
          have ha2 : a ∈ lents r := by
            rcases List.mem_cons.mp (show a ∈ i :: lents r from ha) with z | z
            · exact absurd z ea
            · exact z
          by_cases eb : b = i
          · subst eb
            rw [if_pos rfl] at zb
            obtain ⟨_, _, _, _, _, d⟩ := g1 a ha2
            exact h3 x zb (d x za)
          · rw [if_neg eb] at zb
            have hb2 : b ∈ lents r := by
              rcases List.mem_cons.mp (show b ∈ i :: lents r from hb) with z | z
              · exact absurd z eb
              · exact z
            exact g2 a b x ha2 hb2 hab za zb
open Classical in
theorem rel_back {S S' : SS} {Φ : Fp} {Fs : Nat → Fp} {bs : List AV} {vs : List V} {F : Fp} {Hf2 H2 : Hp} {ps : List (Option OT)} {B : Fp} (R : Rel K S σ Hf H Φ Fs) (h : RowA K Hf H σ bs vs F) (nd : (lents bs).Nodup) (hin : ∀ i, i ∈ lents bs → ∃ t, S[i]? = some (Sl.own t))
    (r : Ret K (fun b => Φ b ∨ ∃ j, j ∉ lents bs ∧ Fs j b) Hf H vs Hf2 H2 ps B) (e : giveBack S bs ps = some S') : ∃ Fs2 : Nat → Fp, Rel K S' σ Hf2 H2 Φ Fs2 ∧ ∀ j b, Fs2 j b → (j ∉ lents bs ∧ Fs j b) ∨ B b := by
  obtain ⟨q1, q2, Gs, g1, g2⟩ := back_of h nd (fun i hi => by
    obtain ⟨t, et⟩ := hin i hi
    cases Nat.lt_or_ge i S.length with
    | inl z => exact z
    | inr z => rw [List.getElem?_eq_none z] at et; cases et) r.owo e
  have sub : ∀ j b, (if j ∈ lents bs then Gs j else Fs j) b → (j ∉ lents bs ∧ Fs j b) ∨ B b := fun j b z => by
    by_cases hj : j ∈ lents bs
    · rw [if_pos hj] at z
      obtain ⟨_, _, _, _, _, d⟩ := g1 j hj
      exact .inr (d b z)
    · rw [if_neg hj] at z
      exact .inl ⟨hj, z⟩
  refine ⟨fun j => if j ∈ lents bs then Gs j else Fs j, ⟨r.same, q1.trans R.len, fun j t et => ?_, fun j k b hjk z1 z2 => ?_, fun j b z => ?_, fun j b z => ?_, fun b z => ?_⟩, sub⟩
  · by_cases hj : j ∈ lents bs
    · obtain ⟨v, u, a, b, c, d⟩ := g1 j hj
      rw [b] at et
      cases et
      exact ⟨v, a, by show Ow K Hf2 H2 _ _ (if j ∈ lents bs then Gs j else Fs j); rw [if_pos hj]; exact c⟩
    · rw [q2 j hj] at et
      obtain ⟨v, ev, ow⟩ := R.own j t et
      refine ⟨v, ev, ?_⟩
      show Ow K Hf2 H2 _ _ (if j ∈ lents bs then Gs j else Fs j)
      rw [if_neg hj]
      exact ow.stay (r.kp.stay fun b z => .inr ⟨j, hj, z⟩)
  · have z1 : (if j ∈ lents bs then Gs j else Fs j) b := z1
    have z2 : (if k ∈ lents bs then Gs k else Fs k) b := z2
    by_cases hj : j ∈ lents bs
    · rw [if_pos hj] at z1
      by_cases hk : k ∈ lents bs
      · rw [if_pos hk] at z2
        exact g2 j k b hj hk hjk z1 z2
      · rw [if_neg hk] at z2
        obtain ⟨_, _, _, _, _, d⟩ := g1 j hj
        exact (r.off b (d b z1)).1 (.inr ⟨k, hk, z2⟩)
    · rw [if_neg hj] at z1
      by_cases hk : k ∈ lents bs
      · rw [if_pos hk] at z2
        obtain ⟨_, _, _, _, _, d⟩ := g1 k hk
        exact (r.off b (d b z2)).1 (.inr ⟨j, hj, z1⟩)
      · rw [if_neg hk] at z2
        exact R.dis j k b hjk z1 z2
  · rcases sub j b z with ⟨_, z⟩ | z
    · exact R.off j b z
    · exact fun y => (r.off b z).1 (.inl y)
  · rcases sub j b z with ⟨_, z⟩ | z
    · exact r.kp.more b (R.hF j b z)
    · exact (r.off b z).2
  · exact r.kp.more b (R.hΦ b z)
end

section
variable {X : Cx} {W : WX} {g : G} {es : List Expr} {ds : List Den} {e : Expr} {δ : Den} {pos p0 : Pos}
/-- the call itself, its arguments told -/
theorem call_out {σ : L2.St} {Hf H : Hp} {Φ : Fp} {Fs : Nat → Fp} {S : SS} {as : List AV} {vs : List V} {F : Fp} {f : Str} {n : Nat} {Q : VK} (R : Rel X.K S σ Hf H Φ Fs) (row : RowA X.K Hf H σ as vs F) (off : Off F Φ H Fs) (hn : ∀ ts, g.fn f ts ≠ .bad → ts.length = n)
    (o : Out X.K W σ false Φ Hf H (doCall g f as S) fun t _ Hf' H' Fs' => ∀ v F, Ow X.K Hf' H' v t F → Off F Φ H' Fs' → Q v H') : spOf X.K g f n vs H Q (WE W σ) := by
  unfold doCall at o
  by_cases hd : lentTwice as = true
  · rw [if_pos hd] at o; exact o.elim
  · rw [if_neg hd] at o
    have nd : (lents as).Nodup := by
      unfold lentTwice at hd
      simpa using hd
    cases el : lend S as with
    | none => rw [el] at o; exact o.elim
    | some ts =>
      rw [el] at o
      have ows := lend_ows R row (fun b z => (off b z).2.2) nd el
      have hin := lend_in el
      have hne : g.fn f ts ≠ .bad := by
        intro z
        have o : Out X.K W σ false Φ Hf H (match g.fn f ts with
          | .ok t ps => match giveBack S as ps with
            | some S' => .ok t S'
            | none => .bad
          | .exc x ps => match giveBack S as ps with
            | some S' => .exc x S'
            | none => .bad
          | .bad => .bad) _ := o
        rw [z] at o
        exact o
      refine ⟨by rw [ows.length]; exact hn ts hne, Hf, fun b => Φ b ∨ ∃ j, j ∉ lents as ∧ Fs j b, ts, _, ⟨R.same, ows, fun b z => ?_, fun b z => ?_⟩, ?_⟩
      · rcases z with z | ⟨i, hi, z⟩
        · refine ⟨fun y => ?_, (off b z).2.1⟩
          rcases y with y | ⟨j, _, y⟩
          · exact (off b z).1 y
          · exact (off b z).2.2 j y
        · refine ⟨fun y => ?_, R.hF i b z⟩
          rcases y with y | ⟨j, hj, y⟩
          · exact R.off i b z y
          · exact R.dis i j b (fun q => hj (by rw [← q]; exact hi)) z y
      · rcases z with z | ⟨j, _, z⟩
        · exact R.hΦ b z
        · exact R.hF j b z
      · cases eg : g.fn f ts with
        | bad => exact hne eg
        | ok t ps =>
          have o : Out X.K W σ false Φ Hf H (match g.fn f ts with
            | .ok t ps => match giveBack S as ps with
              | some S' => .ok t S'
              | none => .bad
            | .exc x ps => match giveBack S as ps with
              | some S' => .exc x S'
              | none => .bad
            | .bad => .bad) _ := o
          rw [eg] at o
          have o : Out X.K W σ false Φ Hf H (match giveBack S as ps with
              | some S' => .ok t S'
              | none => .bad) _ := o
          intro v Hf' H' F' B r ow hF'
          cases eb : giveBack S as ps with
          | none => rw [eb] at o; exact o.elim
          | some S' =>
            rw [eb] at o
            obtain ⟨Fs2, R2, sub⟩ := rel_back R row nd hin r eb
            refine o H' Hf' Fs2 R2 (r.kp.sub fun b z => .inl z) v F' ow fun b z => ⟨fun y => (hF' b z).1 (.inl y), (hF' b z).2.1, fun j y => ?_⟩
            rcases sub j b y with ⟨hj, y⟩ | y
            · exact (hF' b z).1 (.inr ⟨j, hj, y⟩)
            · exact (hF' b z).2.2 y
        | exc x ps =>
          have o : Out X.K W σ false Φ Hf H (match g.fn f ts with
            | .ok t ps => match giveBack S as ps with
              | some S' => .ok t S'
              | none => .bad
            | .exc x ps => match giveBack S as ps with
              | some S' => .exc x S'
              | none => .bad
            | .bad => .bad) _ := o
          rw [eg] at o
          have o : Out X.K W σ false Φ Hf H (match giveBack S as ps with
              | some S' => .exc x S'
              | none => .bad) _ := o
          intro cls d Hf' H' B r ex
          cases eb : giveBack S as ps with
          | none => rw [eb] at o; exact o.elim
          | some S' =>
            rw [eb] at o
            obtain ⟨Fs2, R2, sub⟩ := rel_back R row nd hin r eb
            exact o cls d H' Hf' Fs2 R2 (r.kp.sub fun b z => .inl z) ex
theorem snd_call {x fn : Str} {f : Addr} {fd : FuncData} {ps : List Str} {k n : Nat} (F : FnOk X.prog X.w X.K X.mg X.base (L2.CX X.prog X.w) k f fd ps (spOf X.K g fn n)) (hr : Room k X.A) (hg : Gl X x) (hm : X.mg x = some (.ref f)) (hk : PySem.W.keepIn X.K (.ref f) = true) (hb : Binds X.K fd ps [])
    (hn : ∀ ts, g.fn fn ts ≠ .bad → ts.length = n) (tk : Takes X W) (row : RowOk X W false (e :: es) ds) (hd : (x == ("__debug__" : Str)) = false) (he : starEach (e :: es) X.env = (false, eval e X.env) :: starEach es X.env) (hpl : (backTo pos (starEach es X.env)).any (·.1) = false)
    (ht : PlainT X (.Call (.Name x p0) (e :: es) [] pos)) : Snd X W (.Call (.Name x p0) (e :: es) [] pos) (dCall g fn ds) := by
  have hv : PE X (.Call (.Name x p0) (e :: es) [] pos) (tV X.K W false (dCall g fn ds).v) := (pe_callSD (p := p0) F hr hg hm hk hb .nil (passAt tk) row.pa hd he hpl).weak fun σ H Q w => by
    obtain ⟨S, Hf, Φ, Fs, R, o⟩ := w
    have o : Out X.K W σ false Φ Hf H (((evA false ds S).bind fun r S1 => Tk.R.opt S1 (spreadA r)).bind fun as S1 => doCall g fn as S1) _ := o
    refine ⟨S, Hf, Φ, Fs, R, ((o.bind (q := false) (q2 := false) id id).bind (q := allP ds) (q2 := false) (fun z => nomatch z) id).imp fun r S1 Hf1 H1 Fs1 _ R1 k1 o1 vs F row off => ?_⟩
    cases e1 : spreadA r with
    | none => rw [e1] at o1; exact o1.elim
    | some as =>
      rw [e1] at o1
      have o1 := Out.ok (show Out X.K W σ false Φ Hf1 H1 (.ok as S1) _ from o1) R1
      rw [List.append_nil]
      exact call_out R1 (row_A row e1) off hn o1
  exact snd_of hv (fun z => nomatch z) (pt_of hv ht)
end
end Tk
end
section
set_option linter.all false
set_option maxRecDepth 100000
set_option maxHeartbeats 4000000
/-! Statements. -/
namespace Tk
open PySem PySem.Spec PyProof.Rows L2

/-- what is lent keeps its names -/
def Sb (br : List Nat) (σ σ' : L2.St) : Prop := ∀ i, i ∈ br → σ'[i]? = σ[i]?
theorem Sb.refl {br : List Nat} {σ : L2.St} : Sb br σ σ := fun _ _ => rfl
theorem Sb.trans {br : List Nat} {σ σ' σ'' : L2.St} (a : Sb br σ σ') (b : Sb br σ' σ'') : Sb br σ σ'' := fun i hi => (b i hi).trans (a i hi)
/-- what a statement owes -/
def FOut (K : PySem.W.Frag) (W : WX) (br : List Nat) (σ : L2.St) (Φ : Fp) (Hf H : Hp) (r : Fl) (D : Ends) : Prop := match r with
  | .nx S' => ∀ σ' H' Hf' Fs', Rel K S' σ' Hf' H' Φ Fs' → Kp false Φ Hf H Hf' H' → Sb br σ σ' → D.nx σ' H'
  | .brk S' => ∀ σ' H' Hf' Fs', Rel K S' σ' Hf' H' Φ Fs' → Kp false Φ Hf H Hf' H' → Sb br σ σ' → D.bk σ' H'
  | .cnt S' => ∀ σ' H' Hf' Fs', Rel K S' σ' Hf' H' Φ Fs' → Kp false Φ Hf H Hf' H' → Sb br σ σ' → D.ct σ' H'
  | .ret t S' => ∀ v σ' H' Hf' Fs' F, Rel K S' σ' Hf' H' Φ Fs' → Kp false Φ Hf H Hf' H' → Sb br σ σ' → Ow K Hf' H' v t F → Off F Φ H' Fs' → D.rt v H'
  | .exc x S' => ∀ cls d σ' H' Hf' Fs', Rel K S' σ' Hf' H' Φ Fs' → Kp false Φ Hf H Hf' H' → Sb br σ σ' → Exn K Hf' x cls d → W cls d σ' H'
  | .bad => False
/-- a statement's reading -/
def tSt (K : PySem.W.Frag) (W : WX) (br : List Nat) (f : SS → Fl) : TS := fun D σ H => ∃ S Hf Φ Fs, Rel K S σ Hf H Φ Fs ∧ FOut K W br σ Φ Hf H (f S) D
section
variable {K : PySem.W.Frag} {W : WX} {br : List Nat} {σ σ1 : L2.St} {Φ : Fp} {Hf H Hf1 H1 : Hp} {r : Fl} {D : Ends} {p : Bool}
theorem FOut.base (o : FOut K W br σ Φ Hf H r D) (k : Kp p Φ Hf H Hf1 H1) (s : Sb br σ σ1) : FOut K W br σ1 Φ Hf1 H1 r D := by
  have k : Kp false Φ Hf H Hf1 H1 := k.low fun z => nomatch z
  cases r with
  | nx S' => exact fun σ' H' Hf' Fs' R k2 s2 => o σ' H' Hf' Fs' R (k.trans k2) (s.trans s2)
  | brk S' => exact fun σ' H' Hf' Fs' R k2 s2 => o σ' H' Hf' Fs' R (k.trans k2) (s.trans s2)
  | cnt S' => exact fun σ' H' Hf' Fs' R k2 s2 => o σ' H' Hf' Fs' R (k.trans k2) (s.trans s2)
  | ret t S' => exact fun v σ' H' Hf' Fs' F R k2 s2 => o v σ' H' Hf' Fs' F R (k.trans k2) (s.trans s2)
  | exc x S' => exact fun cls d σ' H' Hf' Fs' R k2 s2 => o cls d σ' H' Hf' Fs' R (k.trans k2) (s.trans s2)
  | bad => exact o
/-- an expression first -/
theorem FOut.fl {α : Type} {r : R α} {k : α → SS → Fl} (o : FOut K W br σ Φ Hf H (r.fl k) D) : Out K W σ p Φ Hf H r fun a S' Hf' H' _ => FOut K W br σ Φ Hf' H' (k a S') D := by
  cases r with
  | ok a S' => exact fun H' Hf' Fs' R k => FOut.base (r := _) o k Sb.refl
  | exc x S' => exact fun cls d H' Hf' Fs' R k X => o cls d σ H' Hf' Fs' R k Sb.refl X
  | bad => exact o
/-- one after the other -/
theorem FOut.seq {k : SS → Fl} (o : FOut K W br σ Φ Hf H (r.seq k) D) : FOut K W br σ Φ Hf H r { D with nx := tSt K W br k D } := by
  cases r with
  | nx S' => exact fun σ' H' Hf' Fs' R k2 s2 => ⟨S', Hf', Φ, Fs', R, FOut.base (r := k S') o k2 s2⟩
  | brk S' => exact o
  | cnt S' => exact o
  | ret t S' => exact o
  | exc x S' => exact o
  | bad => exact o
theorem FOut.go {S' : SS} {Fs : Nat → Fp} (o : FOut K W br σ Φ Hf H (.nx S') D) (R : Rel K S' σ Hf H Φ Fs) : D.nx σ H := o σ H Hf Fs R Kp.refl Sb.refl
end
section
variable {K : PySem.W.Frag} {S : SS} {σ : L2.St} {Hf H : Hp} {Φ : Fp} {Fs : Nat → Fp} {v : V} {t : OT} {F : Fp} {i : Nat}
/-- a name is given a thing -/
theorem Rel.put (R : Rel K S σ Hf H Φ Fs) (hi : i < S.length) (ow : Ow K Hf H v t F) (off : Off F Φ H Fs) : Rel K (S.set i (.own t)) (σ.set i (some v)) Hf H Φ (fun j b => (j = i ∧ F b) ∨ (j ≠ i ∧ Fs j b)) := by
  refine ⟨R.same, by rw [List.length_set, List.length_set]; exact R.len, fun j u e => ?_, fun j k b hjk h1 h2 => ?_, fun j b h => ?_, fun j b h => ?_, R.hΦ⟩
  · by_cases z : j = i
    · subst z
      rw [List.getElem?_set_self hi] at e
      cases e
      exact ⟨v, List.getElem?_set_self (by rw [← R.len]; exact hi), ow.wide fun b hb => .inl ⟨rfl, hb⟩⟩
    · rw [List.getElem?_set_ne fun q => z q.symm] at e
      obtain ⟨w, ew, o⟩ := R.own j u e
      exact ⟨w, by rw [List.getElem?_set_ne fun q => z q.symm]; exact ew, o.wide fun b hb => .inr ⟨z, hb⟩⟩
  · rcases h1 with ⟨e1, f1⟩ | ⟨e1, f1⟩ <;> rcases h2 with ⟨e2, f2⟩ | ⟨e2, f2⟩
    · exact hjk (e1.trans e2.symm)
    · exact (off b f1).2.2 k f2
    · exact (off b f2).2.2 j f1
    · exact R.dis j k b hjk f1 f2
  · rcases h with ⟨_, f⟩ | ⟨_, f⟩
    · exact (off b f).1
    · exact R.off j b f
  · rcases h with ⟨_, f⟩ | ⟨_, f⟩
    · exact (off b f).2.1
    · exact R.hF j b f
/-- a name is forgotten -/
theorem Rel.drop (R : Rel K S σ Hf H Φ Fs) : Rel K (S.set i .un) σ Hf H Φ (fun j b => j ≠ i ∧ Fs j b) := by
  refine ⟨R.same, by rw [List.length_set]; exact R.len, fun j u e => ?_, fun j k b hjk h1 h2 => R.dis j k b hjk h1.2 h2.2, fun j b h => R.off j b h.2, fun j b h => R.hF j b h.2, R.hΦ⟩
  by_cases z : j = i
  · subst z
    by_cases hi : j < S.length
    · rw [List.getElem?_set_self hi] at e; cases e
    · rw [List.getElem?_eq_none (by rw [List.length_set]; omega)] at e; cases e
  · rw [List.getElem?_set_ne fun q => z q.symm] at e
    obtain ⟨w, ew, o⟩ := R.own j u e
    exact ⟨w, ew, o.wide fun b hb => ⟨z, hb⟩⟩
end
theorem Rel.wipe {K : PySem.W.Frag} {S : SS} {σ : L2.St} {Hf H : Hp} {Φ : Fp} {Fs : Nat → Fp} (R : Rel K S σ Hf H Φ Fs) : ∀ is : List Nat, ∃ Fs', Rel K (wipeS S is) σ Hf H Φ Fs'
  | [] => ⟨Fs, R⟩
  | i :: is => let ⟨_, R1⟩ := Rel.wipe R is; ⟨_, R1.drop⟩

/-! ## targets -/
/-- a target, and what the evaluator says of it -/
structure TgOk (X : Cx) (br : List Nat) (tg : Expr) (t : Tg) (g : TG) : Prop where
  pg : PG X tg g
  run : ∀ {S S' : SS} {σ : L2.St} {Hf H : Hp} {Φ : Fp} {Fs : Nat → Fp} {v : V} {d : D} {Q : L2.St → Hp → Prop}, t.free br = true → Rel X.K S σ Hf H Φ Fs → Fz X.K Hf v d → setT t d S = some S' →
    (∀ σ' Fs', Rel X.K S' σ' Hf H Φ Fs' → Sb br σ σ' → Q σ' H) → g v σ H Q
structure TgsOk (X : Cx) (br : List Nat) (tgs : List Expr) (ts : List Tg) (g : TGs) : Prop where
  pg : PGs X tgs g
  run : ∀ {S S' : SS} {σ : L2.St} {Hf H : Hp} {Φ : Fp} {Fs : Nat → Fp} {vs : List V} {ds : List D} {Q : L2.St → Hp → Prop}, Tg.frees br ts = true → Rel X.K S σ Hf H Φ Fs → Fzs X.K Hf vs ds → setTs ts ds S = some S' →
    (∀ σ' Fs', Rel X.K S' σ' Hf H Φ Fs' → Sb br σ σ' → Q σ' H) → g vs σ H Q
theorem sb_set {br : List Nat} {σ : L2.St} {i : Nat} {v : Option V} (h : br.contains i = false) : Sb br σ (σ.set i v) := fun j hj => by
  rw [List.getElem?_set_ne]
  intro z
  subst z
  rw [List.contains_iff_mem.mpr hj] at h
  cases h
section
variable {X : Cx} {br : List Nat} {x : Str} {i : Nat} {pos : Pos}
theorem tg_name (hN : X.N.Nodup) (hi : X.N[i]? = some x) (hx : Loc X.env.scope x) (hf : X.fn x = true ∨ X.env.scope.names.lookup x = some .local) : TgOk X br (.Name x pos) (.nm i) (gName i) where
  pg := pg_name hN hi hx hf
  run := fun {S S' σ Hf H Φ Fs v d Q} hfr R fz e q => by
    have e : (if i < S.length then some (S.set i (.own (.leaf d))) else none) = some S' := e
    split at e
    · rename_i hl
      cases e
      have hfr : (!br.contains i) = true := hfr
      exact q _ _ (R.put (F := fun _ => False) hl (.leaf fz) fun _ z => z.elim) (sb_set (by simpa using hfr))
    · cases e
theorem tgs_nil : TgsOk X br [] [] gNil where
  pg := pgs_nil
  run := fun {S S' σ Hf H Φ Fs vs ds Q} hfr R fz e q => by
    cases fz with
    | nil =>
      cases e
      exact ⟨rfl, q _ _ R Sb.refl⟩
    | cons _ _ => cases e
theorem tgs_cons {tg : Expr} {tgs : List Expr} {t : Tg} {ts : List Tg} {g1 : TG} {g2 : TGs} (h : TgOk X br tg t g1) (r : TgsOk X br tgs ts g2) (hs : (assignEach (tg :: tgs) X.env).map (·.2) = assign tg X.env :: (assignEach tgs X.env).map (·.2)) : TgsOk X br (tg :: tgs) (t :: ts) (gCons g1 g2) where
  pg := pgs_cons h.pg r.pg hs
  run := fun {S S' σ Hf H Φ Fs vs ds Q} hfr R fz e q => by
    have hfr : (t.free br && Tg.frees br ts) = true := hfr
    obtain ⟨f1, f2⟩ := Bool.and_eq_true_iff.mp hfr
    cases fz with
    | nil => cases e
    | cons h1 h2 =>
      obtain ⟨S1, e1, e2⟩ := Option.bind_eq_some_iff.mp e
      exact ⟨_, _, rfl, h.run f1 R h1 e1 fun σ1 Fs1 R1 s1 => r.run f2 R1 h2 e2 fun σ2 Fs2 R2 s2 => q σ2 Fs2 R2 (s1.trans s2)⟩
theorem tg_tup {tgs : List Expr} {ts : List Tg} {g : TGs} {k n : Nat} (hc : X.calm = true) (h : TgsOk X br tgs ts g) (hn : (assignEach tgs X.env).length = n) (hl : ts.length = n) (hst : (assignEach tgs X.env).findIdx? (·.1) = none) : TgOk X br (.Tuple tgs k pos) (.tup ts) (gTup X.K n g) where
  pg := pg_tup hc h.pg hn hst
  run := fun {S S' σ Hf H Φ Fs v d Q} hfr R fz e q => by
    cases fz with
    | tup sq r =>
      have e : setTs ts _ S = some S' := e
      have len : ∀ {ts : List Tg} {ds : List D} {S : SS}, setTs ts ds S = some S' → ts.length = ds.length := by
        intro ts
        induction ts with
        | nil => intro ds S e; cases ds with
          | nil => rfl
          | cons _ _ => cases e
        | cons t ts ih => intro ds S e; cases ds with
          | nil => cases e
          | cons d ds =>
            obtain ⟨S1, _, e2⟩ := Option.bind_eq_some_iff.mp e
            exact congrArg Nat.succ (ih e2)
      exact ⟨_, _, rfl, sqT_same R.same sq, by rw [r.length, ← len e]; exact hl, h.run hfr R r e q⟩
    | _ => cases e
end

/-! ## statements -/
structure StOk (X : Cx) (W : WX) (br : List Nat) (st : Stmt) (f : SS → Fl) : Prop where
  ps : PS X st (tSt X.K W br f)
structure StsOk (X : Cx) (W : WX) (br : List Nat) (sts : List Stmt) (f : SS → Fl) : Prop where
  ps : PSs X sts (tSt X.K W br f)
section
variable {X : Cx} {W : WX} {br : List Nat} {st : Stmt} {sts : List Stmt} {f f2 : SS → Fl} {e c : Expr} {δ γ : Den} {pos : Pos}
theorem sts_nil : StsOk X W br [] fun S => .nx S := ⟨pss_nil.weak fun D σ H ⟨S, Hf, Φ, Fs, R, o⟩ => o.go R⟩
theorem sts_one (h : StOk X W br st f) : StsOk X W br [st] f := ⟨pss_one h.ps⟩
theorem sts_cons (h : StOk X W br st f) (r : StsOk X W br sts f2) : StsOk X W br (st :: sts) fun S => (f S).seq f2 :=
  ⟨(pss_cons h.ps r.ps).weak fun D σ H ⟨S, Hf, Φ, Fs, R, o⟩ => ⟨S, Hf, Φ, Fs, R, FOut.seq o⟩⟩
theorem st_pass : StOk X W br (.Pass pos) fun S => .nx S := ⟨ps_pass.weak fun D σ H ⟨S, Hf, Φ, Fs, R, o⟩ => o.go R⟩
theorem st_brk : StOk X W br (.Break pos) fun S => .brk S := ⟨ps_break.weak fun D σ H ⟨S, Hf, Φ, Fs, R, o⟩ => o σ H Hf Fs R Kp.refl Sb.refl⟩
theorem st_cnt : StOk X W br (.Continue pos) fun S => .cnt S := ⟨ps_continue.weak fun D σ H ⟨S, Hf, Φ, Fs, R, o⟩ => o σ H Hf Fs R Kp.refl Sb.refl⟩
theorem st_retN : StOk X W br (.Return none pos) fun S => .ret (.leaf .non) S :=
  ⟨ps_retN.weak fun D σ H ⟨S, Hf, Φ, Fs, R, o⟩ => o .non σ H Hf Fs (fun _ => False) R Kp.refl Sb.refl (.leaf .non) fun _ z => z.elim⟩
theorem st_expr (h : Snd X W e δ) (hs : swapsWith e none pos.line X.env = pure false) : StOk X W br (.Expr e pos) fun S => (δ.v S).fl fun _ S1 => .nx S1 :=
  ⟨(ps_expr h.v hs).weak fun D σ H ⟨S, Hf, Φ, Fs, R, o⟩ => ⟨S, Hf, Φ, Fs, R, (FOut.fl o).imp fun t S1 Hf1 H1 Fs1 _ R1 k1 o1 v F ow off => o1.go R1⟩⟩
theorem st_asg {x : Str} {i : Nat} {pos2 : Pos} (h : Snd X W e δ) (hN : X.N.Nodup) (hi : X.N[i]? = some x) (hx : Loc X.env.scope x) (hf : X.fn x = true ∨ X.env.scope.names.lookup x = some .local) (hs : swapsWith e (some (.Name x pos2)) pos.line X.env = pure false) :
    StOk X W br (.Assign [.Name x pos2] e pos) fun S => (δ.v S).fl fun u S1 => setO br (.nm i) u S1 :=
  ⟨(ps_set hN hi hx h.v hs hf).weak fun D σ H ⟨S, Hf, Φ, Fs, R, o⟩ => ⟨S, Hf, Φ, Fs, R, (FOut.fl o).imp fun t S1 Hf1 H1 Fs1 _ R1 k1 o1 v F ow off => by
    have o1 : FOut X.K W br σ Φ Hf1 H1 (if (!br.contains i) = true then (if i < S1.length then .nx (S1.set i (.own t)) else .bad) else .bad) D := o1
    split at o1
    · rename_i hb
      split at o1
      · rename_i hl
        exact o1 _ H1 Hf1 _ (R1.put hl ow off) Kp.refl (sb_set (by simpa using hb))
      · exact o1.elim
    · exact o1.elim⟩⟩
theorem st_asgT {tgs : List Expr} {ts : List Tg} {g : TG} {k : Nat} {p2 : Pos} (h : Snd X W e δ) (ht : TgOk X br (.Tuple tgs k p2) (.tup ts) g) (hs : swapsWithSole [.Tuple tgs k p2] e pos.line X.env = pure false) (hw : swappedStores [.Tuple tgs k p2] e X.env = pure none) :
    StOk X W br (.Assign [.Tuple tgs k p2] e pos) fun S => (δ.v S).fl fun u S1 => setO br (.tup ts) u S1 :=
  ⟨(ps_asg h.v ht.pg hs hw).weak fun D σ H ⟨S, Hf, Φ, Fs, R, o⟩ => ⟨S, Hf, Φ, Fs, R, (FOut.fl o).imp fun t S1 Hf1 H1 Fs1 _ R1 k1 o1 v F ow off => by
    have o1 : FOut X.K W br σ Φ Hf1 H1 (if (Tg.tup ts).free br = true then (match setT (.tup ts) t.frz S1 with
      | some S' => .nx S'
      | none => .bad) else .bad) D := o1
    split at o1
    · rename_i hb
      cases es : setT (.tup ts) t.frz S1 with
      | none => rw [es] at o1; exact o1.elim
      | some S' =>
        rw [es] at o1
        exact ht.run hb (R1.freezeF off) ow.frozen es fun σ' Fs' R' s' => o1 σ' H1 _ Fs' R' (kp_freezeF fun b hb => (off b hb).1) s'
    · exact o1.elim⟩⟩
theorem st_if {a b : List Stmt} (hc : Snd X W c γ) (ha : StsOk X W br a f) (hb : StsOk X W br b f2) : StOk X W br (.If c a b pos) fun S => (γ.t S).fl fun t S1 => if t then f S1 else f2 S1 :=
  ⟨(ps_if hc.t ha.ps hb.ps).weak fun D σ H ⟨S, Hf, Φ, Fs, R, o⟩ => ⟨S, Hf, Φ, Fs, R, (FOut.fl o).imp fun t S1 Hf1 H1 Fs1 _ R1 k1 o1 => by
    cases t with
    | true => exact ⟨S1, Hf1, Φ, Fs1, R1, o1⟩
    | false => exact ⟨S1, Hf1, Φ, Fs1, R1, o1⟩⟩⟩
theorem st_ret (h : Snd X W e δ) : StOk X W br (.Return (some e) pos) fun S => (δ.v S).fl fun t S1 => .ret t S1 :=
  ⟨(ps_ret h.v).weak fun D σ H ⟨S, Hf, Φ, Fs, R, o⟩ => ⟨S, Hf, Φ, Fs, R, (FOut.fl o).imp fun t S1 Hf1 H1 Fs1 _ R1 k1 o1 v F ow off => o1 v σ H1 Hf1 Fs1 F R1 Kp.refl Sb.refl ow off⟩⟩
/-- return x: x's thing goes along -/
theorem st_retM {x : Str} {i : Nat} {p2 : Pos} (hi : X.N[i]? = some x) (hv : Vis X.env.scope x) (hd : (x == ("__debug__" : Str)) = false) (hcd : (x == ("__classdict__" : Str)) = false) (hb : br.contains i = false) (h : Snd X W (.Name x p2) δ) : StOk X W br (.Return (some (.Name x p2)) pos) fun S => (moveOut br δ (some i) S).fl fun t S1 => .ret t S1 :=
  ⟨⟨fun pins s σ H D I w => by
    obtain ⟨S, Hf, Φ, Fs, R, o⟩ := w
    have o : FOut X.K W br σ Φ Hf H ((moveOut br δ (some i) S).fl fun t S1 => Fl.ret t S1) D := o
    cases eg : getS S i with
    | un =>
      have e : moveOut br δ (some i) S = δ.v S := by
        show (if br.contains i = true then _ else _) = _
        rw [hb]
        show (match getS S i with | .own t => _ | _ => _) = _
        rw [eg]
      rw [e] at o
      exact (st_ret h).ps.run pins s σ H D I ⟨S, Hf, Φ, Fs, R, o⟩
    | own t =>
      have e : moveOut br δ (some i) S = .ok t (S.set i .un) := by
        show (if br.contains i = true then _ else _) = _
        rw [hb]
        show (match getS S i with | .own t => _ | _ => _) = _
        rw [eg]
      rw [e] at o
      obtain ⟨v, ev, ow⟩ := R.own i t (getS_own eg)
      exact (ps_ret (pe_var hi hv hd hcd)).run pins s σ H D I ⟨v, ev, o v σ H Hf _ (Fs i) R.drop Kp.refl Sb.refl ow fun b hb => ⟨R.off i b hb, R.hF i b hb, fun j z => R.dis i j b (fun q => z.1 q.symm) hb z.2⟩⟩⟩⟩
end
end Tk
end
section
set_option linter.all false
set_option maxRecDepth 100000
set_option maxHeartbeats 4000000
/-! Loops. -/
namespace Tk
open PySem PySem.Spec PyProof.Rows L2

/-- an iterator hands out these, in a heap that has grown -/
def ItOk (K : PySem.W.Frag) (pu : Bool) (Hf0 H0 : Hp) (J : L2.It) (ds : List D) : Prop := ∀ i Hf H, Same Hf0 Hf → Same Hf H → (pu = true → Same H0 H) → (ds.length ≤ i → J.stop i H) ∧
  ∀ d, ds[i]? = some d → J.go i H ∧ ∀ x H', J.yld i H x H' → ∃ Hf' F, New K Hf H x (.leaf d) Hf' H' F
def tIt (K : PySem.W.Frag) (W : WX) (p pu : Bool) (f : SS → R (List D)) : TI := fun σ H R => ∃ S Hf Φ Fs, Rel K S σ Hf H Φ Fs ∧ Out K W σ p Φ Hf H (f S) fun ds _ Hf' H' _ => ∀ J, ItOk K pu Hf' H' J ds → R J H'
structure ItSnd (X : Cx) (W : WX) (pu : Bool) (tg iter : Expr) (p : Bool) (f : SS → R (List D)) : Prop where
  pi : PI X tg iter (tIt X.K W p pu f)
  nx : p = true → ∀ S x S', f S ≠ .exc x S'
section
variable {X : Cx} {W : WX} {tg : Expr} {l : Expr} {δ : Den} {pos : Pos}
def iSq (K : PySem.W.Frag) (te : TE) : TI := fun σ H R => te σ H fun x H1 => (∃ y, x = .str y ∧ R (Its y) H1) ∨ ∃ a, x = .ref a ∧ (((∃ xs, SqL K H1 a xs) ∧ R (Itl K a) H1) ∨ ((∃ xs, SqT K H1 a xs) ∧ R (Itt K a) H1))
theorem pi_sq {te : TE} (h : PE X l te) : PI X tg l (iSq X.K te) := ⟨fun pins s σ H R I w => by
  refine thn (h.run pins s σ H _ I w) fun u s1 ⟨x, H1, I1, rx, q⟩ => ?_
  rcases q with ⟨y, ey, q⟩ | ⟨a, ex, q⟩
  · subst ey
    obtain ⟨t, rfl⟩ := (show ∃ t, u = Value.str y t from rx)
    cases ha : y.cps.all (· < 128)
    · exact wpAny_pyIter_wide ha (pi_one (tk := s1.toks) I1 _ (turn_str _ y t "str_iterator" (.inr rfl)) ⟨_, Heap.get?_push_size _ rfl, rfl, rfl⟩ q)
    · exact wpAny_pyIter_ascii ha (pi_one (tk := s1.toks) I1 _ (turn_str _ y t "str_ascii_iterator" (.inl rfl)) ⟨_, Heap.get?_push_size _ rfl, rfl, rfl⟩ q)
  subst ex
  obtain rfl : u = Value.ref a := rx
  rcases q with ⟨⟨xs, sq⟩, q⟩ | ⟨⟨xs, sq⟩, q⟩
  · obtain ⟨its, _, pl, _⟩ := I1.list sq
    exact wpAny_pyIter_list pl.isList (pi_one (tk := s1.toks) I1 _ (turn_list a _) ⟨_, Heap.get?_push_size _ rfl, rfl, rfl⟩ q)
  · obtain ⟨its, _, pt, _⟩ := I1.tuple sq
    exact wpAny_pyIter_tuple (show s1.heap.IsTuple a its.toArray from pt) (pi_one (tk := s1.toks) I1 _ (turn_tuple a _) ⟨_, Heap.get?_push_size _ rfl, rfl, rfl⟩ q)⟩
theorem fzs_of_ints {K : PySem.W.Frag} {H : Hp} : ∀ {is : List Int}, Fzs K H (is.map V.int) (is.map D.int)
  | [] => .nil
  | _ :: _ => .cons .int fzs_of_ints
theorem it_ref {K : PySem.W.Frag} {pu : Bool} {Hf0 H0 : Hp} {J : L2.It} {vs : List V} {ds : List D} (r : Fzs K Hf0 vs ds) (stop : ∀ i H, (∃ Hf, Same Hf0 Hf ∧ Same Hf H) → (pu = true → Same H0 H) → vs.length ≤ i → J.stop i H)
    (go : ∀ i H x, (∃ Hf, Same Hf0 Hf ∧ Same Hf H) → (pu = true → Same H0 H) → vs[i]? = some x → J.go i H ∧ ∀ y H', J.yld i H y H' → y = x ∧ H' = H) : ItOk K pu Hf0 H0 J ds := by
  intro i Hf H s1 s2 s3
  refine ⟨fun hl => stop i H ⟨Hf, s1, s2⟩ s3 (by rw [r.length]; exact hl), fun d hd => ?_⟩
  obtain ⟨x, hx, fz⟩ := r.get hd
  obtain ⟨g, y⟩ := go i H x ⟨Hf, s1, s2⟩ s3 hx
  refine ⟨g, fun z H' hz => ?_⟩
  obtain ⟨rfl, rfl⟩ := y z H' hz
  exact ⟨Hf, _, New.old s2 (fz.mono s1)⟩
theorem it_its {K : PySem.W.Frag} {pu : Bool} {Hf0 H0 : Hp} {y : Str} : ItOk K pu Hf0 H0 (Its y) (signs y) := by
  intro i Hf H s1 s2 _
  have ln : (signs y).length = y.cps.size := by unfold signs; rw [List.length_map, Array.length_toList]
  refine ⟨fun hl => by rw [ln] at hl; exact hl, fun d hd => ?_⟩
  have hlt : i < y.cps.size := by rw [← ln]; exact (List.getElem?_eq_some_iff.mp hd).1
  refine ⟨hlt, fun x H' ⟨e1, c, e2, e3⟩ => ?_⟩
  subst e1 e3
  unfold signs at hd
  rw [List.getElem?_map, Array.getElem?_toList, e2] at hd
  cases hd
  exact ⟨Hf, _, New.scalar s2 .str⟩
theorem it_seq {pu : Bool} (h : Snd X W l δ) (hpu : pu = true → δ.p = true) : ItSnd X W pu tg l δ.p (iSeq pu δ) where
  nx := fun hp S => bind_exc (evQ_exc h hp S) fun _ _ _ => opt_exc _
  pi := ⟨fun pins s σ H R I w => (pi_sq (tg := tg) (h.q pu true)).run pins s σ H R I (by
    obtain ⟨S, Hf, Φ, Fs, Re, o⟩ := w
    have o : Out X.K W σ δ.p Φ Hf H ((evQ pu true δ S).bind fun d S1 => Tk.R.opt S1 (iterD d)) _ := o
    refine ⟨S, Hf, Φ, Fs, Re, (o.bind (q := δ.p) (q2 := δ.p) id id).imp fun d S1 Hf1 H1 Fs1 _ R1 k1 o1 v pk => ?_⟩
    cases ei : iterD d with
    | none => rw [ei] at o1; exact o1.elim
    | some ds =>
      rw [ei] at o1
      have o1 := Out.ok (show Out X.K W σ δ.p Φ Hf1 H1 (.ok ds S1) _ from o1) R1
      by_cases hstr : ∃ y, d = .str y
      · obtain ⟨y, rfl⟩ := hstr
        have ev : v = .str y := by
          cases pu with
          | true => cases pk with | fz pk => cases pk; rfl
          | false => cases pk; rfl
        have ei : (if y.cps.size ≤ lim then some (signs y) else none) = some ds := ei
        split at ei
        · cases ei
          exact .inl ⟨y, ev, o1 _ it_its⟩
        · cases ei
      right
      have fz1 : Fz1 X.K Hf1 H1 v d ∧ (pu = false → Fz X.K Hf1 v d) := by
        cases pu with
        | true => exact ⟨pk, fun z => nomatch z⟩
        | false => exact ⟨.fz pk, fun _ => pk⟩
      have sL : ∀ {a : Addr} {vs : List V}, (∀ H, (∃ Hf, Same Hf1 Hf ∧ Same Hf H) → (pu = true → Same H1 H) → SqL X.K H a vs) → Fzs X.K Hf1 vs ds → ItOk X.K pu Hf1 H1 (Itl X.K a) ds := fun {a vs} at_ r =>
        it_ref r (fun i H s1 s2 hl => ⟨vs, at_ H s1 s2, hl⟩) fun i H x s1 s2 hx => ⟨⟨vs, x, at_ H s1 s2, hx⟩, fun y H' hy => ⟨Option.some.inj ((hy.2 vs (at_ H s1 s2)).symm.trans hx), hy.1⟩⟩
      have sT : ∀ {a : Addr} {vs : List V}, (∀ H, (∃ Hf, Same Hf1 Hf ∧ Same Hf H) → (pu = true → Same H1 H) → SqT X.K H a vs) → Fzs X.K Hf1 vs ds → ItOk X.K pu Hf1 H1 (Itt X.K a) ds := fun {a vs} at_ r =>
        it_ref r (fun i H s1 s2 hl => ⟨vs, at_ H s1 s2, hl⟩) fun i H x s1 s2 hx => ⟨⟨vs, x, at_ H s1 s2, hx⟩, fun y H' hy => ⟨Option.some.inj ((hy.2 vs (at_ H s1 s2)).symm.trans hx), hy.1⟩⟩
      have now : ∃ Hf, Same Hf1 Hf ∧ Same Hf H1 := ⟨Hf1, Same.refl _, R1.same⟩
      have fzc : ∀ {v : V} {d : D}, (¬ ∃ y, d = .str y) → Fz X.K Hf1 v d → iterD d = some ds → ∃ a, v = .ref a ∧ (((∃ xs, SqL X.K H1 a xs) ∧ H1 = H1 ∧ ItOk X.K pu Hf1 H1 (Itl X.K a) ds) ∨ ((∃ xs, SqT X.K H1 a xs) ∧ H1 = H1 ∧ ItOk X.K pu Hf1 H1 (Itt X.K a) ds)) := fun {v d} ns fz ei => by
        cases fz with
        | str => exact absurd ⟨_, rfl⟩ ns
        | tup g r =>
          cases ei
          have at_ := sT (fun H ⟨Hf, s1, s2⟩ _ => sqT_same (s1.trans s2) g) r
          exact ⟨_, rfl, .inr ⟨⟨_, sqT_same R1.same g⟩, rfl, at_⟩⟩
        | lst g r =>
          cases ei
          have at_ := sL (fun H ⟨Hf, s1, s2⟩ _ => .inl (.inl (s2 _ _ (s1 _ _ g)))) r
          exact ⟨_, rfl, .inl ⟨⟨_, .inl (.inl (R1.same _ _ g))⟩, rfl, at_⟩⟩
        | scr g =>
          cases ei
          have at_ := sL (fun H ⟨Hf, s1, s2⟩ _ => sqL_same (s1.trans s2) g) fzs_of_ints
          exact ⟨_, rfl, .inl ⟨⟨_, sqL_same R1.same g⟩, rfl, at_⟩⟩
        | _ => cases ei
      have fin : ∃ a, v = .ref a ∧ (((∃ xs, SqL X.K H1 a xs) ∧ H1 = H1 ∧ ItOk X.K pu Hf1 H1 (Itl X.K a) ds) ∨ ((∃ xs, SqT X.K H1 a xs) ∧ H1 = H1 ∧ ItOk X.K pu Hf1 H1 (Itt X.K a) ds)) := by
        cases pu with
        | false => exact fzc hstr (fz1.2 rfl) ei
        | true =>
          cases fz1.1 with
          | fz fz => exact fzc hstr fz ei
          | lst g r =>
            cases ei
            have at_ := sL (fun H _ s2 => .inl (.inl (s2 rfl _ _ g))) r
            exact ⟨_, rfl, .inl ⟨⟨_, .inl (.inl g)⟩, rfl, at_⟩⟩
          | _ => cases ei
      obtain ⟨a, ev, q⟩ := fin
      refine ⟨a, ev, ?_⟩
      rcases q with ⟨q1, _, q2⟩ | ⟨q1, _, q2⟩
      · exact .inl ⟨q1, o1 _ q2⟩
      · exact .inr ⟨q1, o1 _ q2⟩)⟩
/-! range -/
theorem it_itr {K : PySem.W.Frag} {pu : Bool} {Hf0 H0 : Hp} {lo : Int} {n : Nat} : ItOk K pu Hf0 H0 (Itr lo n) (rangeD lo n) := by
  have at_ : ∀ (n : Nat) (lo : Int) (i : Nat), (rangeD lo n)[i]? = if i < n then some (.int (lo + i)) else none := by
    intro n
    induction n with
    | zero => intro lo i; simp [rangeD]
    | succ n ih =>
      intro lo i
      cases i with
      | zero => simp [rangeD]
      | succ i =>
        show (rangeD (lo + 1) n)[i]? = _
        rw [ih]
        by_cases h : i < n
        · rw [if_pos h, if_pos (by omega)]
          congr 2
          push_cast
          omega
        · rw [if_neg h, if_neg (by omega)]
  have len : ∀ (n : Nat) (lo : Int), (rangeD lo n).length = n := by
    intro n
    induction n with
    | zero => intro lo; rfl
    | succ n ih => intro lo; exact congrArg Nat.succ (ih _)
  intro i Hf H s1 s2 _
  refine ⟨fun h => by rw [len] at h; exact h, fun d hd => ?_⟩
  rw [at_] at hd
  split at hd
  · rename_i h
    cases hd
    refine ⟨h, fun x H' ⟨e1, e2⟩ => ?_⟩
    subst e1 e2
    exact ⟨Hf, _, New.scalar s2 .int⟩
  · cases hd
theorem okR_62 {i : Int} (h : okR i = true) : -(2 ^ 62) ≤ i ∧ i < 2 ^ 62 := by
  unfold okR at h
  simpa using h
theorem it_range1 {pu : Bool} {a : Expr} {α : Den} {p0 : Pos} (hg : Gl X "range") (hm : X.mg "range" = none) (ha : Snd X W a α) (hs : starEach [a] X.env = [(false, eval a X.env)]) : ItSnd X W pu tg (.Call (.Name "range" p0) [a] [] pos) α.p (iRange pu [α]) where
  nx := fun hp S => bind_exc (bind_exc (evQ_exc ha hp S) fun _ _ _ => ok_exc _) fun _ _ _ => opt_exc _
  pi := ⟨fun pins s σ H R I w => (pi_range1 (tg := tg) (p := p0) (pos := pos) hg hm (pa_cons (ha.q pu true) pa_nil hs) hs).run pins s σ H R I (by
    obtain ⟨S, Hf, Φ, Fs, Re, o⟩ := w
    have o : Out X.K W σ α.p Φ Hf H (((evQ pu true α S).bind fun d S1 => Tk.R.ok [d] S1).bind fun ds S1 => Tk.R.opt S1 (range? ds)) _ := o
    refine ⟨S, Hf, Φ, Fs, Re, ((o.bind (q := α.p) (q2 := α.p) id id).bind (q := α.p) (q2 := α.p) id id).imp fun d S1 Hf1 H1 Fs1 _ R1 k1 o1 v pk => ?_⟩
    have o1 := o1.ok R1
    cases er : range? [d] with
    | none => rw [er] at o1; exact o1.elim
    | some ds =>
      rw [er] at o1
      have o1 := Out.ok (show Out X.K W σ α.p Φ Hf1 H1 (.ok ds S1) _ from o1) R1
      cases d with
      | int n =>
        have er : (if okR n = true then some (rangeD 0 n.toNat) else none) = some ds := er
        split at er
        · rename_i hn
          cases er
          have ev := pk_int (pk.pk R1.same)
          subst ev
          exact ⟨n, rfl, (okR_62 hn).1, (okR_62 hn).2, o1 _ it_itr⟩
        · cases er
      | _ => cases er)⟩
end
/-! ## for -/
section
variable {X : Cx} {W : WX} {br : List Nat} {tg iter : Expr} {t : Tg} {g : TG} {p : Bool} {fi : SS → R (List D)} {body : List Stmt} {fb : SS → Fl} {pos : Pos} {kill : List Nat}
theorem wipe_out {K : PySem.W.Frag} {W : WX} {br : List Nat} {σ : L2.St} {Φ : Fp} {Hf H : Hp} {D : Ends} {S : SS} {Fs : Nat → Fp} (R : Rel K S σ Hf H Φ Fs) {k : SS → Fl} (o : FOut K W br σ Φ Hf H (k (wipeS S kill)) D) : ∃ S Fs, Rel K S σ Hf H Φ Fs ∧ FOut K W br σ Φ Hf H (k S) D := by
  obtain ⟨Fs', R'⟩ := R.wipe kill
  exact ⟨_, Fs', R', o⟩
theorem st_for (hp : PassesOwn (model X.prog X.w) X.A X.env X.xe) (hc : X.calm = true) (hi : ItSnd X W false tg iter p fi) (ht : TgOk X br tg t g) (hb : StsOk X W br body fb) (hs : ∀ x, foldedSetIterable iter X.env x = pure x) :
    StOk X W br (.For tg iter body [] pos) fun S => if (!t.free br) = true then .bad else (fi S).fl fun ds S1 => loopS kill (fun d T => match setT t d T with | none => .bad | some T1 => fb T1) ds (wipeS S1 kill) :=
  ⟨(ps_for hp hc hi.pi ht.pg hb.ps hs).weak fun D σ H ⟨S, Hf, Φ, Fs, R, o⟩ => by
    have o : FOut X.K W br σ Φ Hf H (if (!t.free br) = true then .bad else (fi S).fl fun ds S1 => loopS kill (fun d T => match setT t d T with | none => .bad | some T1 => fb T1) ds (wipeS S1 kill)) D := o
    split at o
    · exact o.elim
    · rename_i hfr
      have hfr : t.free br = true := by simpa using hfr
      refine ⟨S, Hf, Φ, Fs, R, (FOut.fl o).imp fun ds S1 Hf1 H1 Fs1 _ R1 k1 o1 J itok => ?_⟩
      obtain ⟨S2, Fs2, R2, o2⟩ := wipe_out R1 o1
      refine ⟨fun i m σ' H' => m = ds.length - i ∧ i ≤ ds.length ∧ ∃ S' Hf' Fs', Rel X.K S' σ' Hf' H' Φ Fs' ∧ Same Hf1 Hf' ∧ FOut X.K W br σ' Φ Hf' H' (loopS kill (fun d T => match setT t d T with | none => .bad | some T1 => fb T1) (ds.drop i) S') D, ⟨_, rfl, Nat.zero_le _, S2, Hf1, Fs2, R2, Same.refl _, o2⟩, fun i m σ' H' ⟨hm, hle, S', Hf', Fs', R', s', o'⟩ => ?_⟩
      obtain ⟨stop, go⟩ := itok i Hf' H' s' R'.same fun z => nomatch z
      by_cases hl : ds.length ≤ i
      · left
        rw [List.drop_eq_nil_of_le hl] at o'
        exact ⟨stop hl, o'.go R'⟩
      · right
        have hlt : i < ds.length := by omega
        have hd : ds[i]? = some ds[i] := List.getElem?_eq_getElem hlt
        rw [List.drop_eq_getElem_cons hlt] at o'
        obtain ⟨g1, y⟩ := go _ hd
        refine ⟨g1, fun σ2 H2 => ∃ m', m' < m ∧ (m' = ds.length - (i + 1) ∧ i + 1 ≤ ds.length ∧ ∃ S' Hf' Fs', Rel X.K S' σ2 Hf' H2 Φ Fs' ∧ Same Hf1 Hf' ∧ FOut X.K W br σ2 Φ Hf' H2 (loopS kill (fun d T => match setT t d T with | none => .bad | some T1 => fb T1) (ds.drop (i + 1)) S') D), fun _ _ z => z, fun x H2 hy => ?_⟩
        obtain ⟨Hf2, F, N⟩ := y x H2 hy
        have R2 := N.rel R'
        have k2 : Kp false Φ Hf' H' Hf2 H2 := N.kp R'
        cases es : setT t ds[i] S' with
        | none =>
          exfalso
          have e : loopS kill (fun d T => match setT t d T with | none => .bad | some T1 => fb T1) (ds[i] :: ds.drop (i + 1)) S' = .bad := by
            show (match (match setT t ds[i] S' with | none => Fl.bad | some T1 => fb T1) with | .nx S' => _ | .cnt S' => _ | .brk S' => _ | r => r) = _
            rw [es]
          rw [e] at o'
          exact o'
        | some T1 =>
          refine ht.run hfr R2 (by cases N.ow with | leaf h => exact h) es fun σ3 Fs3 R3 sb3 => ⟨T1, Hf2, Φ, Fs3, R3, ?_⟩
          have e : loopS kill (fun d T => match setT t d T with | none => .bad | some T1 => fb T1) (ds[i] :: ds.drop (i + 1)) S' = (match fb T1 with
            | .nx S' => loopS kill (fun d T => match setT t d T with | none => .bad | some T1 => fb T1) (ds.drop (i + 1)) (wipeS S' kill)
            | .cnt S' => loopS kill (fun d T => match setT t d T with | none => .bad | some T1 => fb T1) (ds.drop (i + 1)) (wipeS S' kill)
            | .brk S' => .nx S'
            | r => r) := by
            show (match (match setT t ds[i] S' with | none => Fl.bad | some T1 => fb T1) with | .nx S' => _ | .cnt S' => _ | .brk S' => _ | r => r) = _
            rw [es]
          rw [e] at o'
          have o' := o'.base k2 sb3
          have again : ∀ {S4 : SS}, FOut X.K W br σ3 Φ Hf2 H2 (loopS kill (fun d T => match setT t d T with | none => .bad | some T1 => fb T1) (ds.drop (i + 1)) (wipeS S4 kill)) D → ∀ σ4 H4 Hf4 Fs4, Rel X.K S4 σ4 Hf4 H4 Φ Fs4 → Kp false Φ Hf2 H2 Hf4 H4 → Sb br σ3 σ4 →
              ∃ m', m' < m ∧ (m' = ds.length - (i + 1) ∧ i + 1 ≤ ds.length ∧ ∃ S' Hf' Fs', Rel X.K S' σ4 Hf' H4 Φ Fs' ∧ Same Hf1 Hf' ∧ FOut X.K W br σ4 Φ Hf' H4 (loopS kill (fun d T => match setT t d T with | none => .bad | some T1 => fb T1) (ds.drop (i + 1)) S') D) := fun {S4} o4 σ4 H4 Hf4 Fs4 R4 k4 s4 => by
            obtain ⟨S5, Fs5, R5, o5⟩ := wipe_out (kill := kill) (k := loopS kill (fun d T => match setT t d T with | none => .bad | some T1 => fb T1) (ds.drop (i + 1))) R4 (o4.base k4 s4)
            exact ⟨_, by omega, rfl, by omega, S5, Hf4, Fs5, R5, (s'.trans N.fz).trans k4.fz, o5⟩
          cases eb : fb T1 with
          | nx S4 => rw [eb] at o'; exact again o'
          | cnt S4 => rw [eb] at o'; exact again o'
          | brk S4 => rw [eb] at o'; exact o'
          | ret u S4 => rw [eb] at o'; exact o'
          | exc x S4 => rw [eb] at o'; exact o'
          | bad => rw [eb] at o'; exact o'⟩
end
end Tk
end
section
set_option linter.all false
set_option maxRecDepth 100000
set_option maxHeartbeats 4000000
/-! Lists that are changed. -/
namespace Tk
open PySem PySem.Spec PyProof.Rows L2

section
variable {K : PySem.W.Frag} {Hf H : Hp}
theorem ows_snoc {y : V} {a : OT} {F : Fp} (o : Ow K Hf H y a F) : ∀ {xs : List V} {ts : List OT} {G : Fp}, Ows K Hf H xs ts G → (∀ b, G b → F b → False) → Ows K Hf H (xs ++ [y]) (ts ++ [a]) fun b => G b ∨ F b
  | _, _, G, .nil, d => .cons (G := fun _ => False) o .nil (fun _ z => .inr z) (fun _ z => z.elim) fun _ _ z => z
  | _, _, G, .cons (F := F1) (G := G1) h r h1 h2 h3, d => .cons h (ows_snoc o r fun b z w => d b (h2 b z) w) (fun b z => .inl (h1 b z)) (fun b z => z.imp (h2 b) id) fun b z w => w.elim (h3 b z) fun w => d b (h1 b z) w
theorem ows_erase : ∀ {xs : List V} {ts : List OT} {G : Fp}, Ows K Hf H xs ts G → ∀ {k : Nat} {t : OT}, ts[k]? = some t → ∃ y F G', xs[k]? = some y ∧ Ow K Hf H y t F ∧ Ows K Hf H (xs.eraseIdx k) (ts.eraseIdx k) G' ∧ (∀ b, F b → G b) ∧ (∀ b, G' b → G b) ∧ ∀ b, F b → G' b → False
  | _, _, _, .nil, k, t, e => by simp at e
  | _, _, _, .cons (F := F1) (G := G1) h r h1 h2 h3, 0, t, e => by
    simp at e
    subst e
    exact ⟨_, F1, G1, rfl, h, r, h1, h2, h3⟩
  | _, _, _, .cons (F := F1) (G := G1) h r h1 h2 h3, k + 1, t, e => by
    obtain ⟨y, F, G', a, b, c, d1, d2, d3⟩ := ows_erase r (k := k) (by simpa using e)
    exact ⟨y, F, fun b => F1 b ∨ G' b, by simpa using a, b, .cons h c (fun _ z => .inl z) (fun _ z => .inr z) fun b z w => h3 b z (d2 b w), fun b z => h2 b (d1 b z), fun b z => z.elim (h1 b) fun z => h2 b (d2 b z), fun b z w => w.elim (fun w => h3 b w (d1 b z)) fun w => d3 b z w⟩
theorem Rel.mut {S : SS} {σ : L2.St} {H3 : Hp} {Φ : Fp} {Fs : Nat → Fp} {i : Nat} {t t' : OT} {v : V} {F' : Fp} (R : Rel K S σ Hf H Φ Fs) (h : S[i]? = some (.own t)) (hv : σ[i]? = some (some v)) (ow : Ow K Hf H3 v t' F') (hF : ∀ b, F' b → ¬ Φ b ∧ H3 b ≠ none ∧ ∀ j, j ≠ i → ¬ Fs j b)
    (ch : ∀ b, H3 b = H b ∨ (Hf b = none ∧ Fs i b)) (more : ∀ b, H b ≠ none → H3 b ≠ none) : Rel K (S.set i (.own t')) σ Hf H3 Φ (fun j b => (j = i ∧ F' b) ∨ (j ≠ i ∧ Fs j b)) ∧ Kp false Φ Hf H Hf H3 := by
  have hi : i < S.length := by
    cases Nat.lt_or_ge i S.length with
    | inl z => exact z
    | inr z => rw [List.getElem?_eq_none z] at h; cases h
  have same : Same Hf H3 := fun b o e => by
    rcases ch b with z | ⟨z, _⟩
    · rw [z]; exact R.same b o e
    · rw [z] at e; cases e
  refine ⟨⟨same, by rw [List.length_set]; exact R.len, fun j u e => ?_, fun j k b hjk h1 h2 => ?_, fun j b h => ?_, fun j b h => ?_, fun b hb => more b (R.hΦ b hb)⟩, ⟨Same.refl _, fun b hb => ?_, fun _ _ z => z, more, fun z => nomatch z⟩⟩
  · by_cases z : j = i
    · subst z
      rw [List.getElem?_set_self hi] at e
      cases e
      exact ⟨v, hv, ow.wide fun b hb => .inl ⟨rfl, hb⟩⟩
    · rw [List.getElem?_set_ne fun q => z q.symm] at e
      obtain ⟨w, ew, o⟩ := R.own j u e
      refine ⟨w, ew, (o.stay ⟨Same.refl _, fun _ _ z => z, fun b u hb e => ?_⟩).wide fun b hb => .inr ⟨z, hb⟩⟩
      rcases ch b with q | ⟨_, q⟩
      · rw [q]; exact e
      · exact (R.dis j i b z hb q).elim
  · rcases h1 with ⟨e1, f1⟩ | ⟨e1, f1⟩ <;> rcases h2 with ⟨e2, f2⟩ | ⟨e2, f2⟩
    · exact hjk (e1.trans e2.symm)
    · exact (hF b f1).2.2 k e2 f2
    · exact (hF b f2).2.2 j e1 f1
    · exact R.dis j k b hjk f1 f2
  · rcases h with ⟨_, f⟩ | ⟨_, f⟩
    · exact (hF b f).1
    · exact R.off j b f
  · rcases h with ⟨_, f⟩ | ⟨_, f⟩
    · exact (hF b f).2.1
    · exact more b (R.hF j b f)
  · rcases ch b with q | ⟨_, q⟩
    · exact q
    · exact (R.off i b q hb).elim
end
section
variable {X : Cx} {W : WX} {g : G} {i : Nat} {e : Expr} {x : Str} {p0 apos pos : Pos} {keep : Bool} {ds : List Den}
theorem upd_more {H : Hp} {l : Addr} {o : HO} : ∀ b, H b ≠ none → upd H l o b ≠ none := fun b hb => by
  by_cases z : b = l
  · subst z; rw [upd_same]; simp
  · rw [upd_ne z]; exact hb
/-- what a list's method does, by the evaluator -/
def LmOk (X : Cx) (g : G) (m : M) (i : Nat) (r : V → List V → Hp → VK → Prop) : Prop := ∀ {S : SS} {σ : L2.St} {Hf H : Hp} {Φ : Fp} {Fs : Nat → Fp} {v : V} {t : OT} {vs : List V} {as : List OT} {F : Fp} {u res : OT} {Q : VK}, Rel X.K S σ Hf H Φ Fs → S[i]? = some (.own t) → σ[i]? = some (some v) → Ow X.K Hf H v t (Fs i) →
  Ows X.K Hf H vs as F → Off F Φ H Fs → m.sem g.sup t as = some (u, res) →
  (∀ y H3 Fs3 Fy, Rel X.K (S.set i (.own u)) σ Hf H3 Φ Fs3 → Kp false Φ Hf H Hf H3 → Ow X.K Hf H3 y res Fy → Off Fy Φ H3 Fs3 → Q y H3) → r v vs H Q
theorem lm_out {m : M} {r : V → List V → Hp → VK → Prop} (ok : LmOk X g m i r) {σ : L2.St} {Hf H : Hp} {Φ : Fp} {Fs : Nat → Fp} {S : SS} {v : V} {vs : List V} {as : List OT} {F : Fp} {Q : VK} (R : Rel X.K S σ Hf H Φ Fs) (ev : σ[i]? = some (some v)) (ows : Ows X.K Hf H vs as F) (off : Off F Φ H Fs)
    (o : Out X.K W σ false Φ Hf H (doMut g.sup m S i [] as) fun t _ Hf' H' Fs' => ∀ v F, Ow X.K Hf' H' v t F → Off F Φ H' Fs' → Q v H') : r v vs H Q := by
  unfold doMut at o
  cases eg : getS S i with
  | un => rw [eg] at o; exact o.elim
  | own t =>
    rw [eg] at o
    have o : Out X.K W σ false Φ Hf H (match m.sem g.sup t as with
      | some (u', r) => .ok r (S.set i (.own u'))
      | none => .bad) _ := o
    obtain ⟨v1, ev1, ow⟩ := R.own i t (getS_own eg)
    rw [ev] at ev1
    cases ev1
    cases em : m.sem g.sup t as with
    | none => rw [em] at o; exact o.elim
    | some ur =>
      rw [em] at o
      exact ok R (getS_own eg) ev ow ows off em fun y H3 Fs3 Fy R3 k3 o3 off3 => o H3 Hf Fs3 R3 k3 y Fy o3 off3
theorem snd_lm1 {m : M} {r : V → List V → Hp → VK → Prop} {id : String} {name : Str} (slot : Slot "list" name id) (hty : typeOf (.builtin id) = pure (.type "method_descriptor")) (rule : MtR X id r) (ok : LmOk X g m i r) (hi : X.N[i]? = some x) (hv : Vis X.env.scope x) (hd : (x == ("__debug__" : Str)) = false) (hcd : (x == ("__classdict__" : Str)) = false) (row : RowOk X W keep [e] ds)
    (hs : starEach [e] X.env = (false, eval e X.env) :: starEach [] X.env) (hbase : attributeBase (.Name x p0) name X.env (eval (.Name x p0) X.env) = eval (.Name x p0) X.env) (hline : (apos.endLine == pos.line) = true) (ht : PlainT X (.Call (.Attribute (.Name x p0) name apos) [e] [] pos))
    (hfew : ((backTo pos (starEach [e] X.env)).all (fun x => !x.1) && (backToKw pos (keywordEach [] X.env)).all (fun x => x.1.isSome) && decide (([e] : List Expr).length + ([] : List Keyword).length + (if ([] : List Keyword).isEmpty then 0 else 1) < 30)) = true) (hfit : ∀ t, m.fits t = true → ∃ ts, t = .lst ts) :
    Snd X W (.Call (.Attribute (.Name x p0) name apos) [e] [] pos) (dMut g m keep i ds) := by
  have hv' : PE X (.Call (.Attribute (.Name x p0) name apos) [e] [] pos) (tV X.K W false (dMut g m keep i ds).v) := (pe_bm (apos := apos) (cpos := pos) PySem.F.plainAttrs_list slot hty rule (pe_var hi hv hd hcd) row.pa hbase hfew hline hs rfl).weak fun σ H Q w => by
    obtain ⟨S, Hf, Φ, Fs, R, o⟩ := w
    have o : Out X.K W σ false Φ Hf H (match getS S i with
      | .own t => if m.fits t then (evMs keep ds S).bind fun ts S2 => doMut g.sup m S2 i [] ts else .bad
      | .un => .bad) _ := o
    cases eg : getS S i with
    | un => rw [eg] at o; exact o.elim
    | own t =>
      rw [eg] at o
      have o2 : Out X.K W σ false Φ Hf H (if m.fits t then (evMs keep ds S).bind fun ts S2 => doMut g.sup m S2 i [] ts else .bad) _ := o
      clear o
      obtain ⟨v, ev, ow⟩ := R.own i t (getS_own eg)
      refine ⟨v, ev, ?_⟩
      split at o2
      · rename_i hf
        obtain ⟨ts, rfl⟩ := hfit t hf
        cases ow with
        | lst h1 h2 h3 h4 h5 r =>
          have o3 : Out X.K W σ false Φ Hf H (((evA keep ds S).bind fun r S1 => Tk.R.opt S1 (valsA r)).bind fun ts S2 => doMut g.sup m S2 i [] ts) _ := o2
          refine ⟨.inl ⟨rfl, _, .inl (.inl h1)⟩, S, Hf, Φ, Fs, R, ((o3.bind (q := false) (q2 := false) (fun z => z) fun z => z).bind (q := allP ds) (q2 := false) (fun z => nomatch z) fun z => z).imp fun rw_ S1 Hf1 H1 Fs1 _ R1 k1 o1 vs F row off => ?_⟩
          cases e1 : valsA rw_ with
          | none => rw [e1] at o1; exact o1.elim
          | some as =>
            rw [e1] at o1
            exact lm_out ok R1 ev (row_vals row e1) off (Out.ok (show Out X.K W σ false Φ Hf1 H1 (.ok as S1) _ from o1) R1)
      · exact o2.elim
  exact snd_of hv' (fun z => nomatch z) (pt_of hv' ht)
theorem snd_lm0 {m : M} {r : V → List V → Hp → VK → Prop} {id : String} {name : Str} (slot : Slot "list" name id) (hty : typeOf (.builtin id) = pure (.type "method_descriptor")) (rule : MtR X id r) (ok : LmOk X g m i r) (hi : X.N[i]? = some x) (hv : Vis X.env.scope x) (hd : (x == ("__debug__" : Str)) = false) (hcd : (x == ("__classdict__" : Str)) = false)
    (hbase : attributeBase (.Name x p0) name X.env (eval (.Name x p0) X.env) = eval (.Name x p0) X.env) (hline : (apos.endLine == pos.line) = true) (ht : PlainT X (.Call (.Attribute (.Name x p0) name apos) [] [] pos)) (hfit : ∀ t, m.fits t = true → ∃ ts, t = .lst ts) :
    Snd X W (.Call (.Attribute (.Name x p0) name apos) [] [] pos) (dMut g m keep i []) := by
  have hv' : PE X (.Call (.Attribute (.Name x p0) name apos) [] [] pos) (tV X.K W false (dMut g m keep i []).v) := (pe_bm0 (apos := apos) (cpos := pos) PySem.F.plainAttrs_list slot hty rule (pe_var hi hv hd hcd) hbase hline).weak fun σ H Q w => by
    obtain ⟨S, Hf, Φ, Fs, R, o⟩ := w
    have o : Out X.K W σ false Φ Hf H (match getS S i with
      | .own t => if m.fits t then (evMs keep [] S).bind fun ts S2 => doMut g.sup m S2 i [] ts else .bad
      | .un => .bad) _ := o
    cases eg : getS S i with
    | un => rw [eg] at o; exact o.elim
    | own t =>
      rw [eg] at o
      have o2 : Out X.K W σ false Φ Hf H (if m.fits t then doMut g.sup m S i [] [] else .bad) _ := o
      clear o
      obtain ⟨v, ev, ow⟩ := R.own i t (getS_own eg)
      refine ⟨v, ev, ?_⟩
      split at o2
      · rename_i hf
        obtain ⟨ts, rfl⟩ := hfit t hf
        cases ow with
        | lst h1 h2 h3 h4 h5 r => exact ⟨.inl ⟨rfl, _, .inl (.inl h1)⟩, lm_out ok R ev (F := fun _ => False) .nil (fun _ z => z.elim) o2⟩
      · exact o2.elim
  exact snd_of hv' (fun z => nomatch z) (pt_of hv' ht)
theorem lm_append : LmOk X g .append i rAppend := by
  intro S σ Hf H Φ Fs v t vs as F u res Q R hS hv ow ows off em q
  cases ow with
  | lst h1 h2 h3 h4 h5 r =>
    rename_i l xs ts G
    cases ows with
    | nil => cases em
    | cons oy rest f1 f2 f3 =>
      cases rest with
      | cons _ _ _ _ _ => cases em
      | nil =>
        rename_i y a F1 G1
        have em : (if ts.length < lim then some (OT.lst (ts ++ [a]), OT.leaf .non) else none) = some (u, res) := em
        split at em
        · rename_i hl
          cases em
          refine ⟨l, xs, y, rfl, rfl, h1, by rw [r.length]; exact hl, ?_⟩
          have st : ∀ {Z : Fp}, ¬ Z l → Stay Z Hf H Hf (upd H l (.lst (xs ++ [y]))) := fun {Z} hz => ⟨Same.refl _, fun _ _ z => z, fun b o zb e => by rw [upd_ne fun q => hz (by rw [← q]; exact zb)]; exact e⟩
          have nl : ¬ F1 l := fun z => (off l (f1 l z)).2.2 i h3
          have sn := ows_snoc (oy.stay (st nl)) (r.stay (st h5)) fun b z w => (off b (f1 b w)).2.2 i (h4 b z)
          obtain ⟨R3, k3⟩ := R.mut (H3 := upd H l (.lst (xs ++ [y]))) (F' := fun b => b = l ∨ (G b ∨ F1 b)) hS hv (.lst (G := fun b => G b ∨ F1 b) upd_same h2 (.inl rfl) (fun b z => .inr z) (fun z => z.elim h5 nl) sn)
            (fun b z => by
              rcases z with z | z | z
              · subst z
                exact ⟨R.off i b h3, by rw [upd_same]; simp, fun j hj w => R.dis j i b hj w h3⟩
              · exact ⟨R.off i b (h4 b z), upd_more b (R.hF i b (h4 b z)), fun j hj w => R.dis j i b hj w (h4 b z)⟩
              · exact ⟨(off b (f1 b z)).1, upd_more b (off b (f1 b z)).2.1, fun j _ w => (off b (f1 b z)).2.2 j w⟩)
            (fun b => by
              by_cases z : b = l
              · subst z; exact .inr ⟨h2, h3⟩
              · exact .inl (upd_ne z)) upd_more
          exact q .non _ _ (fun _ => False) R3 k3 (.leaf .non) fun _ z => z.elim
        · cases em
  | _ => cases as <;> cases em
theorem erase_step {S : SS} {σ : L2.St} {Hf H : Hp} {Φ : Fp} {Fs : Nat → Fp} {l : Addr} {xs : List V} {ts : List OT} {G : Fp} {k : Nat} {t : OT} {Q : VK} (R : Rel X.K S σ Hf H Φ Fs) (hS : S[i]? = some (.own (.lst ts))) (hv : σ[i]? = some (some (.ref l))) (h1 : H l = some (.lst xs)) (h2 : Hf l = none) (h3 : Fs i l) (h4 : ∀ b, G b → Fs i b) (h5 : ¬ G l) (r : Ows X.K Hf H xs ts G) (hk : ts[k]? = some t)
    (q : ∀ y H3 Fs3 Fy, Rel X.K (S.set i (.own (.lst (ts.eraseIdx k)))) σ Hf H3 Φ Fs3 → Kp false Φ Hf H Hf H3 → Ow X.K Hf H3 y t Fy → Off Fy Φ H3 Fs3 → Q y H3) : ∃ y, xs[k]? = some y ∧ Q y (upd H l (.lst (xs.eraseIdx k))) := by
  obtain ⟨y, F1, G1, hy, oy, og, d1, d2, d3⟩ := ows_erase r hk
  refine ⟨y, hy, ?_⟩
  have st : ∀ {Z : Fp}, ¬ Z l → Stay Z Hf H Hf (upd H l (.lst (xs.eraseIdx k))) := fun {Z} hz => ⟨Same.refl _, fun _ _ z => z, fun b o zb e => by rw [upd_ne fun q => hz (by rw [← q]; exact zb)]; exact e⟩
  obtain ⟨R3, k3⟩ := R.mut (H3 := upd H l (.lst (xs.eraseIdx k))) (F' := fun b => b = l ∨ G1 b) hS hv (.lst (G := G1) upd_same h2 (.inl rfl) (fun b z => .inr z) (fun z => h5 (d2 l z)) (og.stay (st fun z => h5 (d2 l z))))
    (fun b z => by
      rcases z with z | z
      · subst z
        exact ⟨R.off i b h3, by rw [upd_same]; simp, fun j hj w => R.dis j i b hj w h3⟩
      · exact ⟨R.off i b (h4 b (d2 b z)), upd_more b (R.hF i b (h4 b (d2 b z))), fun j hj w => R.dis j i b hj w (h4 b (d2 b z))⟩)
    (fun b => by
      by_cases z : b = l
      · subst z; exact .inr ⟨h2, h3⟩
      · exact .inl (upd_ne z)) upd_more
  refine q y _ _ F1 R3 k3 (oy.stay (st fun z => h5 (d1 l z))) fun b z => ⟨R.off i b (h4 b (d1 b z)), upd_more b (R.hF i b (h4 b (d1 b z))), fun j w => ?_⟩
  rcases w with ⟨e, w⟩ | ⟨e, w⟩
  · rcases w with w | w
    · subst w; exact h5 (d1 b z)
    · exact d3 b z w
  · exact R.dis j i b e w (h4 b (d1 b z))
theorem dl_erase {α : Type} {l : List α} {n : Nat} (h : l.length = n) : l.dropLast = l.eraseIdx (n - 1) := by
  subst h
  rw [List.dropLast_eq_take, List.eraseIdx_eq_take_drop_succ]
  cases l with
  | nil => rfl
  | cons a l => simp
theorem lm_pop : LmOk X g .pop0 i rPop := by
  intro S σ Hf H Φ Fs v t vs as F u res Q R hS hv ow ows off em q
  cases ow with
  | lst h1 h2 h3 h4 h5 r =>
    rename_i l xs ts G
    cases ows with
    | cons _ _ _ _ _ => cases em
    | nil =>
      have em : (match ts.getLast? with | some t => some (OT.lst ts.dropLast, t) | none => none) = some (u, res) := em
      cases el : ts.getLast? with
      | none => rw [el] at em; cases em
      | some t =>
        rw [el] at em
        cases em
        have hk : ts[ts.length - 1]? = some res := by rw [← List.getLast?_eq_getElem?]; exact el
        have e1 : ts.dropLast = ts.eraseIdx (ts.length - 1) := dl_erase rfl
        have e2 : xs.dropLast = xs.eraseIdx (ts.length - 1) := dl_erase r.length
        rw [e1] at q
        obtain ⟨y, hy, hQ⟩ := erase_step R hS hv h1 h2 h3 h4 h5 r hk q
        refine ⟨l, xs, y, rfl, rfl, h1, by rw [r.length]; exact hy, ?_⟩
        rw [e2]
        exact hQ
  | _ => cases as <;> cases em
theorem ix63 {i : Int} {n k : Nat} (h : ixOf i n = some k) (hn : n ≤ sizeLine) : seqIndex? i n = some k ∧ -(2 ^ 63) ≤ i ∧ i < 2 ^ 63 := by
  have e9 : sizeLine = 16777216 := by decide
  obtain ⟨a, b, c, d⟩ := ixN_seq (show ixN n i = some k from h)
  exact ⟨a, by omega, by omega⟩
theorem lm_popAt : LmOk X g .popAt i rPopAt := by
  intro S σ Hf H Φ Fs v t vs as F u res Q R hS hv ow ows off em q
  cases ow with
  | lst h1 h2 h3 h4 h5 r =>
    rename_i l xs ts G
    match as, ows, em with
    | [.leaf (.int j)], .cons oy .nil f1 f2 f3, em =>
      have em : (if ts.length ≤ lim then (ixOf j ts.length).bind fun k => (ts[k]?).map fun t => (OT.lst (ts.eraseIdx k), t) else none) = some (u, res) := em
      split at em
      · rename_i hlim
        obtain ⟨k, ek, em⟩ := Option.bind_eq_some_iff.mp em
        obtain ⟨t, et, em⟩ := Option.map_eq_some_iff.mp em
        cases em
        cases oy with
        | leaf fz =>
          cases fz
          obtain ⟨a, b, c⟩ := ix63 ek hlim
          obtain ⟨y, hy, hQ⟩ := erase_step R hS hv h1 h2 h3 h4 h5 r et q
          exact ⟨l, xs, j, k, y, rfl, rfl, h1, b, c, by rw [r.length]; exact a, hy, hQ⟩
      · cases em
  | _ =>
    unfold M.sem at em
    split at em <;> first | contradiction | simp_all
end
end Tk
end
section
set_option linter.all false
set_option maxRecDepth 100000
set_option maxHeartbeats 4000000
/-! List comprehensions. -/
namespace Tk
open PySem PySem.Spec PyProof.Rows L2

theorem _root_.L2.PE.weakI {X : Cx} {e : Expr} {t t' : TE} (h : PE X e t) (i : ∀ pins s σ H Q, Inv X pins σ H s → t' σ H Q → t σ H Q) : PE X e t' := ⟨fun pins s σ H Q I w => h.run pins s σ H Q I (i pins s σ H Q I w)⟩
/-- in a block nothing is raised -/
def WF : WX := fun _ _ _ _ => False
theorem wipe_in {σ : L2.St} {i : Nat} {v : V} : ∀ {vs : List Nat}, i ∈ vs → (wipe σ vs)[i]? ≠ some (some v)
  | [], h, _ => nomatch h
  | j :: vs, h, e => (wipe_some e).2 h
theorem wipe_nil {σ : L2.St} {i : Nat} : ∀ {vs : List Nat}, i ∈ vs → i < σ.length → (wipe σ vs)[i]? = some none
  | j :: vs, h, hl => by
    show ((wipe σ vs).set j none)[i]? = some none
    by_cases e : i = j
    · subst e
      rw [List.getElem?_set_self (by rw [wipe_length]; exact hl)]
    · rw [List.getElem?_set_ne fun z => e z.symm]
      rcases List.mem_cons.mp h with z | z
      · exact absurd z e
      · exact wipe_nil z hl
theorem wipe_eq {σ σ' : L2.St} {vs : List Nat} (hl : σ'.length = σ.length) (h : ∀ j, j ∉ vs → σ'[j]? = σ[j]?) : wipe σ' vs = wipe σ vs := by
  apply List.ext_getElem?
  intro j
  by_cases hj : j ∈ vs
  · by_cases hlt : j < σ.length
    · rw [wipe_nil hj hlt, wipe_nil hj (by rw [hl]; exact hlt)]
    · rw [List.getElem?_eq_none (by rw [wipe_length, hl]; omega), List.getElem?_eq_none (by rw [wipe_length]; omega)]
  · rw [L2.wipe_out hj, L2.wipe_out hj, h j hj]
theorem setT_len : (∀ (t : Tg) (d : D) (S S' : SS), setT t d S = some S' → S'.length = S.length) ∧ ∀ (ts : List Tg) (ds : List D) (S S' : SS), setTs ts ds S = some S' → S'.length = S.length := by
  have key : ∀ n, (∀ (t : Tg), sizeOf t < n → ∀ (d : D) (S S' : SS), setT t d S = some S' → S'.length = S.length) ∧ ∀ (ts : List Tg), sizeOf ts < n → ∀ (ds : List D) (S S' : SS), setTs ts ds S = some S' → S'.length = S.length := by
    intro n
    induction n with
    | zero => exact ⟨fun _ h => absurd h (Nat.not_lt_zero _), fun _ h => absurd h (Nat.not_lt_zero _)⟩
    | succ n ih =>
      refine ⟨fun t ht d S S' e => ?_, fun ts ht ds S S' e => ?_⟩
      · cases t with
        | nm i =>
          have e : (if i < S.length then some (S.set i (.own (.leaf d))) else none) = some S' := e
          split at e
          · cases e; exact List.length_set
          · cases e
        | tup ts =>
          cases d with
          | tup ds => exact ih.2 ts (by simp at ht; omega) ds S S' e
          | _ => cases e
      · cases ts with
        | nil => cases ds with
          | nil => cases e; rfl
          | cons _ _ => cases e
        | cons t ts => cases ds with
          | nil => cases e
          | cons d ds =>
            obtain ⟨S1, e1, e2⟩ := Option.bind_eq_some_iff.mp e
            rw [ih.2 ts (by simp at ht; omega) ds S1 S' e2, ih.1 t (by simp at ht; omega) d S S1 e1]
  exact ⟨fun t => (key (sizeOf t + 1)).1 t (Nat.lt_succ_self _), fun ts => (key (sizeOf ts + 1)).2 ts (Nat.lt_succ_self _)⟩
section
variable {K : PySem.W.Frag} {S : SS} {σ : L2.St} {Hf H : Hp} {Φ : Fp} {Fs : Nat → Fp}
theorem Rel.wipe2 (R : Rel K S σ Hf H Φ Fs) : ∀ vs : List Nat, ∃ Fs' : Nat → Fp, Rel K (wipeS S vs) (L2.wipe σ vs) Hf H Φ Fs' ∧ ∀ j b, Fs' j b → Fs j b
  | [] => ⟨Fs, R, fun _ _ z => z⟩
  | i :: vs => by
    obtain ⟨Fs1, R1, s1⟩ := Rel.wipe2 R vs
    refine ⟨fun j b => j ≠ i ∧ Fs1 j b, ⟨R1.same, by show ((wipeS S vs).set i .un).length = ((L2.wipe σ vs).set i none).length; rw [List.length_set, List.length_set]; exact R1.len, fun j u e => ?_, fun j k b hjk h1 h2 => R1.dis j k b hjk h1.2 h2.2, fun j b h => R1.off j b h.2, fun j b h => R1.hF j b h.2, R1.hΦ⟩, fun j b z => s1 j b z.2⟩
    have e : ((wipeS S vs).set i .un)[j]? = some (.own u) := e
    by_cases z : j = i
    · subst z
      by_cases hj : j < (wipeS S vs).length
      · rw [List.getElem?_set_self hj] at e; cases e
      · rw [List.getElem?_eq_none (by rw [List.length_set]; omega)] at e; cases e
    · rw [List.getElem?_set_ne fun q => z q.symm] at e
      obtain ⟨w, ew, o⟩ := R1.own j u e
      refine ⟨w, ?_, o.wide fun b hb => ⟨z, hb⟩⟩
      show ((L2.wipe σ vs).set i none)[j]? = _
      rw [List.getElem?_set_ne fun q => z q.symm]
      exact ew
/-- what stands in the frame is written -/
theorem Rel.updD {D : Addr} {o : HO} (R : Rel K S σ Hf H Φ Fs) (hD : Φ D) (hf : Hf D = none) : Rel K S σ Hf (upd H D o) Φ Fs :=
  ⟨fun b u e => by rw [upd_ne fun z => by subst z; rw [hf] at e; cases e]; exact R.same b u e, R.len, fun i t e => by
    obtain ⟨v, ev, ow⟩ := R.own i t e
    exact ⟨v, ev, ow.stay ⟨Same.refl _, fun _ _ z => z, fun b u hb e => by rw [upd_ne fun z => by subst z; exact R.off i b hb hD]; exact e⟩⟩, R.dis, R.off, fun i b hb => upd_more b (R.hF i b hb), fun b hb => upd_more b (R.hΦ b hb)⟩
end
theorem backL_len (S : SS) : ∀ (T : SS) (is : List Nat), (backL S T is).length = T.length
  | T, [] => rfl
  | T, i :: is => by show ((backL S T is).set i _).length = _; rw [List.length_set, backL_len S T is]
theorem backL_out {S T : SS} {j : Nat} : ∀ {is : List Nat}, j ∉ is → (backL S T is)[j]? = T[j]?
  | [], _ => rfl
  | i :: is, h => by
    have h1 : i ≠ j := fun e => h (by rw [e]; exact List.mem_cons_self ..)
    show ((backL S T is).set i _)[j]? = _
    rw [List.getElem?_set_ne h1]
    exact backL_out fun z => h (List.mem_cons_of_mem _ z)
theorem backL_in {S T : SS} {j : Nat} {t : OT} : ∀ {is : List Nat}, j ∈ is → (backL S T is)[j]? = some (.own t) → ∃ d, t = .leaf d ∧ S[j]? = some (.own (.leaf d))
  | i :: is, h, e => by
    have e : ((backL S T is).set i (match getS S i with | .own (.leaf d) => .own (.leaf d) | _ => .un))[j]? = some (.own t) := e
    by_cases z : j = i
    · subst z
      by_cases hl : j < (backL S T is).length
      · rw [List.getElem?_set_self hl] at e
        cases eg : getS S j with
        | un => rw [eg] at e; cases e
        | own u =>
          rw [eg] at e
          cases u with
          | leaf d => cases e; exact ⟨d, rfl, getS_own eg⟩
          | _ => cases e
      · rw [List.getElem?_eq_none (by rw [List.length_set]; omega)] at e; cases e
    · rw [List.getElem?_set_ne fun q => z q.symm] at e
      rcases List.mem_cons.mp h with q | q
      · exact absurd q z
      · exact backL_in q e
theorem rel_backL {K : PySem.W.Frag} {S T : SS} {σ : L2.St} {Hf1 H1 Hf H : Hp} {Φ Ψ : Fp} {Fs1 Fs : Nat → Fp} {vs : List Nat} (R1 : Rel K S σ Hf1 H1 Φ Fs1) (R : Rel K T (L2.wipe σ vs) Hf H Ψ Fs) (fz : Same Hf1 Hf) (h : ∀ b, Φ b → Ψ b) : Rel K (backL S T vs) σ Hf H Φ (fun j b => j ∉ vs ∧ Fs j b) := by
  refine ⟨R.same, by rw [backL_len, R.len, wipe_length], fun j u e => ?_, fun j k b hjk h1 h2 => R.dis j k b hjk h1.2 h2.2, fun j b z y => R.off j b z.2 (h b y), fun j b z => R.hF j b z.2, fun b z => R.hΦ b (h b z)⟩
  by_cases hj : j ∈ vs
  · obtain ⟨d, rfl, e1⟩ := backL_in hj e
    obtain ⟨v, ev, ow⟩ := R1.own j _ e1
    refine ⟨v, ev, ?_⟩
    cases ow with
    | leaf h => exact .leaf (h.mono fz)
  · rw [backL_out hj] at e
    obtain ⟨v, ev, ow⟩ := R.own j u e
    rw [L2.wipe_out hj] at ev
    exact ⟨v, ev, ow.wide fun b hb => ⟨hj, hb⟩⟩
theorem Kp.updD {p : Bool} {Φ : Fp} {Hf1 H1 Hf H : Hp} {D : Addr} {o : HO} (k : Kp p Φ Hf1 H1 Hf H) (hD : H1 D = none) (hΦ : ¬ Φ D) : Kp p Φ Hf1 H1 Hf (upd H D o) :=
  ⟨k.fz, fun b hb => by rw [upd_ne fun z => by subst z; exact hΦ hb]; exact k.keep b hb, k.nof, fun b hb => upd_more b (k.more b hb), fun z b u e => by rw [upd_ne fun q => by subst q; rw [hD] at e; cases e]; exact k.pure z b u e⟩
theorem noX_ok {α : Type} {r : R α} {a : α} {S : SS} (h : noX r = .ok a S) : r = .ok a S := by
  cases r with
  | ok b T => exact h
  | exc x T => cases h
  | bad => cases h
theorem bind_ok {α β : Type} {r : R α} {k : α → SS → R β} {b : β} {S : SS} (h : r.bind k = .ok b S) : ∃ a T, r = .ok a T ∧ k a T = .ok b S := by
  cases r with
  | ok a T => exact ⟨a, T, rfl, h⟩
  | exc x T => cases h
  | bad => cases h
theorem turn_inv {keep : Bool} {gd : GenD} {δ : Den} {d : D} {ts ts2 : List OT} {S T : SS} (h : turnL keep gd δ d ts S = .ok ts2 T) : ∃ T1 b T2, setT gd.tg d S = some T1 ∧ evIfs gd.ifs T1 = .ok b T2 ∧
    ((b = true ∧ ∃ u, δ.v T2 = .ok u T ∧ ts.length < lim ∧ ts2 = ts ++ [keepT keep u]) ∨ (b = false ∧ ts2 = ts ∧ T = T2)) := by
  unfold turnL at h
  cases e : setT gd.tg d S with
  | none => rw [e] at h; cases h
  | some T1 =>
    rw [e] at h
    obtain ⟨b, T2, e1, e2⟩ := bind_ok (noX_ok h)
    refine ⟨T1, b, T2, rfl, e1, ?_⟩
    cases b with
    | true =>
      obtain ⟨u, T3, e3, e4⟩ := bind_ok (show (δ.v T2).bind _ = _ from e2)
      split at e4
      · rename_i hl
        cases e4
        exact .inl ⟨rfl, u, e3, hl, rfl⟩
      · cases e4
    | false => cases e2; exact .inr ⟨rfl, rfl, rfl⟩
theorem loop_noexc {own : List Nat} {keep : Bool} {gd : GenD} {δ : Den} : ∀ (ds : List D) (ts : List OT) (S : SS) (x : D) (S' : SS), loopW own (turnL keep gd δ) ds ts S ≠ .exc x S'
  | [], ts, S, x, S', h => by cases h
  | d :: ds, ts, S, x, S', h => by
    have h : (turnL keep gd δ d ts S).bind (fun b' S' => loopW own (turnL keep gd δ) ds b' (wipeS S' own)) = .exc x S' := h
    cases e : turnL keep gd δ d ts S with
    | ok a T => rw [e] at h; exact loop_noexc ds a _ x S' h
    | bad => rw [e] at h; cases h
    | exc y T =>
      unfold turnL at e
      split at e
      · cases e
      · generalize ((evIfs gd.ifs _).bind _) = r at e
        cases r <;> cases e

section
variable {X : Cx} {W : WX} {tg iter elt : Expr} {ifs : List Expr} {t : Tg} {gt : TG} {fi : SS → R (List D)} {fs : List Den} {δ : Den} {scope : Scope} {own : List (Str × Nat)} {pos : Pos} {p pi keep : Bool}
theorem lcomp_v (hN : X.N.Nodup) (hpp : p = true → pi = true ∧ allP fs = true ∧ δ.p = true) (hown : t.free ((List.range X.N.length).filter fun j => decide (j ∉ own.map (·.2))) = true)
    (hg : ∀ (s : Shared) (H : Hp) (C : Addr) (cl : List (Str × Addr)) (fp : List Addr), TgOk (X.blk s H scope (compEnvC scope cl C X.env) fp) ((List.range X.N.length).filter fun j => decide (j ∉ own.map (·.2))) tg t gt)
    {pins0 : List (Addr × Obj)} {s0 : Shared} {σ : L2.St} {H : Hp} {Q : VK} (I0 : Inv X pins0 σ H s0) (w : tV X.K W p (dLcomp p keep (own.map (·.2)) δ [⟨t, fi, fs⟩]).v σ H Q) :
    tLc (tIt X.K W pi p fi) gt (tTs X.K WF (allP fs) (evIfs fs)) (tV X.K WF δ.p δ.v) (own.map (·.2)) σ H Q := by
  have run : ∀ {S S' : SS} {σ : L2.St} {Hf H : Hp} {Φ : Fp} {Fs : Nat → Fp} {v : V} {d : D} {Q : L2.St → Hp → Prop}, Rel X.K S σ Hf H Φ Fs → Fz X.K Hf v d → setT t d S = some S' →
    (∀ σ' Fs', Rel X.K S' σ' Hf H Φ Fs' → Sb ((List.range X.N.length).filter fun j => decide (j ∉ own.map (·.2))) σ σ' → Q σ' H) → gt v σ H Q := fun {S S' σ Hf H Φ Fs v d Q} R fz e q => (hg X.s_0 X.H_0 0 [] []).run hown R fz e q
  obtain ⟨S, Hf, Φ, Fs, R, o⟩ := w
  generalize hvs : own.map (·.2) = vs at *
  generalize hf : turnL keep ⟨t, fi, fs⟩ δ = f at *
  have o : Out X.K W σ p Φ Hf H ((fi S).bind fun ds S1 => (loopW vs f ds [] (wipeS S1 vs)).bind fun acc T => Tk.R.ok (OT.lst acc) (backL S1 T vs)) (fun t _ Hf' H' Fs' => ∀ v F, Ow X.K Hf' H' v t F → Off F Φ H' Fs' → Q v H') := by rw [← hf]; exact o
  refine ⟨S, Hf, Φ, Fs, R, (o.bind (q := pi) (q2 := p) (fun z => (hpp z).1) (fun z => z)).imp fun ds S1 Hf1 H1 Fs1 _ R1 k1 o1 J itok D hD => ?_⟩
  have nΦ : ¬ Φ D := fun z => R1.hΦ D z hD
  obtain ⟨Fs2, R2, sub2⟩ := R1.wipe2 vs
  have R3 : Rel X.K (wipeS S1 vs) (L2.wipe σ vs) Hf1 (upd H1 D (.lst [])) (fun b => Φ b ∨ (b = D ∨ False)) Fs2 := (R2.lay hD).frame fun b z => by
    rcases z with z | z
    · subst z
      exact ⟨nΦ, by rw [upd_same]; simp, fun j y => R2.hF j b y hD⟩
    · exact z.elim
  refine ⟨fun i m H' => m = ds.length - i ∧ i ≤ ds.length ∧ ∃ S' Hf' Fs' G xs ts, Rel X.K S' (L2.wipe σ vs) Hf' H' (fun b => Φ b ∨ (b = D ∨ G b)) Fs' ∧ H' D = some (.lst xs) ∧ Hf' D = none ∧ ¬ G D ∧ (∀ b, G b → ¬ Φ b) ∧ Ows X.K Hf' H' xs ts G ∧ Kp p Φ Hf1 H1 Hf' H' ∧ loopW vs f ds [] (wipeS S1 vs) = loopW vs f (ds.drop i) ts S',
    ⟨_, rfl, Nat.zero_le _, wipeS S1 vs, Hf1, Fs2, fun _ => False, [], [], R3, upd_same, fr0 R1.same hD, fun z => z, fun _ z => z.elim, .nil, (Kp.refl).updD hD nΦ, rfl⟩, fun i m H' ⟨hm, hle, S', Hf', Fs', G, xs, ts, R', hDx, hfD, nG, offG, ows, k', eqn⟩ => ?_⟩
  obtain ⟨stop, go⟩ := itok i Hf' H' k'.fz R'.same fun z => k'.pure z
  rw [eqn] at o1
  by_cases hl : ds.length ≤ i
  · left
    refine ⟨stop hl, ?_⟩
    rw [List.drop_eq_nil_of_le hl] at o1
    have R4 := rel_backL R1 R' k'.fz fun b z => .inl z
    refine o1 H' Hf' _ R4 k' (.ref D) (fun b => G b ∨ b = D) (.lst (G := G) hDx hfD (.inr rfl) (fun _ z => .inl z) nG ows) fun b z => ?_
    rcases z with z | z
    · exact ⟨offG b z, R'.hΦ b (.inr (.inr z)), fun j y => R'.off j b y.2 (.inr (.inr z))⟩
    · subst z
      exact ⟨nΦ, by rw [hDx]; simp, fun j y => R'.off j b y.2 (.inr (.inl rfl))⟩
  · right
    have hlt : i < ds.length := by omega
    have hd : ds[i]? = some ds[i] := List.getElem?_eq_getElem hlt
    obtain ⟨g1, y⟩ := go _ hd
    rw [List.drop_eq_getElem_cons hlt] at o1 eqn
    cases et : f ds[i] ts S' with
    | bad =>
      exfalso
      have e : loopW vs f (ds[i] :: ds.drop (i + 1)) ts S' = .bad := by show (f ds[i] ts S').bind _ = _; rw [et]; rfl
      rw [e] at o1
      exact o1
    | exc x T =>
      exfalso
      have := loop_noexc (own := vs) (keep := keep) (gd := ⟨t, fi, fs⟩) (δ := δ) [ds[i]] ts S' x T
      rw [hf] at this
      exact this (by show (f ds[i] ts S').bind _ = _; rw [et]; rfl)
    | ok ts2 T =>
      have eqn2 : loopW vs f ds [] (wipeS S1 vs) = loopW vs f (ds.drop (i + 1)) ts2 (wipeS T vs) := by
        rw [eqn]
        show (f ds[i] ts S').bind _ = _
        rw [et]
        rfl
      refine ⟨g1, fun H2 => ∃ m', m' < m ∧ (m' = ds.length - (i + 1) ∧ i + 1 ≤ ds.length ∧ ∃ S' Hf' Fs' G xs ts, Rel X.K S' (L2.wipe σ vs) Hf' H2 (fun b => Φ b ∨ (b = D ∨ G b)) Fs' ∧ H2 D = some (.lst xs) ∧ Hf' D = none ∧ ¬ G D ∧ (∀ b, G b → ¬ Φ b) ∧ Ows X.K Hf' H2 xs ts G ∧ Kp p Φ Hf1 H1 Hf' H2 ∧ loopW vs f ds [] (wipeS S1 vs) = loopW vs f (ds.drop (i + 1)) ts S'), fun _ z => z, fun x H2 hy => ?_⟩
      obtain ⟨Hf2, F, N⟩ := y x H2 hy
      rw [← hf] at et
      obtain ⟨T1, b, T2, es, eif, rest⟩ := turn_inv et
      have R4 := N.rel R'
      refine run R4 (by cases N.ow with | leaf h => exact h) es fun σ2 Fs3 R5 sb => ?_
      have hw : L2.wipe σ2 vs = L2.wipe σ vs := by
        have hl2 : σ2.length = σ.length := by
          rw [← R5.len, setT_len.1 _ _ _ _ es, R'.len, wipe_length]
        refine wipe_eq hl2 fun j hj => ?_
        by_cases hjl : j < X.N.length
        · have e := sb j (List.mem_filter.mpr ⟨List.mem_range.mpr hjl, by simpa using hj⟩)
          rw [e, L2.wipe_out hj]
        · rw [List.getElem?_eq_none (by rw [hl2, I0.len]; omega), List.getElem?_eq_none (by rw [I0.len]; omega)]
      have hw2 : L2.wipe (L2.wipe σ vs) vs = L2.wipe σ vs := wipe_eq (wipe_length σ vs) fun j hj => L2.wipe_out hj
      refine ⟨hw, T1, Hf2, _, Fs3, R5, ?_⟩
      rw [eif]
      intro H3 Hf3 Fs4 R6 k6
      have kN : Kp p (fun b => Φ b ∨ (b = D ∨ G b)) Hf' H' Hf2 H2 := N.kp R'
      have k6 : Kp p (fun b => Φ b ∨ (b = D ∨ G b)) Hf2 H2 Hf3 H3 := k6.low fun z => (hpp z).2.1
      have kA := kN.trans k6
      rcases rest with ⟨hb, u, eu, hlim, ets⟩ | ⟨hb, ets, eT⟩
      · subst hb ets
        show (if true = true then tV X.K WF δ.p δ.v σ2 H3 _ else _)
        rw [if_pos rfl]
        refine ⟨T2, Hf3, _, Fs4, R6, ?_⟩
        rw [eu]
        intro H4 Hf4 Fs5 R7 k7 yv F1 ow off
        have kB := kA.trans (k7.low fun z => (hpp z).2.2)
        obtain ⟨Hf5, F2, R8, k8, ow2, off2⟩ := keep_ow keep p R7 ow off
        have kC := kB.trans k8
        have hD4 : H4 D = some (.lst xs) := by rw [kC.keep D (.inr (.inl rfl))]; exact hDx
        refine ⟨xs, hD4, by rw [ows.length]; exact hlim, ?_⟩
        obtain ⟨Fs6, R9, sub9⟩ := R8.wipe2 vs
        rw [hw] at R9
        have hf5 : Hf5 D = none := kC.nof D (.inr (.inl rfl)) hfD
        have n2 : ¬ F2 D := fun z => (off2 D z).1 (.inr (.inl rfl))
        have R11 := (R9.updD (D := D) (o := .lst (xs ++ [yv])) (.inr (.inl rfl)) hf5).frame (F := F2) fun b z => ⟨(off2 b z).1, upd_more b (off2 b z).2.1, fun j w => (off2 b z).2.2 j (sub9 j b w)⟩
        have eΦ : (fun b => (Φ b ∨ (b = D ∨ G b)) ∨ F2 b) = fun b => Φ b ∨ (b = D ∨ (G b ∨ F2 b)) := by
          funext b
          apply propext
          constructor
          · rintro ((z | z | z) | z)
            · exact .inl z
            · exact .inr (.inl z)
            · exact .inr (.inr (.inl z))
            · exact .inr (.inr (.inr z))
          · rintro (z | z | z | z)
            · exact .inl (.inl z)
            · exact .inl (.inr (.inl z))
            · exact .inl (.inr (.inr z))
            · exact .inr z
        have R11 : Rel X.K (wipeS T vs) (L2.wipe σ vs) Hf5 (upd H4 D (.lst (xs ++ [yv]))) (fun b => Φ b ∨ (b = D ∨ (G b ∨ F2 b))) Fs6 := by rw [← eΦ]; exact R11
        refine ⟨ds.length - (i + 1), by omega, rfl, by omega, wipeS T vs, Hf5, Fs6, fun b => G b ∨ F2 b, xs ++ [yv], _, R11, upd_same, hf5, fun z => z.elim nG n2, fun b z => z.elim (offG b) fun z w => (off2 b z).1 (.inl w), ?_, (k'.trans (kC.sub fun b z => .inl z)).updD hD nΦ, eqn2⟩
        refine ows_snoc (ow2.stay ⟨Same.refl _, fun _ _ z => z, fun b o zb e => by rw [upd_ne fun q => n2 (by rw [← q]; exact zb)]; exact e⟩) (ows.stay ⟨kC.fz, fun b z => kC.nof b (.inr (.inr z)), fun b o zb e => ?_⟩) fun b z w => (off2 b w).1 (.inr (.inr z))
        rw [upd_ne fun q => nG (by rw [← q]; exact zb), kC.keep b (.inr (.inr zb))]
        exact e
      · subst hb ets eT
        show (if false = true then _ else _)
        rw [if_neg (by decide)]
        obtain ⟨Fs6, R9, sub9⟩ := R6.wipe2 vs
        rw [hw] at R9
        have hD3 : H3 D = some (.lst xs) := by rw [kA.keep D (.inr (.inl rfl))]; exact hDx
        exact ⟨ds.length - (i + 1), by omega, rfl, by omega, wipeS T vs, Hf3, Fs6, G, xs, _, R9, hD3, kA.nof D (.inr (.inl rfl)) hfD, nG, offG, ows.stay (kA.stay fun b z => .inr (.inr z)), k'.trans (kA.sub fun b z => .inl z), eqn2⟩
theorem snd_lcomp (hc : X.calm = true) (hN : X.N.Nodup) (hi : ItSnd X W p tg iter pi fi) (ok : BlkOk X.N X.env.scope scope own) (hpp : p = true → pi = true ∧ allP fs = true ∧ δ.p = true) (hown : t.free ((List.range X.N.length).filter fun j => decide (j ∉ own.map (·.2))) = true)
    (hg : ∀ (s : Shared) (H : Hp) (C : Addr) (cl : List (Str × Addr)) (fp : List Addr), TgOk (X.blk s H scope (compEnvC scope cl C X.env) fp) ((List.range X.N.length).filter fun j => decide (j ∉ own.map (·.2))) tg t gt)
    (ht : ∀ (s : Shared) (H : Hp) (C : Addr) (cl : List (Str × Addr)) (fp : List Addr), PTs (X.blk s H scope (compEnvC scope cl C X.env) fp) ifs (tTs X.K WF (allP fs) (evIfs fs)))
    (he : ∀ (s : Shared) (H : Hp) (C : Addr) (cl : List (Str × Addr)) (fp : List Addr), PE (X.blk s H scope (compEnvC scope cl C X.env) fp) elt (tV X.K WF δ.p δ.v)) (hs : ∀ x, foldedSetIterable iter X.env x = pure x) (hpt : PlainT X (.ListComp elt [⟨tg, iter, ifs, 0⟩] scope pos)) :
    Snd X W (.ListComp elt [⟨tg, iter, ifs, 0⟩] scope pos) (dLcomp p keep (own.map (·.2)) δ [⟨t, fi, fs⟩]) := by
  have hv : PE X (.ListComp elt [⟨tg, iter, ifs, 0⟩] scope pos) (tV X.K W p (dLcomp p keep (own.map (·.2)) δ [⟨t, fi, fs⟩]).v) := (pe_lc hc hN hi.pi ok (fun s H C cl fp => (hg s H C cl fp).pg) ht he hs).weakI fun pins0 s0 σ H Q I0 w => lcomp_v hN hpp hown hg I0 w
  refine snd_of hv (fun hp S => ?_) (pt_of hv hpt)
  exact bind_exc (hi.nx (hpp hp).1 S) fun ds S1 _ => bind_exc (loop_noexc _ _ _) fun _ _ _ => ok_exc _
end
end Tk
end
section
set_option linter.all false
set_option maxRecDepth 100000
set_option maxHeartbeats 4000000
/-! Defs. -/
namespace Tk
open PySem PySem.Spec PyProof.Rows L2

section
variable {K : PySem.W.Frag} {Hf H : Hp}
theorem ows_fs : ∀ {vs : List V} {ts : List OT} {A : Fp}, Ows K Hf H vs ts A → ∃ Fs : Nat → Fp, (∀ i t, ts[i]? = some t → ∃ v, vs[i]? = some v ∧ Ow K Hf H v t (Fs i)) ∧ (∀ i b, Fs i b → A b) ∧ ∀ i j b, i ≠ j → Fs i b → Fs j b → False
  | _, _, A, .nil => ⟨fun _ _ => False, fun i t h => by simp at h, fun _ _ z => z.elim, fun _ _ _ _ z => z.elim⟩
  | _, _, A, .cons (F := F1) (G := G1) h r h1 h2 h3 => by
    obtain ⟨Fs, a, b, c⟩ := ows_fs r
    refine ⟨fun i => match i with | 0 => F1 | i + 1 => Fs i, fun i t e => ?_, fun i x z => ?_, fun i j x hij z w => ?_⟩
    · cases i with
      | zero => simp at e; subst e; exact ⟨_, rfl, h⟩
      | succ i =>
        obtain ⟨v, e1, o⟩ := a i t (by simpa using e)
        exact ⟨v, by simpa using e1, o⟩
    · cases i with
      | zero => exact h1 x z
      | succ i => exact h2 x (b i x z)
    · cases i with
      | zero => cases j with
        | zero => exact hij rfl
        | succ j => exact h3 x z (b j x w)
      | succ i => cases j with
        | zero => exact h3 x w (b i x z)
        | succ j => exact c i j x (fun q => hij (by rw [q])) z w
theorem last_owo {S : SS} {σ : L2.St} {Φ : Fp} {Fs : Nat → Fp} {br : List Nat} {vs : List V} (R : Rel K S σ Hf H Φ Fs) (hv : ∀ i v, i ∈ br → vs[i]? = some v → σ[i]? = some (some v)) : ∀ (n i : Nat) (ps : List (Option OT)), lastOf S br n i = some ps → i + n = vs.length → Owo K Hf H (vs.drop i) ps fun b => ∃ j, i ≤ j ∧ Fs j b
  | 0, i, ps, e, hl => by
    cases e
    rw [List.drop_eq_nil_of_le (by omega)]
    exact .nil
  | n + 1, i, ps, e, hl => by
    have hlt : i < vs.length := by omega
    rw [List.drop_eq_getElem_cons hlt]
    have e : (if br.contains i = true then (match getS S i with | .own t => (lastOf S br n (i + 1)).map (some t :: ·) | _ => none) else (lastOf S br n (i + 1)).map (none :: ·)) = some ps := e
    split at e
    · rename_i hb
      cases eg : getS S i with
      | un => rw [eg] at e; cases e
      | own t =>
        rw [eg] at e
        obtain ⟨ps2, e2, rfl⟩ := Option.map_eq_some_iff.mp (show (lastOf S br n (i + 1)).map _ = some ps from e)
        obtain ⟨v, ev, ow⟩ := R.own i t (getS_own eg)
        rw [hv i vs[i] (List.contains_iff_mem.mp hb) (List.getElem?_eq_getElem hlt)] at ev
        cases ev
        exact .some ow (last_owo R hv n (i + 1) ps2 e2 (by omega)) (fun b z => ⟨i, Nat.le_refl _, z⟩) (fun b ⟨j, hj, z⟩ => ⟨j, by omega, z⟩) fun b z ⟨j, hj, w⟩ => R.dis i j b (by omega) z w
    · obtain ⟨ps2, e2, rfl⟩ := Option.map_eq_some_iff.mp e
      have := last_owo R hv n (i + 1) ps2 e2 (by omega)
      refine .no ?_
      have wide : ∀ {vs : List V} {ps : List (Option OT)} {B C : Fp}, Owo K Hf H vs ps B → (∀ b, B b → C b) → Owo K Hf H vs ps C := by
        intro vs ps B C o h
        induction o generalizing C with
        | nil => exact .nil
        | no _ ih => exact .no (ih h)
        | some ow o h1 h2 h3 _ => exact .some ow o (fun b z => h b (h1 b z)) (fun b z => h b (h2 b z)) h3
      exact wide this fun b ⟨j, hj, z⟩ => ⟨j, by omega, z⟩
end
/-- the slots at the beginning -/
def startS (d : Def) (ts : List OT) : SS := ts.map .own ++ List.replicate (d.ns - d.np) .un
theorem rel_start {K : PySem.W.Frag} {Hf H : Hp} {Φ A : Fp} {vs : List V} {ts : List OT} {d : Def} {N : List Str} (a : Args K Hf H Φ vs ts A) (h1 : ts.length = d.np) (h2 : d.ns = N.length) (h3 : d.np ≤ d.ns) : ∃ Fs, Rel K (startS d ts) (start N vs) Hf H Φ Fs := by
  obtain ⟨Fs, f1, f2, f3⟩ := ows_fs a.ows
  have hl := a.ows.length
  refine ⟨Fs, a.same, ?_, fun i t e => ?_, f3, fun i b z => (a.off b (f2 i b z)).1, fun i b z => (a.off b (f2 i b z)).2, a.hΦ⟩
  · unfold startS L2.start
    rw [List.length_append, List.length_append, List.length_map, List.length_map, List.length_replicate, List.length_replicate]
    omega
  · unfold startS at e
    by_cases hi : i < ts.length
    · rw [List.getElem?_append_left (by rw [List.length_map]; exact hi), List.getElem?_map] at e
      cases et : ts[i]? with
      | none => rw [et] at e; cases e
      | some u =>
        rw [et] at e
        have e : some (Sl.own u) = some (Sl.own t) := e
        obtain rfl : u = t := Sl.own.inj (Option.some.inj e)
        obtain ⟨v, ev, ow⟩ := f1 i u et
        refine ⟨v, ?_, ow⟩
        unfold L2.start
        rw [List.getElem?_append_left (by rw [List.length_map, hl]; exact hi), List.getElem?_map, ev]
        rfl
    · rw [List.getElem?_append_right (by rw [List.length_map]; omega), List.getElem?_replicate] at e
      split at e <;> cases e
section
variable {P : Program} {w : World} {K : PySem.W.Frag} {mg : Str → Option Value} {base : Heap} {x qual : Str} {params : Arguments} {body : List Stmt} {scope : Scope} {dvs : List V} {kws : List (Str × V)} {f : Addr} {fd : FuncData} {N ps : List Str} {k : Nat} {g g0 : G} {fn : Str} {d : Def}
theorem fn_ok (F : FunD K x qual params body scope dvs kws f fd) (Sc : FnScope N ps scope) (hfn : ∀ ts, g.fn fn ts = runD g0 d ts) (hnp : d.np = ps.length) (hns : d.ns = N.length) (hle : d.np ≤ d.ns)
    (hb : ∀ (cdv : Value) (A : Around) (outer : List Env) (s : Shared) (H : Hp) (E : XK), Room k (A.deeper (envOfC qual scope s.heap.objs.size f cdv)) → StsOk (cxOf (L2.CX P w) P w K mg base N qual scope f cdv A outer s H E) (fun cls d _ H' => E cls d H') d.br body (dS g0 d.br d.body)) :
    FnOk P w K mg base (L2.CX P w) (k + 1) f fd ps (spOf K g fn ps.length) := by
  refine F.ok Sc (fun vs H Q E h => h.1) fun cdv A outer s H vs Q E hr h => ⟨_, (hb cdv A outer s H E hr).ps, ?_⟩
  obtain ⟨hl, Hf, Φ, ts, Ar, a, m⟩ := h
  have hlt := a.ows.length
  have ht : ts.length = d.np := by rw [← hlt, hl, hnp]
  obtain ⟨Fs, R⟩ := rel_start (N := N) a ht hns hle
  rw [hfn ts] at m
  unfold runD at m
  rw [if_pos ht] at m
  refine ⟨startS d ts, Hf, Φ, Fs, R, ?_⟩
  -- what was lent, at the end
  have hv : ∀ {σ' : L2.St}, Sb d.br (start N vs) σ' → ∀ i v, i ∈ d.br → vs[i]? = some v → σ'[i]? = some (some v) := fun {σ'} sb i v hi e => by
    rw [sb i hi]
    have hil : i < vs.length := by
      cases Nat.lt_or_ge i vs.length with
      | inl z => exact z
      | inr z => rw [List.getElem?_eq_none z] at e; cases e
    unfold L2.start
    rw [List.getElem?_append_left (by rw [List.length_map]; exact hil), List.getElem?_map, e]
    rfl
  have rt : ∀ {S' : SS} {σ' : L2.St} {H' Hf' : Hp} {Fs' : Nat → Fp} {ps' : List (Option OT)}, Rel K S' σ' Hf' H' Φ Fs' → Kp false Φ Hf H Hf' H' → Sb d.br (start N vs) σ' → lastOf S' d.br d.np 0 = some ps' → Ret K Φ Hf H vs Hf' H' ps' fun b => ∃ j, 0 ≤ j ∧ Fs' j b := fun {S' σ' H' Hf' Fs' ps'} R' k' sb e =>
    ⟨R'.same, k', by
      have := last_owo R' (hv sb) d.np 0 ps' e (by rw [hl, hnp]; omega)
      rwa [List.drop_zero] at this, fun b ⟨j, _, z⟩ => ⟨R'.off j b z, R'.hF j b z⟩⟩
  show FOut K _ d.br (start N vs) Φ Hf H (dS g0 d.br d.body (startS d ts)) _
  have m : match (match dS g0 d.br d.body (startS d ts) with
    | .nx S => (match lastOf S d.br d.np 0 with | some ps => FR.ok (.leaf .non) ps | none => .bad)
    | .ret t S => (match lastOf S d.br d.np 0 with | some ps => .ok t ps | none => .bad)
    | .exc x S => (match lastOf S d.br d.np 0 with | some ps => .exc x ps | none => .bad)
    | _ => .bad) with
    | .ok t ps => ∀ v Hf' H' F B, Ret K Φ Hf H vs Hf' H' ps B → Ow K Hf' H' v t F → (∀ b, F b → ¬ Φ b ∧ H' b ≠ none ∧ ¬ B b) → Q v H'
    | .exc x ps => ∀ cls d Hf' H' B, Ret K Φ Hf H vs Hf' H' ps B → Exn K Hf' x cls d → E cls d H'
    | .bad => False := m
  cases er : dS g0 d.br d.body (startS d ts) with
  | nx S' =>
    rw [er] at m
    intro σ' H' Hf' Fs' R' k' sb
    cases el : lastOf S' d.br d.np 0 with
    | none => simp only [el] at m
    | some ps' =>
      simp only [el] at m
      exact m .non Hf' H' (fun _ => False) _ (rt R' k' sb el) (.leaf .non) fun _ z => z.elim
  | ret t S' =>
    rw [er] at m
    intro v σ' H' Hf' Fs' F' R' k' sb ow off
    cases el : lastOf S' d.br d.np 0 with
    | none => simp only [el] at m
    | some ps' =>
      simp only [el] at m
      exact m v Hf' H' F' _ (rt R' k' sb el) ow fun b z => ⟨(off b z).1, (off b z).2.1, fun ⟨j, _, y⟩ => (off b z).2.2 j y⟩
  | exc y S' =>
    rw [er] at m
    intro cls dd σ' H' Hf' Fs' R' k' sb ex
    cases el : lastOf S' d.br d.np 0 with
    | none => simp only [el] at m
    | some ps' =>
      simp only [el] at m
      exact m cls dd Hf' H' _ (rt R' k' sb el) ex
  | brk S' => rw [er] at m; exact m.elim
  | cnt S' => rw [er] at m; exact m.elim
  | bad => rw [er] at m; exact m.elim
end
end Tk
end
section
set_option linter.all false
set_option maxRecDepth 100000
set_option maxHeartbeats 4000000
/-! f-strings; d.get(k, x); raise. -/
namespace Tk
open PySem PySem.Spec PyProof.Rows L2

section
variable {X : Cx} {W : WX} {g : G} {pos : Pos}
/-- parts of an f-string -/
inductive FPs (X : Cx) (W : WX) : List Expr → List Den → Prop
  | nil : FPs X W [] []
  | txt {x : Str} {j : Nat} {p : Pos} {es ds} : FPs X W es ds → FPs X W (.Constant (.str x) j p :: es) (denC (.str x) :: ds)
  | fmt {e : Expr} {δ : Den} {p : Pos} {es ds} : Snd X W e δ → FPs X W es ds → FPs X W (.FormattedValue e (-1) none p :: es) (δ :: ds)
/-- the readings of the parts -/
def fts (K : PySem.W.Frag) (W : WX) (pu : Bool) : List Expr → List Den → List TE
  | .Constant (.str x) _ _ :: es, _ :: ds => tC (.str x) :: fts K W pu es ds
  | _ :: es, δ :: ds => tFmt (tQ K W δ.p pu false (evQ pu false δ)) :: fts K W pu es ds
  | _, _ => []
theorem pj_of {pu : Bool} {es : List Expr} {ds : List Den} (h : FPs X W es ds) : PJ X es (fts X.K W pu es ds) := by
  induction h with
  | nil => exact .nil
  | txt _ ih => exact .cons pe_str ih
  | fmt h _ ih => exact .cons (pe_fmt (h.q pu false)) ih
theorem fstr_run {pu p : Bool} {es : List Expr} {ds : List Den} (h : FPs X W es ds) (hp : p = true → allP ds = true) : ∀ (acc : Str) {σ : L2.St} {Hf H : Hp} {Φ : Fp} {Fs : Nat → Fp} {S : SS} {Q : VK}, Rel X.K S σ Hf H Φ Fs →
    Out X.K W σ p Φ Hf H (evF pu acc ds S) (fun t _ Hf' H' Fs' => ∀ v F, Ow X.K Hf' H' v t F → Off F Φ H' Fs' → Q v H') → tJs (fts X.K W pu es ds) acc σ H fun out H1 => Q (.str out) H1 := by
  induction h with
  | nil =>
    intro acc σ Hf H Φ Fs S Q R o
    exact o H Hf Fs R Kp.refl (.str acc) (fun _ => False) (.leaf .str) fun _ z => z.elim
  | txt r ih =>
    rename_i x j p0 es ds
    intro acc σ Hf H Φ Fs S Q R o
    have e : evQ pu false (denC (.str x)) S = .ok (.str x) S := by cases pu <;> rfl
    have o : Out X.K W σ p Φ Hf H ((evQ pu false (denC (.str x)) S).bind fun d S1 => (Tk.R.opt S1 ((fmt1 d).bind fun y => if y.cps.size ≤ lim ∧ acc.cps.size + y.cps.size ≤ lim then some y else none)).bind fun y S1 => evF pu ⟨acc.cps ++ y.cps⟩ ds S1) _ := o
    rw [e] at o
    have o : Out X.K W σ p Φ Hf H ((Tk.R.opt S (if x.cps.size ≤ lim ∧ acc.cps.size + x.cps.size ≤ lim then some x else none)).bind fun y S1 => evF pu ⟨acc.cps ++ y.cps⟩ ds S1) _ := o
    split at o
    · rename_i hl
      refine ⟨x, rfl, ?_, ih (fun z => (allP_cons (hp z)).2) ⟨acc.cps ++ x.cps⟩ R o⟩
      show (acc.cps ++ x.cps).size ≤ _
      rw [Array.size_append]
      exact hl.2
    · exact o.elim
  | fmt h r ih =>
    rename_i e δ p0 es ds
    intro acc σ Hf H Φ Fs S Q R o
    have o : Out X.K W σ p Φ Hf H ((evQ pu false δ S).bind fun d S1 => (Tk.R.opt S1 ((fmt1 d).bind fun y => if y.cps.size ≤ lim ∧ acc.cps.size + y.cps.size ≤ lim then some y else none)).bind fun y S1 => evF pu ⟨acc.cps ++ y.cps⟩ ds S1) _ := o
    refine ⟨S, Hf, Φ, Fs, R, (o.bind (q := δ.p) (q2 := p) (fun z => (allP_cons (hp z)).1) id).imp fun d S1 Hf1 H1 Fs1 _ R1 k1 o1 v pk => ?_⟩
    have fz := Pk.all R1.same (pk.pk R1.same)
    cases ef : fmt1 d with
    | none => rw [ef] at o1; exact o1.elim
    | some y =>
      rw [ef] at o1
      have o1 : Out X.K W σ p Φ Hf1 H1 ((Tk.R.opt S1 (if y.cps.size ≤ lim ∧ acc.cps.size + y.cps.size ≤ lim then some y else none)).bind fun y S1 => evF pu ⟨acc.cps ++ y.cps⟩ ds S1) _ := o1
      split at o1
      · rename_i hl
        have fin : ∃ y2 : Str, V.str y = .str y2 ∧ (acc ++ y2).length ≤ sizeLine ∧ tJs (fts X.K W pu es ds) (acc ++ y2) σ H1 fun out H1 => Q (.str out) H1 := by
          refine ⟨y, rfl, ?_, ih (fun z => (allP_cons (hp z)).2) ⟨acc.cps ++ y.cps⟩ R1 o1⟩
          show (acc.cps ++ y.cps).size ≤ _
          rw [Array.size_append]
          exact hl.2
        cases d with
        | str x =>
          cases ef
          cases fz
          exact .inl ⟨y, rfl, hl.1, fin⟩
        | int i =>
          have ef : (if i.natAbs.log2 < 1920 then some (strN i) else none) = some y := ef
          split at ef
          · rename_i h9
            cases ef
            cases fz
            exact .inr ⟨i, rfl, h9, fin⟩
          · cases ef
        | _ => cases ef
      · exact o1.elim
theorem nx_f {pu : Bool} {es : List Expr} {ds : List Den} (h : FPs X W es ds) : allP ds = true → ∀ (acc : Str) S x S', evF pu acc ds S ≠ .exc x S' := by
  induction h with
  | nil => intro _ acc S; exact ok_exc _
  | txt r ih =>
    rename_i y j p0 es ds
    intro hp acc S
    have e : evQ pu false (denC (.str y)) S = .ok (.str y) S := by cases pu <;> rfl
    exact bind_exc (by rw [e]; exact ok_exc _) fun _ _ _ => bind_exc (opt_exc _) fun _ _ _ => ih (allP_cons hp).2 _ _
  | fmt h r ih =>
    intro hp acc S
    exact bind_exc (evQ_exc h (allP_cons hp).1 S) fun _ _ _ => bind_exc (opt_exc _) fun _ _ _ => ih (allP_cons hp).2 _ _
theorem snd_fstr {e1 e2 : Expr} {es : List Expr} {ds : List Den} (h : FPs X W (e1 :: e2 :: es) ds) (ht : PlainT X (.JoinedStr (e1 :: e2 :: es) pos)) : Snd X W (.JoinedStr (e1 :: e2 :: es) pos) (dFstr ds) := by
  have hv : PE X (.JoinedStr (e1 :: e2 :: es) pos) (tV X.K W (allP ds) (evF (allP ds) ⟨#[]⟩ ds)) := (pe_joined (pj_of (pu := allP ds) h)).weak fun σ H Q ⟨S, Hf, Φ, Fs, R, o⟩ => fstr_run h id ⟨#[]⟩ R o
  exact snd_of hv (fun hp S => nx_f h hp _ S) (pt_of hv ht)
/-- raise C('text') -/
theorem st_raise {x m : Str} {j : Nat} {p p2 p3 : Pos} {br : List Nat} {c : Str} {B newId initId : String} {bmB : List Value} (hc : X.calm = true) (tk : Takes X W) (F : ExcBaseFacts B newId initId bmB) (q : PySem.W.excIn X.K (He.ga X.K c) bmB newId = true) (gC : X.mg x = some (.ref (He.ga X.K c)))
    (kC : PySem.W.keepIn X.K (.ref (He.ga X.K c)) = true) (r : Raises X (.ref (He.ga X.K c))) (hg : Gl X x) (hd : (x == ("__debug__" : Str)) = false) :
    StOk X W br (.Raise (some (.Call (.Name x p) [.Constant (.str m) j p2] [] p3)) none pos) fun S => .exc (.exn c [] [.str m]) S :=
  ⟨(ps_raise hc tk (pmk_own F q gC kC r hg hd)).weak fun D σ H ⟨S, Hf, Φ, Fs, R, o⟩ => o _ none σ H Hf Fs R Kp.refl Sb.refl .plain⟩
end
end Tk
end
section
set_option linter.all false
set_option maxRecDepth 100000
set_option maxHeartbeats 4000000
/-! Methods of instances. -/
namespace Tk
open PySem PySem.Spec PyProof.Rows L2

section
variable {X : Cx} {W : WX} {g : G} {o e : Expr} {es : List Expr} {ds : List Den} {δ : Den} {m : Str} {apos pos : Pos} {C f : Addr} {fd : FuncData} {ps : List Str} {k n : Nat} {c : Str} {i : Nat}
def tMw (C : Addr) (m : Str) (sp : L2.Sp) (W : WX) (ta : TE) (t : TA) : TE := fun σ H Q => ta σ H fun x H1 => ∃ a dx fs, x = .ref a ∧ H1 a = some (.ins C dx fs) ∧ fs.lookup m = none ∧ t σ H1 fun vs H2 => sp (x :: vs) H2 Q (WE W σ)
theorem pe_mw {pl : Sem Bool} {sp : L2.Sp} {ta : TE} {t : TA} (ho : PE X o ta) (cc : Cls X.K C) (hm : Meth X.K C m f) (F : FnOk X.prog X.w X.K X.mg X.base (L2.CX X.prog X.w) k f fd ps sp) (hr : Room k X.A) (hb : Binds X.K fd ps []) (tk : Takes X W) (ha : PA X (e :: es) t)
    (hst : starEach (e :: es) X.env = (false, eval e X.env) :: starEach es X.env) (hpl : (backTo pos (starEach es X.env)).any (·.1) = false)
    (ht : eval (.Call (.Attribute o m apos) (e :: es) [] pos) X.env = (do
      let ov ← eval o X.env
      standAt apos.atName
      let (f, first) ← holding [ov] (getMethod ov m pl)
      callWith pos f first (backTo pos (starEach (e :: es) X.env)) (backToKw pos (keywordEach [] X.env)))) : PE X (.Call (.Attribute o m apos) (e :: es) [] pos) (tMw C m sp W ta t) := by
  refine ⟨fun pins s σ H Q I w => PySem.W.methodCall_KW (pl := pl) (thn (ho.run pins s σ H _ I w) fun u s1 ⟨x, H1, I1, rx, a, dx, fs, ex, ea, l, q⟩ => ?_) ht⟩
  subst ex
  obtain rfl : u = Value.ref a := rx
  refine getmeth_ok I1 ea cc hm l (PySem.W.callWith_K (h₀ := X.base) (first := [.ref a]) I1.ok.mod.kin hm.kp ?_ hst hpl)
  refine thn (ha.run pos pins s1 σ H1 _ I1 q) fun us s2 ⟨vs, H2, I2, r, q2⟩ => ⟨I2.kIn, run_fnSD (ds := []) (dvs := []) (E := WE W) (us := .ref a :: us) (vs := .ref a :: vs) F hr hb .nil (passAt tk σ) I2 (.cons rfl r) ?_⟩
  rw [List.append_nil]
  exact q2
theorem lookup_none {fs : List (Str × V)} (h : m ∉ fs.map (·.1)) : fs.lookup m = none := by
  induction fs with
  | nil => rfl
  | cons p fs ih =>
    have h1 : m ≠ p.1 ∧ m ∉ fs.map (·.1) := by simpa using h
    rw [List.lookup_cons]
    have : (m == p.1) = false := by simpa using h1.1
    rw [this]
    exact ih h1.2
theorem recv_ins {Hf H : Hp} (same : Same Hf H) {v : V} {t : OT} {F : Fp} (ow : Ow X.K Hf H v t F) (h : recvOk c m t = true) : ∃ a dx fs, v = .ref a ∧ H a = some (.ins (He.ga X.K c) dx fs) ∧ fs.lookup m = none := by
  cases ow with
  | leaf fz =>
    cases fz with
    | ins h1 h2 z q r =>
      have h9 : (decide (_ = c) && !List.contains _ m) = true := h
      simp only [Bool.and_eq_true, decide_eq_true_eq, Bool.not_eq_true'] at h9
      obtain ⟨rfl, h8⟩ := h9
      subst q
      exact ⟨_, _, _, rfl, same _ _ h1, lookup_none fun z => by rw [List.contains_iff_mem.mpr z] at h8; cases h8⟩
    | _ => cases h
  | ins h1 _ _ _ _ _ _ _ _ z q r =>
    have h9 : (decide (_ = c) && !List.contains _ m) = true := h
    simp only [Bool.and_eq_true, decide_eq_true_eq, Bool.not_eq_true'] at h9
    obtain ⟨rfl, h8⟩ := h9
    subst q
    exact ⟨_, _, _, rfl, h1, lookup_none fun z => by rw [List.contains_iff_mem.mpr z] at h8; cases h8⟩
  | _ => cases h
/-- x.m(..), x lent -/
theorem snd_methB {x : Str} {p0 : Pos} {pl : Sem Bool} (hi : X.N[i]? = some x) (hv : Vis X.env.scope x) (hd : (x == ("__debug__" : Str)) = false) (hcd : (x == ("__classdict__" : Str)) = false) (cc : Cls X.K (He.ga X.K c)) (hm : Meth X.K (He.ga X.K c) m f)
    (F : FnOk X.prog X.w X.K X.mg X.base (L2.CX X.prog X.w) k f fd ps (spOf X.K g (methName c m) n)) (hr : Room k X.A) (hb : Binds X.K fd ps []) (hn : ∀ ts, g.fn (methName c m) ts ≠ .bad → ts.length = n) (tk : Takes X W) (row : RowOk X W false (e :: es) ds)
    (hst : starEach (e :: es) X.env = (false, eval e X.env) :: starEach es X.env) (hpl : (backTo pos (starEach es X.env)).any (·.1) = false) (hpt : PlainT X (.Call (.Attribute (.Name x p0) m apos) (e :: es) [] pos))
    (ht : eval (.Call (.Attribute (.Name x p0) m apos) (e :: es) [] pos) X.env = (do
      let ov ← eval (.Name x p0) X.env
      standAt apos.atName
      let (f, first) ← holding [ov] (getMethod ov m pl)
      callWith pos f first (backTo pos (starEach (e :: es) X.env)) (backToKw pos (keywordEach [] X.env)))) :
    Snd X W (.Call (.Attribute (.Name x p0) m apos) (e :: es) [] pos) (dMeth g c m { Den.of false vBad with k := .lent i (fun S => .ok [] S) } ds) := by
  have hv' : PE X (.Call (.Attribute (.Name x p0) m apos) (e :: es) [] pos) (tV X.K W false (dMeth g c m { Den.of false vBad with k := .lent i (fun S => .ok [] S) } ds).v) := (pe_mw (pe_var hi hv hd hcd) cc hm F hr hb tk row.pa hst hpl ht).weak fun σ H Q ⟨S, Hf, Φ, Fs, R, o⟩ => by
    have o : Out X.K W σ false Φ Hf H (match getS S i with
      | .own t => if recvOk c m t then (evAs ds S).bind fun vs S1 => doCall g (methName c m) (.bor i [] :: vs) S1 else .bad
      | .un => .bad) (fun t _ Hf' H' Fs' => ∀ v F, Ow X.K Hf' H' v t F → Off F Φ H' Fs' → Q v H') := o
    cases eg : getS S i with
    | un => rw [eg] at o; exact o.elim
    | own t =>
      rw [eg] at o
      have o2 : Out X.K W σ false Φ Hf H (if recvOk c m t then (evAs ds S).bind fun vs S1 => doCall g (methName c m) (.bor i [] :: vs) S1 else .bad) (fun t _ Hf' H' Fs' => ∀ v F, Ow X.K Hf' H' v t F → Off F Φ H' Fs' → Q v H') := o
      clear o
      obtain ⟨v, ev, ow⟩ := R.own i t (getS_own eg)
      refine ⟨v, ev, ?_⟩
      split at o2
      · rename_i hk
        obtain ⟨a, dx, fs, rfl, ha, hl⟩ := recv_ins R.same ow hk
        refine ⟨a, dx, fs, rfl, ha, hl, S, Hf, Φ, Fs, R, ?_⟩
        have o3 : Out X.K W σ false Φ Hf H (((evA false ds S).bind fun r S1 => Tk.R.opt S1 (spreadA r)).bind fun vs S1 => doCall g (methName c m) (.bor i [] :: vs) S1) (fun t _ Hf' H' Fs' => ∀ v F, Ow X.K Hf' H' v t F → Off F Φ H' Fs' → Q v H') := o2
        refine ((o3.bind (q := false) (q2 := false) id id).bind (q := allP ds) (q2 := false) (fun z => nomatch z) id).imp fun r S1 Hf1 H1 Fs1 _ R1 k1 o1 vs F row off => ?_
        cases e1 : spreadA r with
        | none => rw [e1] at o1; exact o1.elim
        | some as =>
          rw [e1] at o1
          exact call_out R1 (.bor ev (row_A row e1)) off hn (Out.ok (show Out X.K W σ false Φ Hf1 H1 (.ok as S1) _ from o1) R1)
      · exact o2.elim
  exact snd_of hv' (fun z => nomatch z) (pt_of hv' hpt)
end
end Tk
end
section
set_option linter.all false
set_option maxRecDepth 100000
set_option maxHeartbeats 4000000
/-! Instances that are made. -/
namespace Tk
open PySem PySem.Spec PyProof.Rows L2

section
variable {X : Cx} {W : WX} {g : G} {e : Expr} {es : List Expr} {ds : List Den} {x : Str} {p0 pos : Pos} {C f : Addr} {fd : FuncData} {ps : List Str} {k n : Nat} {c : Str} {sp : L2.Sp} {t : TA}
theorem run_mkw {pins : List (Addr × Obj)} {σ : L2.St} {H : Hp} {s : Shared} {Q : VK} {us : List Value} {vs : List V} (M : Mk X.K C f) (F : FnOk X.prog X.w X.K X.mg X.base (L2.CX X.prog X.w) k f fd ps sp) (hr : Room (k + 1) X.A) (hb : Binds X.K fd ps []) (tk : Takes X W)
    (I : Inv X pins σ H s) (r : Vals vs us) (h : ∀ a dx, H a = none → H dx = none → dx ≠ a → sp (.ref a :: vs) (upd (upd H dx (.own a)) a (.ins C dx [])) (fun v H2 => v = .non ∧ Q (.ref a) H2) (WE W σ)) : wpAny (model X.prog X.w) X.A (call (.ref C) us) (EP X pins σ Q) X.xe s := by
  have made := Inv.made (C := C) I
  have pre := h (s.heap.objs.size + 1) s.heap.objs.size (I.hok.fresh (Nat.le_succ _)) (I.hok.fresh (Nat.le_refl _)) (Nat.ne_of_lt (Nat.lt_succ_self _))
  have rel : Vals (V.ref (s.heap.objs.size + 1) :: vs) (Value.ref (s.heap.objs.size + 1) :: us) := .cons rfl r
  have hlen : (Value.ref (s.heap.objs.size + 1) :: us).length = ps.length := by rw [← rel.length]; exact F.len _ _ _ _ pre
  have bind := hb _ (Value.ref (s.heap.objs.size + 1) :: us) made.kIn (by simpa using hlen)
  rw [List.append_nil] at bind
  refine wpAny_call (make_map (f := f) I.kIn M.makes M.init (beq_iff_eq.mp M.fn) (codeAny_mono (F.run _ X.stack _ _ _ _ _ _ _ (hr.make C us []) (made.env0.make C us []) bind rel pre) fun res s' out => ?_))
  cases res with
  | error er => exact passAt tk σ pins _ _ er s' made out
  | ok fl =>
    cases fl with
    | ret u =>
      obtain ⟨v, H', I3, rv, ev, q3⟩ := made.after out
      subst ev
      exact ⟨rv, ⟨V.ref (s.heap.objs.size + 1), H', I3, rfl, q3⟩⟩
    | next => exact False.elim out
    | brk => exact False.elim out
    | cont => exact False.elim out
def tMkw (C : Addr) (sp : L2.Sp) (W : WX) (t : TA) : TE := fun σ H Q => t σ H fun vs H1 => ∀ a dx, H1 a = none → H1 dx = none → dx ≠ a → sp (.ref a :: vs) (upd (upd H1 dx (.own a)) a (.ins C dx [])) (fun v H2 => v = .non ∧ Q (.ref a) H2) (WE W σ)
theorem pe_mkw (M : Mk X.K C f) (F : FnOk X.prog X.w X.K X.mg X.base (L2.CX X.prog X.w) k f fd ps sp) (hr : Room (k + 1) X.A) (hg : Gl X x) (hm : X.mg x = some (.ref C)) (hb : Binds X.K fd ps []) (tk : Takes X W) (ha : PA X (e :: es) t) (hd : (x == ("__debug__" : Str)) = false)
    (he : starEach (e :: es) X.env = (false, eval e X.env) :: starEach es X.env) (hpl : (backTo pos (starEach es X.env)).any (·.1) = false) : PE X (.Call (.Name x p0) (e :: es) [] pos) (tMkw C sp W t) :=
  ⟨fun pins s σ H Q I w => wpAny_Call_Name_kw (ld_glob I hg hm (PySem.W.callWith_K (h₀ := X.base) I.ok.mod.kin M.kp (thn (ha.run pos pins s σ H _ I w) fun us s1 ⟨vs, H1, I1, r, q⟩ => ⟨I1.kIn, run_mkw M F hr hb tk I1 r q⟩) he hpl) hd)⟩
theorem new_out {σ : L2.St} {Hf H : Hp} {Φ : Fp} {Fs : Nat → Fp} {S : SS} {as : List AV} {vs : List V} {F : Fp} {Q : VK} {a dx : Addr} (R : Rel X.K S σ Hf H Φ Fs) (row : RowA X.K Hf H σ as vs F) (off : Off F Φ H Fs) (hn : ∀ ts, g.fn (methName c initName) ts ≠ .bad → ts.length = n) (cc : Cls X.K (He.ga X.K c))
    (ha : H a = none) (hdx : H dx = none) (hne : dx ≠ a) (o : Out X.K W σ false Φ Hf H (doNew g c as S) fun t _ Hf' H' Fs' => ∀ v F, Ow X.K Hf' H' v t F → Off F Φ H' Fs' → Q v H') :
    spOf X.K g (methName c initName) n (.ref a :: vs) (upd (upd H dx (.own a)) a (.ins (He.ga X.K c) dx [])) (fun v H2 => v = .non ∧ Q (.ref a) H2) (WE W σ) := by
  unfold doNew at o
  by_cases hd : lentTwice as = true
  · rw [if_pos hd] at o; exact o.elim
  · rw [if_neg hd] at o
    have nd : (lents as).Nodup := by
      unfold lentTwice at hd
      simpa using hd
    cases el : lend S as with
    | none => rw [el] at o; exact o.elim
    | some ts =>
      rw [el] at o
      have ha2 : upd H dx (.own a) a = none := by rw [upd_ne fun z => hne z.symm]; exact ha
      have R2 : Rel X.K S σ Hf (upd (upd H dx (.own a)) a (.ins (He.ga X.K c) dx [])) Φ Fs := (R.lay hdx).lay ha2
      have k2 : Kp false Φ Hf H Hf (upd (upd H dx (.own a)) a (.ins (He.ga X.K c) dx [])) := (Kp.lay R hdx).trans (Kp.lay (R.lay hdx) ha2)
      have ows := (lend_ows R row (fun b z => (off b z).2.2) nd el).stay (stay_lay (o := .own a) hdx) |>.stay (stay_lay (o := .ins (He.ga X.K c) dx []) ha2)
      have hin := lend_in el
      have none_of : ∀ b, b = a ∨ b = dx → H b = none := fun b z => by rcases z with rfl | rfl <;> assumption
      have tailH : ∀ b, (F b ∨ ∃ i, i ∈ lents as ∧ Fs i b) → H b ≠ none := fun b z => by
        rcases z with z | ⟨i, _, z⟩
        · exact (off b z).2.1
        · exact R.hF i b z
      have owi : Ow X.K Hf (upd (upd H dx (.own a)) a (.ins (He.ga X.K c) dx [])) (.ref a) (.ins c [] []) (fun b => b = a ∨ b = dx) :=
        .ins (G := fun _ => False) upd_same (by rw [upd_ne hne, upd_same]) (fr0 R.same ha) (fr0 R.same hdx) (.inl rfl) (.inr rfl) (fun _ z => z.elim) (fun z => z) (fun z => z) ⟨cc, fun _ h => nomatch h⟩ rfl .nil
      have o : Out X.K W σ false Φ Hf H (match g.fn (methName c initName) (.ins c [] [] :: ts) with
        | .ok (.leaf .non) (some o :: ps) => match giveBack S as ps with
          | some S' => .ok o S'
          | none => .bad
        | .exc x (_ :: ps) => match giveBack S as ps with
          | some S' => .exc x S'
          | none => .bad
        | _ => .bad) (fun t _ Hf' H' Fs' => ∀ v F, Ow X.K Hf' H' v t F → Off F Φ H' Fs' → Q v H') := o
      have hnb : g.fn (methName c initName) (.ins c [] [] :: ts) ≠ .bad := fun z => by rw [z] at o; exact o
      have hl2 := hn _ hnb
      refine ⟨by rw [List.length_cons, (show vs.length = ts.length from ows.length)]; exact hl2, Hf, fun b => Φ b ∨ ∃ j, j ∉ lents as ∧ Fs j b, _, fun b => (b = a ∨ b = dx) ∨ (F b ∨ ∃ i, i ∈ lents as ∧ Fs i b), ⟨R2.same, .cons owi ows (fun _ z => .inl z) (fun _ z => .inr z) fun b z w => tailH b w (none_of b z), fun b z => ?_, fun b z => ?_⟩, ?_⟩
      · rcases z with z | z | ⟨i, hi, z⟩
        · refine ⟨fun y => ?_, ?_⟩
          · rcases y with y | ⟨j, _, y⟩
            · exact R.hΦ b y (none_of b z)
            · exact R.hF j b y (none_of b z)
          · rcases z with rfl | rfl
            · rw [upd_same]; simp
            · rw [upd_ne hne, upd_same]; simp
        · refine ⟨fun y => ?_, upd_more b (upd_more b (off b z).2.1)⟩
          rcases y with y | ⟨j, _, y⟩
          · exact (off b z).1 y
          · exact (off b z).2.2 j y
        · refine ⟨fun y => ?_, upd_more b (upd_more b (R.hF i b z))⟩
          rcases y with y | ⟨j, hj, y⟩
          · exact R.off i b z y
          · exact R.dis i j b (fun q => hj (by rw [← q]; exact hi)) z y
      · rcases z with z | ⟨j, _, z⟩
        · exact upd_more b (upd_more b (R.hΦ b z))
        · exact upd_more b (upd_more b (R.hF j b z))
      · -- the frame's way from the heap ahead
        have kf : ∀ {Hf' H' : Hp}, Kp false (fun b => Φ b ∨ ∃ j, j ∉ lents as ∧ Fs j b) Hf (upd (upd H dx (.own a)) a (.ins (He.ga X.K c) dx [])) Hf' H' → Kp false (fun b => Φ b ∨ ∃ j, j ∉ lents as ∧ Fs j b) Hf H Hf' H' := fun {Hf' H'} k => by
          refine Kp.trans ⟨Same.refl _, fun b z => ?_, fun _ _ z => z, fun b z => upd_more b (upd_more b z), fun z => nomatch z⟩ k
          have hb : H b ≠ none := by
            rcases z with z | ⟨j, _, z⟩
            · exact R.hΦ b z
            · exact R.hF j b z
          rw [upd_ne fun q => hb (by rw [q]; exact ha), upd_ne fun q => hb (by rw [q]; exact hdx)]
        cases eg : g.fn (methName c initName) (.ins c [] [] :: ts) with
        | bad => exact hnb eg
        | ok t ps =>
          rw [eg] at o
          intro v Hf' H' F' B r ow hF'
          cases r.owo with
          | no _ => exfalso; revert o; cases t <;> (try (intro o; exact o)) <;> (rename_i d; cases d <;> (intro o; exact o))
          | some ow1 owr h1 h2 h3 =>
            rename_i o1 ps1 F1 G1
            have et : t = .leaf .non := by
              revert o
              cases t <;> (try (intro o; exact o.elim)) <;> (rename_i d; cases d <;> (intro o; first | rfl | exact o.elim))
            subst et
            have ev : v = .non := by cases ow with | leaf h => cases h; rfl
            refine ⟨ev, ?_⟩
            have o : Out X.K W σ false Φ Hf H (match giveBack S as ps1 with
              | some S' => .ok o1 S'
              | none => .bad) (fun t _ Hf' H' Fs' => ∀ v F, Ow X.K Hf' H' v t F → Off F Φ H' Fs' → Q v H') := o
            cases eb : giveBack S as ps1 with
            | none => rw [eb] at o; exact o.elim
            | some S' =>
              rw [eb] at o
              obtain ⟨Fs2, Rb, sub⟩ := rel_back R row nd hin ⟨r.same, kf r.kp, owr, fun b z => r.off b (h2 b z)⟩ eb
              refine o H' Hf' Fs2 Rb ((kf r.kp).sub fun b z => .inl z) (.ref a) F1 ow1 fun b z => ⟨fun y => (r.off b (h1 b z)).1 (.inl y), (r.off b (h1 b z)).2, fun j y => ?_⟩
              rcases sub j b y with ⟨hj, y⟩ | y
              · exact (r.off b (h1 b z)).1 (.inr ⟨j, hj, y⟩)
              · exact h3 b z y
        | exc y ps =>
          rw [eg] at o
          intro cls d Hf' H' B r ex
          cases r.owo with
          | no owr =>
            rename_i ps1
            have o : Out X.K W σ false Φ Hf H (match giveBack S as ps1 with
              | some S' => .exc y S'
              | none => .bad) (fun t _ Hf' H' Fs' => ∀ v F, Ow X.K Hf' H' v t F → Off F Φ H' Fs' → Q v H') := o
            cases eb : giveBack S as ps1 with
            | none => rw [eb] at o; exact o.elim
            | some S' =>
              rw [eb] at o
              obtain ⟨Fs2, Rb, _⟩ := rel_back R row nd hin ⟨r.same, kf r.kp, owr, r.off⟩ eb
              exact o cls d H' Hf' Fs2 Rb ((kf r.kp).sub fun b z => .inl z) ex
          | some ow1 owr h1 h2 h3 =>
            rename_i o1 ps1 F1 G1
            have o : Out X.K W σ false Φ Hf H (match giveBack S as ps1 with
              | some S' => .exc y S'
              | none => .bad) (fun t _ Hf' H' Fs' => ∀ v F, Ow X.K Hf' H' v t F → Off F Φ H' Fs' → Q v H') := o
            cases eb : giveBack S as ps1 with
            | none => rw [eb] at o; exact o.elim
            | some S' =>
              rw [eb] at o
              obtain ⟨Fs2, Rb, _⟩ := rel_back R row nd hin ⟨r.same, kf r.kp, owr, fun b z => r.off b (h2 b z)⟩ eb
              exact o cls d H' Hf' Fs2 Rb ((kf r.kp).sub fun b z => .inl z) ex
theorem snd_new {frz : Bool} (M : Mk X.K (He.ga X.K c) f) (cc : Cls X.K (He.ga X.K c)) (F : FnOk X.prog X.w X.K X.mg X.base (L2.CX X.prog X.w) k f fd ps (spOf X.K g (methName c initName) n)) (hr : Room (k + 1) X.A) (hg : Gl X x) (hm : X.mg x = some (.ref (He.ga X.K c))) (hb : Binds X.K fd ps [])
    (hn : ∀ ts, g.fn (methName c initName) ts ≠ .bad → ts.length = n) (tk : Takes X W) (row : RowOk X W false (e :: es) ds) (hd : (x == ("__debug__" : Str)) = false) (he : starEach (e :: es) X.env = (false, eval e X.env) :: starEach es X.env) (hpl : (backTo pos (starEach es X.env)).any (·.1) = false)
    (ht : PlainT X (.Call (.Name x p0) (e :: es) [] pos)) : Snd X W (.Call (.Name x p0) (e :: es) [] pos) (dNew g frz c ds) := by
  have hv : PE X (.Call (.Name x p0) (e :: es) [] pos) (tV X.K W false (dNew g frz c ds).v) := (pe_mkw (p0 := p0) M F hr hg hm hb tk row.pa hd he hpl).weak fun σ H Q ⟨S, Hf, Φ, Fs, R, o⟩ => by
    have o : Out X.K W σ false Φ Hf H (((evA false ds S).bind fun r S1 => Tk.R.opt S1 (spreadA r)).bind fun as S1 => (doNew g c as S1).bind fun o S2 => .ok (keepT (!frz) o) S2) (fun t _ Hf' H' Fs' => ∀ v F, Ow X.K Hf' H' v t F → Off F Φ H' Fs' → Q v H') := o
    refine ⟨S, Hf, Φ, Fs, R, ((o.bind (q := false) (q2 := false) id id).bind (q := allP ds) (q2 := false) (fun z => nomatch z) id).imp fun r S1 Hf1 H1 Fs1 _ R1 k1 o1 vs F row off => ?_⟩
    cases e1 : spreadA r with
    | none => rw [e1] at o1; exact o1.elim
    | some as =>
      rw [e1] at o1
      have o1 := Out.ok (show Out X.K W σ false Φ Hf1 H1 (.ok as S1) _ from o1) R1
      intro a dx ha hdx hne
      refine new_out R1 (row_A row e1) off hn cc ha hdx hne ((Out.bind (p := false) (q := false) (q2 := false) o1 id id).imp fun t S2 Hf2 H2 Fs2 _ R2 k2 o2 v F2 ow off2 => ?_)
      obtain ⟨Hf3, F3, R3, k3, ow3, off3⟩ := keep_ow (!frz) false R2 ow off2
      exact o2 H2 Hf3 Fs2 R3 k3 v F3 ow3 off3
  exact snd_of hv (fun z => nomatch z) (pt_of hv ht)
end
end Tk
end
section
set_option linter.all false
set_option maxRecDepth 100000
set_option maxHeartbeats 4000000
/-! self.x = e -/
namespace Tk
open PySem PySem.Spec PyProof.Rows L2

section
variable {K : PySem.W.Frag} {Hf H : Hp} {f : Str} {y : V} {a : OT} {F : Fp}
theorem putF_names : ∀ {fs : List (Str × V)} {ts : List OT}, fs.length = ts.length → (putF f y fs).map (·.1) = (putN (fs.map (·.1)) ts f a).1
  | [], _, _ => rfl
  | p :: fs, [], h => by simp at h
  | p :: fs, t :: ts, h => by
    obtain ⟨n, v⟩ := p
    show (if n = f then (n, y) :: fs else (n, v) :: putF f y fs).map (·.1) = (if n = f then (n :: fs.map (·.1), a :: ts) else (n :: (putN (fs.map (·.1)) ts f a).1, t :: (putN (fs.map (·.1)) ts f a).2)).1
    by_cases e : n = f
    · rw [if_pos e, if_pos e]; rfl
    · rw [if_neg e, if_neg e]
      show n :: _ = n :: _
      rw [← putF_names (fs := fs) (ts := ts) (by simpa using h)]
theorem putF_ows (oy : Ow K Hf H y a F) : ∀ {fs : List (Str × V)} {ts : List OT} {G : Fp}, Ows K Hf H (fs.map (·.2)) ts G → (∀ b, G b → F b → False) → Ows K Hf H ((putF f y fs).map (·.2)) (putN (fs.map (·.1)) ts f a).2 fun b => G b ∨ F b
  | [], _, G, .nil, d => .cons (G := fun _ => False) oy .nil (fun _ z => .inr z) (fun _ z => z.elim) fun _ _ z => z
  | p :: fs, _, G, .cons (t := t) (ts := ts) (F := F1) (G := G1) h r h1 h2 h3, d => by
    obtain ⟨n, v⟩ := p
    show Ows K Hf H ((if n = f then (n, y) :: fs else (n, v) :: putF f y fs).map (·.2)) (if n = f then (n :: fs.map (·.1), a :: ts) else (n :: (putN (fs.map (·.1)) ts f a).1, t :: (putN (fs.map (·.1)) ts f a).2)).2 _
    by_cases e : n = f
    · rw [if_pos e, if_pos e]
      exact .cons oy r (fun b z => .inr z) (fun b z => .inl (h2 b z)) fun b z w => d b (h2 b w) z
    · rw [if_neg e, if_neg e]
      exact .cons h (putF_ows oy r fun b z w => d b (h2 b z) w) (fun b z => .inl (h1 b z)) (fun b z => z.imp (h2 b) id) fun b z w => w.elim (h3 b z) fun w => d b (h1 b z) w
theorem putN_mem {α : Type} {k : Str} {v : α} : ∀ {ns : List Str} {vs : List α} {m : Str}, m ∈ (putN ns vs k v).1 → m ∈ ns ∨ m = k
  | [], vs, m, h => by
    have h : m ∈ [k] := h
    exact .inr (by simpa using h)
  | n :: ns, [], m, h => by
    have h : m ∈ [k] := h
    exact .inr (by simpa using h)
  | n :: ns, w :: vs, m, h => by
    have h : m ∈ (if n = k then (n :: ns, v :: vs) else (n :: (putN ns vs k v).1, w :: (putN ns vs k v).2)).1 := h
    split at h
    · exact .inl h
    · rcases List.mem_cons.mp h with h | h
      · exact .inl (by rw [h]; exact List.mem_cons_self ..)
      · rcases putN_mem h with h | h
        · exact .inl (List.mem_cons_of_mem _ h)
        · exact .inr h
end
section
variable {X : Cx} {W : WX} {g : G} {br : List Nat} {e : Expr} {δ : Den} {x f c : Str} {i : Nat} {p0 pos p2 : Pos} {keep : Bool}
theorem st_setA (h : Snd X W e δ) (hi : X.N[i]? = some x) (hv : Vis X.env.scope x) (hd : (x == ("__debug__" : Str)) = false) (hcd : (x == ("__classdict__" : Str)) = false) (cc : Cls X.K (He.ga X.K c)) (na : NoAttr X.K (He.ga X.K c) f)
    (hs : swapsWith e (some (.Attribute (.Name x p0) f p2)) pos.line X.env = pure false) : StOk X W br (.Assign [.Attribute (.Name x p0) f p2] e pos) fun S => (δ.v S).fl fun u S1 => (doMut g.sup (.setA c f) S1 i [] [keepT keep u]).fl fun _ S2 => .nx S2 :=
  ⟨(ps_fld (pe_var hi hv hd hcd) h.v hs).weak fun D σ H ⟨S, Hf, Φ, Fs, R, o⟩ => ⟨S, Hf, Φ, Fs, R, (FOut.fl o).imp fun t S1 Hf1 H1 Fs1 _ R1 k1 o1 v F ow off => by
    obtain ⟨Hf2, F2, R2, k2, ow2, off2⟩ := keep_ow keep false R1 ow off
    have o1 : FOut X.K W br σ Φ Hf2 H1 ((doMut g.sup (.setA c f) S1 i [] [keepT keep t]).fl fun _ S2 => .nx S2) D := o1.base k2 Sb.refl
    unfold doMut at o1
    cases eg : getS S1 i with
    | un => rw [eg] at o1; exact o1.elim
    | own u =>
      rw [eg] at o1
      have o1 : FOut X.K W br σ Φ Hf2 H1 ((match (M.setA c f).sem g.sup u [keepT keep t] with
        | some (u', r) => Tk.R.ok r (S1.set i (.own u'))
        | none => .bad).fl fun _ S2 => .nx S2) D := o1
      obtain ⟨w, ew, oi⟩ := R2.own i u (getS_own eg)
      refine ⟨w, ew, ?_⟩
      cases oi with
      | ins h1 h1b h2 h2b h3 h3b h4 h5 h6 z q r =>
        rename_i l k dx fs ns ts G _
        have o1 : FOut X.K W br σ Φ Hf2 H1 ((match (if ns.length < 900 ∧ c = k then (some (OT.ins k (putN ns ts f (keepT keep t)).1 (putN ns ts f (keepT keep t)).2, OT.leaf .non)) else none) with
          | some (u', r) => Tk.R.ok r (S1.set i (.own u'))
          | none => .bad).fl fun _ S2 => .nx S2) D := o1
        split at o1
        · rename_i e9
          split at e9
          · rename_i hk
            cases e9
            obtain ⟨hlt, rfl⟩ := hk
            subst q
            have hlen : fs.length < 1000 := by rw [List.length_map] at hlt; omega
            refine ⟨l, _, dx, fs, rfl, h1, cc, na, hlen, ?_⟩
            have hne : dx ≠ l := fun z => by rw [z, h1] at h1b; cases h1b
            have st : ∀ {Z : Fp}, ¬ Z l → Stay Z Hf2 H1 Hf2 (upd H1 l (.ins (He.ga X.K c) dx (putF f v fs))) := fun {Z} hz => ⟨Same.refl _, fun _ _ z => z, fun b o zb e => by rw [upd_ne fun q => hz (by rw [← q]; exact zb)]; exact e⟩
            have nl : ¬ F2 l := fun z => (off2 l z).2.2 i h3
            have hl0 := r.length
            rw [List.length_map] at hl0
            have rows := putF_ows (f := f) (ow2.stay (st nl)) (r.stay (st h5)) fun b z w => (off2 b w).2.2 i (h4 b z)
            obtain ⟨R3, k3⟩ := R2.mut (H3 := upd H1 l (.ins (He.ga X.K c) dx (putF f v fs))) (F' := fun b => (b = l ∨ b = dx) ∨ (G b ∨ F2 b)) (getS_own eg) ew
              (.ins (G := fun b => G b ∨ F2 b) (fs := putF f v fs) upd_same (by rw [upd_ne hne]; exact h1b) h2 h2b (.inl (.inl rfl)) (.inl (.inr rfl)) (fun b z => .inr z) (fun z => z.elim h5 nl) (fun z => z.elim h6 fun z => (off2 dx z).2.2 i h3b)
                ⟨z.1, fun m hm => by
                  rcases putN_mem hm with hm | hm
                  · exact z.2 m hm
                  · rw [hm]; exact na⟩ (putF_names hl0) rows)
              (fun b z => by
                rcases z with (z | z) | z | z
                · subst z
                  exact ⟨R2.off i b h3, by rw [upd_same]; simp, fun j hj w => R2.dis j i b hj w h3⟩
                · subst z
                  exact ⟨R2.off i b h3b, upd_more b (R2.hF i b h3b), fun j hj w => R2.dis j i b hj w h3b⟩
                · exact ⟨R2.off i b (h4 b z), upd_more b (R2.hF i b (h4 b z)), fun j hj w => R2.dis j i b hj w (h4 b z)⟩
                · exact ⟨(off2 b z).1, upd_more b (off2 b z).2.1, fun j _ w => (off2 b z).2.2 j w⟩)
              (fun b => by
                by_cases z : b = l
                · subst z; exact .inr ⟨h2, h3⟩
                · exact .inl (upd_ne z)) upd_more
            exact o1 σ _ Hf2 _ R3 k3 Sb.refl
          · cases e9
        · exact o1.elim
      | _ => exact o1.elim⟩⟩
theorem RowOk.bor {es : List Expr} {ds : List Den} (hi : X.N[i]? = some x) (hv : Vis X.env.scope x) (hd : (x == ("__debug__" : Str)) = false) (hcd : (x == ("__classdict__" : Str)) = false) (hr : RowOk X W keep es ds)
    (hs : starEach (.Name x pos :: es) X.env = (false, eval (.Name x pos) X.env) :: starEach es X.env) : RowOk X W keep (.Name x pos :: es) ({ Den.of false vBad with k := .lent i (fun S => .ok [] S) } :: ds) :=
  ⟨row_bor hi hv hd hcd hr.pa hs, fun hp => nomatch (show false = true from (allP_cons hp).1)⟩
/-- a value that keeps nothing -/
theorem snd_attr {o : Expr} {δ : Den} {fl : Str} (h : Snd X W o δ) (hb : attributeBase o fl X.env (eval o X.env) = eval o X.env) (ht : PlainT X (.Attribute o fl pos)) : Snd X W (.Attribute o fl pos) (dAttr δ fl) := by
  have hv : PE X (.Attribute o fl pos) (tV X.K W δ.p (dAttr δ fl).v) := (pe_fld h.v hb).weak fun σ H Q ⟨S, Hf, Φ, Fs, R, o⟩ => by
    have o : Out X.K W σ δ.p Φ Hf H ((δ.v S).bind fun t S1 => Tk.R.opt S1 ((t.frz.get (.attr fl)).map OT.leaf)) (fun t _ Hf' H' Fs' => ∀ v F, Ow X.K Hf' H' v t F → Off F Φ H' Fs' → Q v H') := o
    refine ⟨S, Hf, Φ, Fs, R, (o.bind (q := δ.p) (q2 := δ.p) id id).imp fun t S1 Hf1 H1 Fs1 _ R1 k1 o1 v F ow off => ?_⟩
    cases eg : t.frz.get (.attr fl) with
    | none => rw [eg] at o1; exact o1.elim
    | some d =>
      rw [eg] at o1
      obtain ⟨w, aw, fz⟩ := fz_step ow.frozen eg
      have R2 := R1.freezeF off
      cases aw with
      | attr h1 c n l r =>
        cases r
        exact ⟨_, _, _, _, _, rfl, R2.same _ _ h1, c, n, l, o1 H1 _ Fs1 R2 (kp_freezeF fun b hb => (off b hb).1) _ (fun _ => False) (.leaf fz) fun _ z => z.elim⟩
  exact snd_of hv (fun hp S => bind_exc (h.nv hp S) fun _ _ _ => opt_exc _) (pt_of hv ht)
end
end Tk
end
section
set_option linter.all false
set_option maxRecDepth 100000
set_option maxHeartbeats 4000000
/-! d.get(k, x) -/
namespace Tk
open PySem PySem.Spec PyProof.Rows L2

section
variable {X : Cx} {W : WX} {g : G} {o e f : Expr} {δ α β : Den} {apos pos : Pos}
def tG2 (K : PySem.W.Frag) (td ty tx : TE) : TE := fun σ H Q => td σ H fun x H1 => ∃ a, x = .ref a ∧ IsD H1 a ∧ ty σ H1 fun y H2 => tx σ H2 fun z H3 => ∃ w, DG K H3 a y w ∧ Q (w.getD z) H3
theorem pe_g2 {td ty tx : TE} (hu : X.A.units + 1 < cLine) (ho : PE X o td) (he : PE X e ty) (hf : PE X f tx) (m : M2 X o "get" apos e f pos) : PE X (.Call (.Attribute o "get" apos) [e, f] [] pos) (tG2 X.K td ty tx) :=
  ⟨fun pins s σ H Q I w => by
    refine wpAny_Call_method m.base m.few m.line PySem.F.plainAttrs_dict PySem.F.slot_dict_get PySem.F.type_dict_get (thn (ho.run pins s σ H _ I w) fun u s1 ⟨x, H1, I1, rx, a, ex, d, q⟩ => ?_)
    subst ex
    obtain rfl : u = Value.ref a := rx
    obtain ⟨k1, k2, _⟩ := isD_at I1 d
    refine ⟨k1, k2, ?_⟩
    rw [m.trees]
    refine Calls.callWith_builtin rfl (Calls.evalArgs_plain (Calls.spliced_cons (thn (he.run pins s1 σ H1 _ I1 q) fun yv s2 ⟨y, H2, I2, ry, q2⟩ => Calls.spliced_cons (thn (hf.run pins s2 σ H2 _ I2 q2) fun zv s3 ⟨z, H3, I3, rz, w, dg, q3⟩ => Calls.spliced_nil ?_))))
    exact g_get2 hu I3 dg ry rz fun r s' I' rr => ⟨_, H3, I', rr, q3⟩⟩
theorem snd_get2 (hu : X.A.units + 1 < cLine) (ho : Snd X W o δ) (he : Snd X W e α) (hf : Snd X W f β) (m : M2 X o "get" apos e f pos) (ht : PlainT X (.Call (.Attribute o "get" apos) [e, f] [] pos)) : Snd X W (.Call (.Attribute o "get" apos) [e, f] [] pos) (dGet2 δ α β) := by
  have pp : (δ.p && (α.p && β.p)) = true → δ.p = true ∧ α.p = true ∧ β.p = true := fun z => by simpa using z
  have hv : PE X (.Call (.Attribute o "get" apos) [e, f] [] pos) (tV X.K W (δ.p && (α.p && β.p)) (dGet2 δ α β).v) := (pe_g2 hu (ho.o true) (he.o true) (frz_of hf.v true false) m).weak fun σ H Q ⟨S, Hf, Φ, Fs, R, w⟩ => by
    have w : Out X.K W σ (δ.p && (α.p && β.p)) Φ Hf H (if (δ.p && (α.p && β.p)) = true then (δ.o true S).bind fun d S1 => match d with
        | .dic ks vs => (α.o true S1).bind fun k S2 => (β.v S2).frz.bind fun x S3 => Tk.R.opt S3 (if keyOk ks k then some (OT.leaf ((lookD ks vs k).getD x)) else none)
        | _ => .bad
      else .bad) (fun t _ Hf' H' Fs' => ∀ v F, Ow X.K Hf' H' v t F → Off F Φ H' Fs' → Q v H') := w
    split at w
    · rename_i hp
      rw [hp] at w
      obtain ⟨p1, p2, p3⟩ := pp hp
      refine ⟨S, Hf, Φ, Fs, R, (w.bind (q := δ.p) (q2 := true) (fun _ => p1) id).imp fun d S1 Hf1 H1 Fs1 _ R1 k1 w1 v pk => ?_⟩
      cases d with
      | dic ks vs =>
        have hD : ∃ a, v = .ref a ∧ IsD H1 a := by
          cases Pk.all R1.same pk with
          | dicK h _ _ => exact ⟨_, rfl, .inl ⟨_, .inl h⟩⟩
          | dicT h _ _ => exact ⟨_, rfl, .inr ⟨_, .inl h⟩⟩
        obtain ⟨a, rfl, isd⟩ := hD
        have w1 : Out X.K W σ true Φ Hf1 H1 ((α.o true S1).bind fun k S2 => (β.v S2).frz.bind fun x S3 => Tk.R.opt S3 (if keyOk ks k then some (OT.leaf ((lookD ks vs k).getD x)) else none)) _ := w1
        refine ⟨a, rfl, isd, S1, Hf1, Φ, Fs1, R1, (w1.bind (q := α.p) (q2 := true) (fun _ => p2) id).imp fun k S2 Hf2 H2 Fs2 _ R2 k2 w2 y pk2 => ?_⟩
        refine ⟨S2, Hf2, Φ, Fs2, R2, (w2.bind (q := β.p) (q2 := true) (fun _ => p3) id).imp fun x S3 Hf3 H3 Fs3 _ R3 k3 w3 z pk3 => ?_⟩
        have w3 : Out X.K W σ true Φ Hf3 H3 (Tk.R.opt S3 (if keyOk ks k then some (OT.leaf ((lookD ks vs k).getD x)) else none)) _ := w3
        split at w3
        · rename_i ok
          have hd3 : Fz1 X.K Hf3 H3 (.ref a) (.dic ks vs) := Pk.mono (fl := true) (k2.fz.trans k3.fz) ((k2.pure p2).trans (k3.pure p3)) pk
          obtain ⟨a2, w9, e9, dg, hl⟩ := dg_of R3.same hd3 (Fz.mono (k3.pure p3) (Pk.all R2.same pk2)) ok
          cases e9
          refine ⟨w9, dg, w3 H3 Hf3 Fs3 R3 Kp.refl _ (fun _ => False) (.leaf ?_) fun _ z => z.elim⟩
          cases el : lookD ks vs k with
          | none => rw [el] at hl; rw [hl]; exact pk3
          | some d =>
            rw [el] at hl
            obtain ⟨u, eu, fz⟩ := hl
            rw [eu]
            exact fz
        · exact w3.elim
      | _ => exact w1.elim
    · exact w.elim
  refine snd_of hv (fun hp S => ?_) (pt_of hv ht)
  obtain ⟨p1, p2, p3⟩ := pp hp
  show ∀ x S', (if (δ.p && (α.p && β.p)) = true then _ else _) ≠ _
  rw [if_pos hp]
  refine bind_exc (ho.no p1 true S) fun d S1 _ => ?_
  cases d with
  | dic ks vs => exact bind_exc (he.no p2 true _) fun _ _ _ => bind_exc (frz_exc (hf.nv p3 _)) fun _ _ _ => opt_exc _
  | _ => exact fun _ _ z => nomatch z
end
end Tk
end
section
set_option linter.all false
set_option maxRecDepth 100000
set_option maxHeartbeats 4000000
/-! list(reversed(x)), x a list. -/
namespace Tk
open PySem PySem.Spec PyProof.Rows L2 RT
section
variable {prog : Program} {w : World} {A : Around} {E : Value → Shared → Prop} {s : Shared}
theorem lrev_call {it l : Addr} {items : Array Value} {Q : Value → Shared → Prop} (hh : A.handled = none) (hit : s.heap.IsRevIter it l ((items.size : Int) - 1)) (hl : s.heap.IsList l items) (hne : l ≠ it) (hn : items.size ≤ sizeLine)
    (hQ : ∀ (h' : Heap) (tk : Nat) (acc : Array Value) (c' : Nat), (∀ b o, b ≠ it → s.heap.get? b = some o → h'.get? b = some o) → h'.get? s.heap.objs.size = some { cls := .type "list", dict := none, data := .seq acc c', slots := #[] } →
      ItemsOf (fun i v => items[items.size - 1 - i]? = some v) acc items.size → Q (.ref s.heap.objs.size) { s with heap := h', toks := tk }) :
    wpAny (model prog w) A (call (.type "list") [.ref it]) Q E s := by
  obtain ⟨oi, hoi, _⟩ := id hit
  obtain ⟨ol, hol, _⟩ := id hl
  have nI : s.heap.objs.size ≠ it := Nat.ne_of_gt (Heap.lt_size hoi)
  have nL : s.heap.objs.size ≠ l := Nat.ne_of_gt (Heap.lt_size hol)
  refine callType_codes (Q₁ := fun obj s₁ => obj = .ref s.heap.objs.size ∧ s₁ = { s with heap := s.heap.push { cls := .type "list", data := .seq #[] } }) F.called_list (F.typeCall_list_1 _) F.entry_list_init (code_list_new _ ⟨rfl, rfl⟩) fun obj s₁ h₁ => ?_
  obtain ⟨rfl, rfl⟩ := h₁
  have g0 : (s.heap.push { cls := .type "list", data := .seq #[] }).get? s.heap.objs.size = some { cls := .type "list", data := .seq #[] } := Heap.get?_push_size _ rfl
  refine ⟨⟨_, g0, rfl⟩, F.args_list_init_2 _ _, ?_⟩
  show wpAny _ A.in1.in1 (do let old ← Builtin.List.listItems (.ref s.heap.objs.size); Builtin.List.listUpdate (.ref s.heap.objs.size) (fun _ => #[]); letGo old.toList.reverse; Builtin.List.listExtendWith (.ref s.heap.objs.size) (.ref it) .none) _ _ _
  refine wpAny_bind ?_
  unfold Builtin.List.listItems
  refine wpAny_bind (wpAny_seqItems g0 rfl (wpAny_pure ?_))
  show wpAny _ _ (updateSeq s.heap.objs.size (fun _ => #[]) >>= fun _ => letGo (#[] : Array Value).toList.reverse >>= fun _ => Builtin.List.listExtendWith (.ref s.heap.objs.size) (.ref it) .none) _ _ _
  refine wpAny_bind (wpAny_updateSeq g0 rfl ?_)
  have g1 := Heap.get?_update_self (Obj.mapSeq (fun _ => (#[] : Array Value))) g0 rfl
  have oth : ∀ b o, s.heap.get? b = some o → ((s.heap.push { cls := .type "list", data := .seq #[] }).update s.heap.objs.size (Obj.mapSeq (fun _ => (#[] : Array Value)))).get? b = some o :=
    fun b o e => (Heap.get?_update_other _ _ (Nat.ne_of_gt (Heap.lt_size e))).trans (Heap.get?_push_of_some _ e)
  refine wpAny_bind (wpAny_letGo ?_)
  generalize (s.heap.push { cls := .type "list", data := .seq #[] }).update s.heap.objs.size (Obj.mapSeq (fun _ => (#[] : Array Value))) = hp at g1 oth ⊢
  have hit1 : hp.IsRevIter it l ((items.size : Int) - 1) := hit.at fun o e => oth _ _ e
  have hl1 : hp.IsList l items := hl.at fun o e => oth _ _ e
  have hT : ({ s with heap := hp } : Shared).TypeIs (.ref it) "list_reverseiterator" := Heap.IsRevIter.typeIs (s := { s with heap := hp }) hit1
  have W := (Walks.listRev (prog := prog) (w := w) (A := A.in1.in1) hh it l hne items).toS
  have hSf : s.heap.objs.size ∉ [it, l] := by simp only [List.mem_cons, List.not_mem_nil, or_false, not_or]; exact ⟨nI, nL⟩
  have nsame : Builtin.List.listSameRef (.ref s.heap.objs.size) (.ref it) = false := by simp [Builtin.List.listSameRef, nI]
  unfold Builtin.List.listExtendWith
  refine wpAny_bind (wpAny_typeOf hT ?_)
  rw [if_neg (by rw [nsame]; decide)]
  refine wpAny_bind (wpAny_pyIter_revIter (s := { s with heap := hp }) hit1 ?_)
  refine wpAny_bind (wpAny_holding ?_)
  unfold Builtin.List.listLengthHint
  refine wpAny_bind (wpAny_specialOf hT nolen_lri ?_)
  show wpAny _ A.in1.in1 (specialOf (Value.ref it) (Str.ofString "__length_hint__") >>= _) _ _ _
  refine wpAny_bind (wpAny_specialOf hT hint_lri ?_)
  generalize hid : ("list_reverseiterator.__length_hint__" : String) = id0
  wp_delta
  rw [show splitId id0 = some ("list_reverseiterator", "__length_hint__") from by subst hid; decide +kernel]
  subst hid
  refine wpAny_bind (wpAny_isInstance (b := true) hT (by rw [isSubtype_type]; kernel_rfl) ?_)
  refine wpAny_pure ?_
  rw [if_neg (by decide)]
  have e0 : ((items.size : Nat) : Int) - 1 - ((0 : Nat) : Int) = (items.size : Int) - 1 := by omega
  refine wpAny_pure ⟨plainId_quiet F.plain_extend_loop _, codeAny_extend_loopS W hn _ hSf _ items.size 0 _ _ _ rfl (Nat.zero_le _) ⟨Nat.zero_le _, by rw [e0]; exact hit1, hl1⟩ g1 (ItemsOf.nil _) fun s' acc' c' hm hS' hacc => ?_⟩
  rw [Moved.eq_with hm]
  refine ⟨rfl, hQ s'.heap s'.toks acc' c' (fun b o hb e => hm.heap b o (fun hmem => ?_) (oth b o e)) hS' hacc⟩
  rcases List.mem_cons.mp hmem with e' | hmem
  · exact absurd (Heap.lt_size e) (by rw [e']; exact Nat.lt_irrefl _)
  · exact hb (List.mem_singleton.mp hmem)
end
section
variable {X : Cx} {W : WX} {g : G} {e : Expr} {δ : Den}
def tLrev (K : PySem.W.Frag) (te : TE) : TE := fun σ H Q => te σ H fun v H1 => ∃ (a : Addr) (xs : List V), v = .ref a ∧ SqL K H1 a xs ∧ ∀ q, H1 q = none → Q (.ref q) (upd H1 q (.lst xs.reverse))
theorem pe_lrev {te : TE} {p p2 pos pos2 : Pos} (hc : X.calm = true) (hg : Gl X "list") (hm : X.mg "list" = none) (hg2 : Gl X "reversed") (hm2 : X.mg "reversed" = none) (he : PE X e te)
    (hs : starEach [e] X.env = (false, eval e X.env) :: starEach [] X.env) :
    PE X (.Call (.Name "list" p) [.Call (.Name "reversed" p2) [e] [] pos2] [] pos) (tLrev X.K te) := by
  refine ⟨fun pins s σ H Q I h => ?_⟩
  refine Call_ (ld_blt I hg hm boot_list (PyProof.Rows.callWith_type1 (args_cons (Call_ (ld_blt I hg2 hm2 PyProof.Rows.boot_reversed (PyProof.Rows.callWith_type1 (args_cons (thn (he.run pins s σ H _ I h) fun u s1 ⟨v, H1, I1, r1, q1⟩ => args_nil ?_) hs) hs rfl))) rfl) rfl rfl))
  obtain ⟨a, xs, ev, hq, q⟩ := q1
  subst ev
  obtain rfl : u = Value.ref a := r1
  obtain ⟨its, rv, p', hz⟩ := I1.list hq
  refine call_reversed_list p'.isList (args_nil ?_)
  have k0 : ∀ b o, s1.heap.get? b = some o → (s1.heap.push (revObj a ((its.toArray.size : Int) - 1))).get? b = some o := fun b o e => Heap.get?_push_of_some _ e
  have I2 : Inv X pins σ H1 { s1 with heap := s1.heap.push (revObj a ((its.toArray.size : Int) - 1)) } := I1.kept (t' := s1.toks) k0
  have f := I1.fpOk (H' := H1) (b := s1.heap.objs.size) (Nat.le_refl _) (I1.hok.fresh (Nat.le_refl _))
  obtain ⟨f0, f1, f2, f3, f4, f5⟩ := f
  have hl := p'.isList
  obtain ⟨ol, hol, _⟩ := id hl
  have hne : a ≠ s1.heap.objs.size := Nat.ne_of_lt (Heap.lt_size hol)
  have hn : its.toArray.size ≤ sizeLine := by rw [List.size_toArray, ← rv.length]; exact hz
  refine lrev_call (s := { s1 with heap := s1.heap.push (revObj a ((its.toArray.size : Int) - 1)) }) (I1.ok.hd hc) ⟨_, Heap.get?_push_size _ rfl, rfl, rfl⟩ (hl.push _) hne hn fun h' tk acc c' hk eS hi => ?_
  refine ⟨.ref (s1.heap.push (revObj a ((its.toArray.size : Int) - 1))).objs.size, upd H1 (s1.heap.push (revObj a ((its.toArray.size : Int) - 1))).objs.size (.lst xs.reverse),
    I2.turnedNew (t' := tk) (ch := [s1.heap.objs.size]) (fun b o hb e => hk b o (fun z => hb (by simp [z])) e) (fun b hb => ?_) (Nat.le_refl _) (show ObjOk X.prog X.w _ _ _ (.lst xs.reverse) from ⟨by rw [List.length_reverse]; exact hz, acc.toList, c', vals_rev rv hi, ?_⟩), rfl, q _ (I2.hok.fresh (Nat.le_refl _))⟩
  · obtain rfl : b = s1.heap.objs.size := by simpa using hb
    exact ⟨f0, f1, f2, f3, f4, f5⟩
  · rw [Array.toArray_toList]
    exact eS
theorem fzs_app {K : PySem.W.Frag} {H : Hp} : ∀ {xs : List V} {ds : List D} {ys : List V} {es : List D}, Fzs K H xs ds → Fzs K H ys es → Fzs K H (xs ++ ys) (ds ++ es)
  | _, _, _, _, .nil, r => r
  | _, _, _, _, .cons h t, r => .cons h (fzs_app t r)
theorem fzs_rev {K : PySem.W.Frag} {H : Hp} : ∀ {xs : List V} {ds : List D}, Fzs K H xs ds → Fzs K H xs.reverse ds.reverse
  | _, _, .nil => .nil
  | _, _, .cons h t => by
    rw [List.reverse_cons, List.reverse_cons]
    exact fzs_app (fzs_rev t) (.cons h .nil)
theorem snd_lrev {p1 p2 pos pos2 : Pos} (hc : X.calm = true) (hg : Gl X "list") (hm : X.mg "list" = none) (hg2 : Gl X "reversed") (hm2 : X.mg "reversed" = none) (ha : Snd X W e δ)
    (hs : starEach [e] X.env = (false, eval e X.env) :: starEach [] X.env) (ht : PlainT X (.Call (.Name "list" p1) [.Call (.Name "reversed" p2) [e] [] pos2] [] pos)) :
    Snd X W (.Call (.Name "list" p1) [.Call (.Name "reversed" p2) [e] [] pos2] [] pos) (dPrim g .lrev [δ]) :=
  have hv := (pe_lrev (p := p1) (p2 := p2) (pos := pos) (pos2 := pos2) hc hg hm hg2 hm2 (ha.q (allP [δ]) P.lrev.keeps) hs).weak fun σ H Q h => by
    obtain ⟨S, Hf, Φ, Fs, R, o⟩ := one_prim (g := g) (p := .lrev) h
    refine ⟨S, Hf, Φ, Fs, R, o.imp fun d S1 Hf1 H1 Fs1 _ R1 k1 o1 v pk => ?_⟩
    obtain ⟨Hf2, a, d2, e2, p2, sm, q⟩ := (o1 v pk).one
    have sm : sLrev [a] = some d2 := sm
    unfold sLrev at sm
    split at sm <;> cases sm
    rename_i ds he
    cases he
    obtain ⟨ad, vs, rfl, gt, r⟩ := pk_lstT e2 p2
    exact ⟨ad, vs, rfl, .inl (.inl gt), fun p hp => q _ _ _ _ (New.lst e2 hp (fzs_rev r))⟩
  snd_of hv (nv_one ha) (pt_of hv ht)
end
end Tk
end
section
set_option linter.all false
set_option maxRecDepth 100000
set_option maxHeartbeats 4000000
/-! zip(a, b) in a walk: two tuples or two lists. -/
namespace Tk
open PySem PySem.Spec PyProof.Rows L2 RZ
theorem zip2_len : ∀ (as bs : List D), (zip2 as bs).length = min as.length bs.length
  | [], bs => by simp [zip2]
  | a :: as, [] => by simp [zip2]
  | a :: as, b :: bs => by
    show (zip2 as bs).length + 1 = _
    rw [zip2_len as bs, List.length_cons, List.length_cons]
    omega
theorem zip2_get : ∀ {as bs : List D} {i : Nat} {d : D}, (zip2 as bs)[i]? = some d → ∃ x y, as[i]? = some x ∧ bs[i]? = some y ∧ d = .tup [x, y]
  | [], bs, i, d, h => by simp [zip2] at h
  | a :: as, [], i, d, h => by simp [zip2] at h
  | a :: as, b :: bs, 0, d, h => by
    have h : some (D.tup [a, b]) = some d := h
    exact ⟨a, b, rfl, rfl, (Option.some.inj h).symm⟩
  | a :: as, b :: bs, i + 1, d, h => zip2_get (as := as) (bs := bs) (i := i) h
theorem it_zips {K : PySem.W.Frag} {pu : Bool} {Hf0 H0 : Hp} {J : L2.It} {us vs : List V} {as bs : List D} {Sq : Hp → List V → List V → Prop} (r : Fzs K Hf0 us as) (r2 : Fzs K Hf0 vs bs) (at_ : ∀ H, (∃ Hf, Same Hf0 Hf ∧ Same Hf H) → (pu = true → Same H0 H) → Sq H us vs)
    (stop : ∀ i H us vs, Sq H us vs → us.length ≤ i ∨ vs.length ≤ i → J.stop i H) (go : ∀ i H us vs x y, Sq H us vs → us[i]? = some x → vs[i]? = some y → J.go i H)
    (yld : ∀ i H us vs x y v H', Sq H us vs → us[i]? = some x → vs[i]? = some y → J.yld i H v H' → ∃ T, v = .ref T ∧ H T = none ∧ H' = upd H T (.tup [x, y])) : ItOk K pu Hf0 H0 J (zip2 as bs) := by
  intro i Hf H s1 s2 s3
  have sq := at_ H ⟨Hf, s1, s2⟩ s3
  refine ⟨fun hl => stop i H us vs sq ?_, fun d hd => ?_⟩
  · rw [zip2_len] at hl
    rw [r.length, r2.length]
    omega
  · obtain ⟨dx, dy, h1, h2, rfl⟩ := zip2_get hd
    obtain ⟨x, hx, fx⟩ := r.get h1
    obtain ⟨y, hy, fy⟩ := r2.get h2
    refine ⟨go i H us vs x y sq hx hy, fun z H' hz => ?_⟩
    obtain ⟨T, rfl, hT, rfl⟩ := yld i H us vs x y z H' sq hx hy hz
    exact ⟨_, _, New.tup s2 hT (.cons (fx.mono s1) (.cons (fy.mono s1) .nil))⟩
section
variable {X : Cx} {W : WX} {a b : Expr} {α β : Den} {pos : Pos}
theorem it_zip {pu p : Bool} {p0 tpos : Pos} {elts : List Expr} {kk : Nat} (hg : Gl X "zip") (hm : X.mg "zip" = none) (ha : Snd X W a α) (hb : Snd X W b β) (hp : p = true → α.p = true ∧ β.p = true) (hpu : pu = true → α.p = true ∧ β.p = true)
    (hs : starEach [a, b] X.env = (false, eval a X.env) :: starEach [b] X.env) (hs2 : starEach [b] X.env = (false, eval b X.env) :: starEach [] X.env) (hpl : (backTo pos (starEach [b] X.env)).any (·.1) = false) :
    ItSnd X W pu (.Tuple elts kk tpos) (.Call (.Name "zip" p0) [a, b] [] pos) p (iZip pu [α, β]) where
  nx := fun z S => bind_exc (bind_exc (evQ_exc ha (hp z).1 S) fun _ _ _ => bind_exc (bind_exc (evQ_exc hb (hp z).2 _) fun _ _ _ => ok_exc _) fun _ _ _ => ok_exc _) fun _ _ _ => opt_exc _
  pi := ⟨fun pins s σ H R I w => (pi_zipA (elts := elts) (kk := kk) (tpos := tpos) (p := p0) (pos := pos) hg hm (pa_cons (ha.q pu true) (pa_cons (hb.q pu true) pa_nil hs2) hs) hs hpl).run pins s σ H R I (by
    obtain ⟨S, Hf, Φ, Fs, Re, o⟩ := w
    have o : Out X.K W σ p Φ Hf H (((evQ pu true α S).bind fun d S1 => ((evQ pu true β S1).bind fun d2 S2 => (Tk.R.ok [d2] S2)).bind fun ds S2 => .ok (d :: ds) S2).bind fun ds S1 => Tk.R.opt S1 (zips ds)) _ := o
    refine ⟨S, Hf, Φ, Fs, Re, ((o.bind (q := p) (q2 := p) id id).bind (q := α.p) (q2 := p) (fun z => (hp z).1) id).imp fun d S1 Hf1 H1 Fs1 _ R1 k1 o1 v pk => ?_⟩
    refine ⟨S1, Hf1, Φ, Fs1, R1, ((o1.bind (q := p) (q2 := p) id id).bind (q := β.p) (q2 := p) (fun z => (hp z).2) id).imp fun d2 S2 Hf2 H2 Fs2 _ R2 k2 o2 v2 pk2 => ?_⟩
    have o2 := Out.ok (Out.ok o2 R2) R2
    have pk := pk.mono (k2.low fun z => (hpu z).2)
    cases ez : zips [d, d2] with
    | none => rw [ez] at o2; exact o2.elim
    | some ds =>
      rw [ez] at o2
      have o2 := Out.ok (show Out X.K W σ p Φ Hf2 H2 (.ok ds S2) _ from o2) R2
      have now : ∃ Hf, Same Hf2 Hf ∧ Same Hf H2 := ⟨Hf2, Same.refl _, R2.same⟩
      have tupAt : ∀ {v : V} {as : List D}, PkQ X.K pu true Hf2 H2 v (.tup as) → ∃ t us, v = .ref t ∧ (∀ H, (∃ Hf, Same Hf2 Hf ∧ Same Hf H) → SqT X.K H t us) ∧ Fzs X.K Hf2 us as := fun {v as} q => by
        have q : Fz X.K Hf2 v (.tup as) := by
          cases pu with
          | true => cases q with | fz q => exact q
          | false => exact q
        cases q with
        | tup g r => exact ⟨_, _, rfl, fun H ⟨Hf, s1, s2⟩ => sqT_same (s1.trans s2) g, r⟩
      have lstAt : ∀ {v : V} {as : List D}, PkQ X.K pu true Hf2 H2 v (.lst as) → ∃ t us, v = .ref t ∧ (∀ H, (∃ Hf, Same Hf2 Hf ∧ Same Hf H) → (pu = true → Same H2 H) → SqL X.K H t us) ∧ Fzs X.K Hf2 us as := fun {v as} q => by
        cases pu with
        | true => cases q with
          | fz q => cases q with | lst g r => exact ⟨_, _, rfl, fun H ⟨Hf, s1, s2⟩ _ => .inl (.inl (s2 _ _ (s1 _ _ g))), r⟩
          | lst g r => exact ⟨_, _, rfl, fun H _ s2 => .inl (.inl (s2 rfl _ _ g)), r⟩
        | false => cases q with | lst g r => exact ⟨_, _, rfl, fun H ⟨Hf, s1, s2⟩ _ => .inl (.inl (s2 _ _ (s1 _ _ g))), r⟩
      unfold zips at ez
      split at ez
      · rename_i as bs he
        cases he
        cases ez
        obtain ⟨t, us, rfl, at1, r1⟩ := tupAt pk
        obtain ⟨t2, us2, rfl, at2, r2⟩ := tupAt pk2
        refine ⟨t, t2, us, us2, rfl, .inr ⟨at1 _ now, at2 _ now, o2 _ (it_zips (Sq := fun H us us2 => SqT X.K H t us ∧ SqT X.K H t2 us2) r1 r2 (fun H h _ => ⟨at1 H h, at2 H h⟩) (fun i H us us2 sq h => ⟨us, us2, sq.1, sq.2, h⟩) (fun i H us us2 x y sq h1 h2 => ⟨us, us2, x, y, sq.1, sq.2, h1, h2⟩)
          fun i H us us2 x y v H' sq h1 h2 hy => ?_)⟩⟩
        obtain ⟨T, x', y', e1, e2, e3, e4, e5⟩ := hy
        have q1 := (e4 _ sq.1).symm.trans h1
        have q2 := (e5 _ sq.2).symm.trans h2
        cases q1
        cases q2
        exact ⟨T, e1, e2, e3⟩
      · rename_i as bs he
        cases he
        cases ez
        obtain ⟨t, us, rfl, at1, r1⟩ := lstAt pk
        obtain ⟨t2, us2, rfl, at2, r2⟩ := lstAt pk2
        refine ⟨t, t2, us, us2, rfl, .inl ⟨at1 _ now fun _ => Same.refl _, at2 _ now fun _ => Same.refl _, o2 _ (it_zips (Sq := fun H us us2 => SqL X.K H t us ∧ SqL X.K H t2 us2) r1 r2 (fun H h h3 => ⟨at1 H h h3, at2 H h h3⟩) (fun i H us us2 sq h => ⟨us, us2, sq.1, sq.2, h⟩) (fun i H us us2 x y sq h1 h2 => ⟨us, us2, x, y, sq.1, sq.2, h1, h2⟩)
          fun i H us us2 x y v H' sq h1 h2 hy => ?_)⟩⟩
        obtain ⟨T, x', y', e1, e2, e3, e4, e5⟩ := hy
        have q1 := (e4 _ sq.1).symm.trans h1
        have q2 := (e5 _ sq.2).symm.trans h2
        cases q1
        cases q2
        exact ⟨T, e1, e2, e3⟩
      · cases ez)⟩
end
end Tk
end
section
set_option linter.all false
set_option maxRecDepth 100000
set_option maxHeartbeats 4000000
/-! x, y = a, b; self.f, self.g = (a, b). -/
namespace Tk
open PySem PySem.Spec PyProof.Rows L2
def setσ : L2.St → List Nat → List V → L2.St
  | σ, i :: is, v :: vs => setσ (σ.set i (some v)) is vs
  | σ, _, _ => σ
section
variable {K : PySem.W.Frag} {W : WX} {br : List Nat} {σ0 : L2.St} {Φ : Fp} {Hf H : Hp} {D : Ends}
theorem setN_go : ∀ {is : List Nat} {us : List OT} {vs : List V} {S : SS} {σ : L2.St} {Fs : Nat → Fp} {F : Fp}, Rel K S σ Hf H Φ Fs → Ows K Hf H vs us F → Off F Φ H Fs → Sb br σ0 σ → FOut K W br σ0 Φ Hf H (setN br is us S) D → vs.length = is.length ∧ D.nx (setσ σ is vs) H
  | [], [], _, S, σ, Fs, F, R, ow, off, sb, o => by
    cases ow
    exact ⟨rfl, o σ H Hf Fs R Kp.refl sb⟩
  | [], _ :: _, _, S, σ, Fs, F, R, ow, off, sb, o => o.elim
  | _ :: _, [], _, S, σ, Fs, F, R, ow, off, sb, o => o.elim
  | i :: is, u :: us, _, S, σ, Fs, F, R, .cons (v := v) (vs := vs) (F := F1) (G := G1) h r h1 h2 h3, off, sb, o => by
    have o : FOut K W br σ0 Φ Hf H (if i < S.length ∧ ¬ i ∈ is ∧ ¬ i ∈ br then setN br is us (S.set i (.own u)) else .bad) D := o
    split at o
    · rename_i hc
      have off1 : Off F1 Φ H Fs := fun b z => off b (h1 b z)
      have R2 := R.put hc.1 h off1
      have q := setN_go R2 r (fun b z => ⟨(off b (h2 b z)).1, (off b (h2 b z)).2.1, fun j y => ?_⟩) (sb.trans (sb_set (by simpa using hc.2.2))) o
      · exact ⟨congrArg Nat.succ q.1, q.2⟩
      · rcases y with ⟨_, y⟩ | ⟨_, y⟩
        · exact h3 b y z
        · exact (off b (h2 b z)).2.2 j y
    · exact o.elim
end
section
variable {X : Cx} {W : WX} {g : G} {br : List Nat} {a b c : Expr} {ds : List Den} {pos : Pos}
theorem asgN_out {is : List Nat} {D : Ends} {σ : L2.St} {H : Hp} (h : tSt X.K W br (fun S => (evMs true ds S).fl fun us S1 => setN br is us S1) D σ H) :
    tR X.K W (allP ds) (evA true ds) σ H fun vs H1 => vs.length = is.length ∧ D.nx (setσ σ is vs) H1 := by
  obtain ⟨S, Hf, Φ, Fs, R, o⟩ := h
  have o : FOut X.K W br σ Φ Hf H (((evA true ds S).bind fun r S1 => Tk.R.opt S1 (valsA r)).fl fun us S1 => setN br is us S1) D := o
  refine ⟨S, Hf, Φ, Fs, R, ((FOut.fl (p := allP ds) o).bind (q := allP ds) (q2 := allP ds) id id).imp fun r S1 Hf1 H1 Fs1 _ R1 k1 o1 vs F row off => ?_⟩
  cases ev : valsA r with
  | none => rw [ev] at o1; exact o1.elim
  | some us =>
    rw [ev] at o1
    have o1 := Out.ok (show Out X.K W σ (allP ds) Φ Hf1 H1 (.ok us S1) _ from o1) R1
    exact setN_go R1 (row_vals row ev) off Sb.refl o1
theorem st_asgN2 {i j : Nat} {x y : Str} {px py pt pt2 : Pos} {kt k2 : Nat} (hc : X.calm = true) (hN : X.N.Nodup) (hi : X.N[i]? = some x) (hj : X.N[j]? = some y) (hij : i ≠ j) (hx : X.env.scope.names.lookup x = some .local) (hy : X.env.scope.names.lookup y = some .local)
    (row : RowOk X W true [a, b] ds) (hw : swappedStores [.Tuple [.Name x px, .Name y py] kt pt] (.Tuple [a, b] k2 pt2) X.env = pure (some [x, y])) (hs : swapsWithSole [.Tuple [.Name x px, .Name y py] kt pt] (.Tuple [a, b] k2 pt2) pos.line X.env = pure false) :
    StOk X W br (.Assign [.Tuple [.Name x px, .Name y py] kt pt] (.Tuple [a, b] k2 pt2) pos) fun S => (evMs true ds S).fl fun us S1 => setN br [i, j] us S1 :=
  ⟨(ps_par hc hN hi hj hij hx hy row.pa hw hs).weak fun D σ H h => by
    obtain ⟨S, Hf, Φ, Fs, R, o⟩ := asgN_out (is := [i, j]) h
    refine ⟨S, Hf, Φ, Fs, R, o.imp fun r S1 Hf1 H1 Fs1 _ R1 k1 o1 vs F row off => ?_⟩
    obtain ⟨hl, q⟩ := o1 vs F row off
    match vs, hl, q with
    | [v, w], _, q => exact ⟨v, w, rfl, q⟩⟩
theorem st_asgN3 {i j l : Nat} {x y z : Str} {px py pz pt pt2 : Pos} {kt k2 : Nat} (hc : X.calm = true) (hN : X.N.Nodup) (hi : X.N[i]? = some x) (hj : X.N[j]? = some y) (hl : X.N[l]? = some z) (hij : i ≠ j) (hil : i ≠ l) (hjl : j ≠ l)
    (hx : X.env.scope.names.lookup x = some .local) (hy : X.env.scope.names.lookup y = some .local) (hz : X.env.scope.names.lookup z = some .local) (row : RowOk X W true [a, b, c] ds)
    (hw : swappedStores [.Tuple [.Name x px, .Name y py, .Name z pz] kt pt] (.Tuple [a, b, c] k2 pt2) X.env = pure (some [x, y, z])) (hs : swapsWithSole [.Tuple [.Name x px, .Name y py, .Name z pz] kt pt] (.Tuple [a, b, c] k2 pt2) pos.line X.env = pure false) :
    StOk X W br (.Assign [.Tuple [.Name x px, .Name y py, .Name z pz] kt pt] (.Tuple [a, b, c] k2 pt2) pos) fun S => (evMs true ds S).fl fun us S1 => setN br [i, j, l] us S1 :=
  ⟨(ps_par3 hc hN hi hj hl hij hil hjl hx hy hz row.pa hw hs).weak fun D σ H h => by
    obtain ⟨S, Hf, Φ, Fs, R, o⟩ := asgN_out (is := [i, j, l]) h
    refine ⟨S, Hf, Φ, Fs, R, o.imp fun r S1 Hf1 H1 Fs1 _ R1 k1 o1 vs F row off => ?_⟩
    obtain ⟨hl, q⟩ := o1 vs F row off
    match vs, hl, q with
    | [u, v, w], _, q => exact ⟨u, v, w, rfl, q⟩⟩
/-! self.f, self.g = e -/
def gFldS (K : PySem.W.Frag) (ta : TE) (f : Str) : TG := fun v σ H Q => ta σ H fun x H1 => ∃ a C dx fs, x = .ref a ∧ H1 a = some (.ins C dx fs) ∧ Cls K C ∧ NoAttr K C f ∧ fs.length < 1000 ∧ Q σ (upd H1 a (.ins C dx (putF f v fs)))
theorem pg_fldS {o : Expr} {ta : TE} {f : Str} (ho : PE X o ta) : PG X (.Attribute o f pos) (gFldS X.K ta f) := by
  refine ⟨fun pins s σ H v u Q I r h => ?_⟩
  show wpAny _ _ (do
      let ov ← holding [u] (eval o X.env)
      standAt pos.atName
      holding [u, ov] (setAttr ov f u)
      release [u, ov] []) _ _ _
  refine wpAny_bind (wpAny_holding (thn (ho.run pins s σ H _ I h) fun ov s1 ⟨x, H1, I1, r1, a, C, dx, fs, ex, ea, c, n, l, q⟩ => ?_))
  subst ex
  obtain rfl : ov = Value.ref a := r1
  refine wpAny_bind (wpAny_standAt (wpAny_bind (wpAny_holding (setattr_ok I1 ea c n l r fun s3 I3 => ?_))))
  exact wpAny_release ⟨σ, _, I3, q⟩
theorem setA_go {c f : Str} {i : Nat} {σ : L2.St} {Hf H : Hp} {Φ : Fp} {Fs : Nat → Fp} {S : SS} {v : V} {t : OT} {F : Fp} {D : Ends} {k : SS → Fl} (na : NoAttr X.K (He.ga X.K c) f) (R : Rel X.K S σ Hf H Φ Fs) (ow : Ow X.K Hf H v t F) (off : Off F Φ H Fs)
    (o : FOut X.K W br σ Φ Hf H ((doMut g.sup (.setA c f) S i [] [t]).fl fun _ S2 => k S2) D) : ∃ l dx fs, σ[i]? = some (some (.ref l)) ∧ H l = some (.ins (He.ga X.K c) dx fs) ∧ fs.length < 1000 ∧
      ∃ S2 Fs2, Rel X.K S2 σ Hf (upd H l (.ins (He.ga X.K c) dx (putF f v fs))) Φ Fs2 ∧ FOut X.K W br σ Φ Hf (upd H l (.ins (He.ga X.K c) dx (putF f v fs))) (k S2) D ∧ Kp false Φ Hf H Hf (upd H l (.ins (He.ga X.K c) dx (putF f v fs))) := by
  unfold doMut at o
  cases eg : getS S i with
  | un => rw [eg] at o; exact o.elim
  | own u =>
    rw [eg] at o
    have o : FOut X.K W br σ Φ Hf H ((match (M.setA c f).sem g.sup u [t] with
      | some (u', r) => Tk.R.ok r (S.set i (.own u'))
      | none => .bad).fl fun _ S2 => k S2) D := o
    obtain ⟨w, ew, oi⟩ := R.own i u (getS_own eg)
    cases oi with
    | ins h1 h1b h2 h2b h3 h3b h4 h5 h6 z q r =>
      rename_i l k9 dx fs ns ts G _
      have o : FOut X.K W br σ Φ Hf H ((match (if ns.length < 900 ∧ c = k9 then (some (OT.ins k9 (putN ns ts f t).1 (putN ns ts f t).2, OT.leaf .non)) else none) with
        | some (u', r) => Tk.R.ok r (S.set i (.own u'))
        | none => .bad).fl fun _ S2 => k S2) D := o
      split at o
      · rename_i e9
        split at e9
        · rename_i hk
          cases e9
          obtain ⟨hlt, rfl⟩ := hk
          subst q
          have hlen : fs.length < 1000 := by rw [List.length_map] at hlt; omega
          have hne : dx ≠ l := fun z => by rw [z, h1] at h1b; cases h1b
          have st : ∀ {Z : Fp}, ¬ Z l → Stay Z Hf H Hf (upd H l (.ins (He.ga X.K c) dx (putF f v fs))) := fun {Z} hz => ⟨Same.refl _, fun _ _ z => z, fun b o zb e => by rw [upd_ne fun q => hz (by rw [← q]; exact zb)]; exact e⟩
          have nl : ¬ F l := fun z => (off l z).2.2 i h3
          have hl0 := r.length
          rw [List.length_map] at hl0
          have rows := putF_ows (f := f) (ow.stay (st nl)) (r.stay (st h5)) fun b z w => (off b w).2.2 i (h4 b z)
          obtain ⟨R3, k3⟩ := R.mut (H3 := upd H l (.ins (He.ga X.K c) dx (putF f v fs))) (F' := fun b => (b = l ∨ b = dx) ∨ (G b ∨ F b)) (getS_own eg) ew
            (.ins (G := fun b => G b ∨ F b) (fs := putF f v fs) upd_same (by rw [upd_ne hne]; exact h1b) h2 h2b (.inl (.inl rfl)) (.inl (.inr rfl)) (fun b z => .inr z) (fun z => z.elim h5 nl) (fun z => z.elim h6 fun z => (off dx z).2.2 i h3b)
              ⟨z.1, fun m hm => by
                rcases putN_mem hm with hm | hm
                · exact z.2 m hm
                · rw [hm]; exact na⟩ (putF_names hl0) rows)
            (fun b z => by
              rcases z with (z | z) | z | z
              · subst z
                exact ⟨R.off i b h3, by rw [upd_same]; simp, fun j hj w => R.dis j i b hj w h3⟩
              · subst z
                exact ⟨R.off i b h3b, upd_more b (R.hF i b h3b), fun j hj w => R.dis j i b hj w h3b⟩
              · exact ⟨R.off i b (h4 b z), upd_more b (R.hF i b (h4 b z)), fun j hj w => R.dis j i b hj w (h4 b z)⟩
              · exact ⟨(off b z).1, upd_more b (off b z).2.1, fun j _ w => (off b z).2.2 j w⟩)
            (fun b => by
              by_cases z : b = l
              · subst z; exact .inr ⟨h2, h3⟩
              · exact .inl (upd_ne z)) upd_more
          exact ⟨l, dx, fs, ew, h1, hlen, _, _, R3, o.base k3 Sb.refl, k3⟩
        · cases e9
      · exact o.elim
    | _ => exact o.elim
/-- the targets self.f, .. of one object's fields -/
def gSt (X : Cx) (i : Nat) (c : Str) : List Str → TGs
  | [] => gNil
  | f :: fs => gCons (gFldS X.K (fun σ H Q => ∃ v, σ[i]? = some (some v) ∧ Q v H) f) (gSt X i c fs)
theorem stos_go {i : Nat} {c : Str} (cc : Cls X.K (He.ga X.K c)) {Z : Ends} : ∀ {fs : List Str} {ds : List D} {vs : List V} {σ : L2.St} {Hf H : Hp} {Φ : Fp} {Fs : Nat → Fp} {S : SS}, (∀ f, f ∈ fs → NoAttr X.K (He.ga X.K c) f) → Rel X.K S σ Hf H Φ Fs → Fzs X.K Hf vs ds →
    FOut X.K W br σ Φ Hf H (stoLs g br (fs.map fun f => LV.at (.setA c f) i [] []) ds S) Z → gSt X i c fs vs σ H Z.nx
  | [], [], _, σ, Hf, H, Φ, Fs, S, na, R, .nil, o => ⟨rfl, o σ H Hf Fs R Kp.refl Sb.refl⟩
  | [], _ :: _, _, σ, Hf, H, Φ, Fs, S, na, R, r, o => o.elim
  | _ :: _, [], _, σ, Hf, H, Φ, Fs, S, na, R, r, o => o.elim
  | f :: fs, d :: ds, _, σ, Hf, H, Φ, Fs, S, na, R, .cons (v := v) (vs := vs) h r, o => by
    have o : FOut X.K W br σ Φ Hf H (((doMut g.sup (.setA c f) S i [] [.leaf d]).fl fun _ S3 => .nx S3).seq (stoLs g br (fs.map fun f => LV.at (.setA c f) i [] []) ds)) Z := o
    have e : ∀ r : Tk.R OT, ((r.fl fun _ S3 => Fl.nx S3).seq (stoLs g br (fs.map fun f => LV.at (.setA c f) i [] []) ds)) = r.fl fun _ S3 => stoLs g br (fs.map fun f => LV.at (.setA c f) i [] []) ds S3 := fun r => by cases r <;> rfl
    rw [e] at o
    obtain ⟨l, dx, fs2, ev, hl, hlen, S2, Fs2, R2, o2, k2⟩ := setA_go (F := fun _ => False) (na f List.mem_cons_self) R (.leaf h) (fun _ z => z.elim) o
    refine ⟨v, vs, rfl, .ref l, ev, l, _, dx, fs2, rfl, hl, cc, na f List.mem_cons_self, hlen, ?_⟩
    exact stos_go cc (fun f hf => na f (List.mem_cons_of_mem _ hf)) R2 (r.mono k2.fz) o2
theorem gSt_len {i : Nat} {c : Str} : ∀ {fs : List Str} {vs : List V} {σ : L2.St} {H : Hp} {Q : L2.St → Hp → Prop}, gSt X i c fs vs σ H Q → vs.length = fs.length
  | [], _, _, _, _, ⟨e, _⟩ => by rw [e]; rfl
  | f :: fs, _, _, _, _, ⟨v, r, e, q⟩ => by
    obtain ⟨x, _, a, C, dx, fs2, _, _, _, _, _, q⟩ := q
    rw [e]
    exact congrArg Nat.succ (gSt_len q)
theorem st_stos {x c : Str} {i : Nat} {fs : List Str} {tgs : List Expr} {e : Expr} {δ : Den} {k n : Nat} {p2 : Pos} (hc : X.calm = true) (h : Snd X W e δ) (cc : Cls X.K (He.ga X.K c)) (na : ∀ f, f ∈ fs → NoAttr X.K (He.ga X.K c) f)
    (ht : PGs X tgs (gSt X i c fs)) (hn : (assignEach tgs X.env).length = n) (hl : fs.length = n) (hst : (assignEach tgs X.env).findIdx? (·.1) = none) (hs : swapsWithSole [.Tuple tgs k p2] e pos.line X.env = pure false) (hw : swappedStores [.Tuple tgs k p2] e X.env = pure none) :
    StOk X W br (.Assign [.Tuple tgs k p2] e pos) fun S => (δ.v S).fl fun u S1 => match u.frz with
      | .tup ds => stoLs g br (fs.map fun f => LV.at (.setA c f) i [] []) ds S1
      | _ => .bad :=
  ⟨(ps_asg h.v (pg_tup hc ht hn hst) hs hw).weak fun D σ H ⟨S, Hf, Φ, Fs, R, o⟩ => ⟨S, Hf, Φ, Fs, R, (FOut.fl o).imp fun t S1 Hf1 H1 Fs1 _ R1 k1 o1 v F ow off => by
    have fz := ow.frozen
    have R2 := R1.freezeF off
    have o2 := o1.base (p := false) (kp_freezeF (p := false) fun b hb => (off b hb).1) Sb.refl
    generalize t.frz = d at fz o2
    cases fz with
    | tup sq r =>
      rename_i a vs ds
      have o2 : FOut X.K W br σ Φ _ H1 (stoLs g br (fs.map fun f => LV.at (.setA c f) i [] []) ds S1) D := o2
      have q := stos_go cc na R2 r o2
      refine ⟨a, vs, rfl, sqT_same R2.same sq, ?_, q⟩
      rw [← hl]
      exact gSt_len q
    | _ => exact o2.elim⟩⟩
end
end Tk
end
section
set_option linter.all false
set_option maxRecDepth 100000
set_option maxHeartbeats 4000000
/-! dict comprehensions whose keys are tuples. -/
namespace Tk
open PySem PySem.Spec PyProof.Rows L2
theorem room_tup {prog : Program} {w : World} {knd : PySem.KeyKind prog w Key} {A : Around} (hu : A.units < cLine) : (tupleKind knd).room A := hu
theorem dt_store {X : Cx} {pins : List (Addr × Obj)} {ρ : L2.St} {H : Hp} {s : Shared} {E : Value → Shared → Prop} {a b : Addr} {kvs : List (List Key × V)} {k : List Key} {v : V} {u r : Value} {Qu : Unit → Shared → Prop} (hu : X.A.units + 64 < cLine) (J : Inv X pins ρ H s) (ea : H a = some (.dT kvs))
    (eb : H b = some (.tup (List.map kV k))) (hl : kvs.length < sizeLine) (ry : RelV (.ref b) u) (rv : RelV v r) (h : ∀ s', Inv X pins ρ (upd H a (.dT (putK kvs k v))) s' → Qu () s') : wpAny (model X.prog X.w) X.A (dictSet a u r) Qu E s := by
  cases (show u = Value.ref b from ry)
  obtain ⟨z, hd, xs, rel, dd⟩ := dt_of J.hok ea
  have h1 : xs.length ≤ sizeLine := by rw [← Paired.length rel]; exact z
  have h2 : (putK kvs k v).length ≤ sizeLine := by have := length_putK kvs k v; omega
  refine wpAny_dictSet_heap (hsz := h1) (room_tup (by omega)) (key_of J.hok eb) dd fun h' dd' same => h _ ?_
  obtain ⟨q, es, ep, hq, g2, g3, g4, _, g5⟩ := dd'
  refine d_write J (by rw [ea]; exact True.intro) same ⟨q, hq⟩ ⟨h2, hd, _, (rel.put k eb rv).keeps fun c ys ec => ?_, q, es, ep, hq, g2, g3, g4, g5⟩
  rw [upd_ne (ne_of ec ea (fun w => nomatch w))]
  exact ec
section
variable {X : Cx}
/-- y is the tuple k in this heap -/
def KAt (k : List Key) (y : V) (H : Hp) : Prop := ∃ b, y = .ref b ∧ H b = some (.tup (List.map kV k))
def tDcT (wit : TI) (gt0 : TG) (ttest : TT) (tkey tval : TE) (vs : List Nat) : TE := fun ρ H Qv => wit ρ H fun Jt Ha => ∀ Da, Ha Da = none → ∃ Wf : Nat → Nat → Hp → Prop, (∃ mm, Wf 0 mm (upd Ha Da (.dT []))) ∧ ∀ ix mm H, Wf ix mm H →
  (Jt.stop ix H ∧ Qv (.ref Da) H) ∨ (Jt.go ix H ∧ ∃ Nxt : Hp → Prop, (∀ H', Nxt H' → ∃ mn', mn' < mm ∧ Wf (ix + 1) mn' H') ∧ ∀ xv0 H', Jt.yld ix H xv0 H' → gt0 xv0 (L2.wipe ρ vs) H' fun σ2 Hb => L2.wipe σ2 vs = L2.wipe ρ vs ∧ ttest σ2 Hb fun bb Hc =>
    if bb = true then tkey σ2 Hc fun y Hd => tval σ2 Hd fun zz He5 => ∃ kvs kk, KAt kk y He5 ∧ He5 Da = some (.dT kvs) ∧ kvs.length < sizeLine ∧ Nxt (upd He5 Da (.dT (putK kvs kk zz))) else Nxt Hc)
theorem dcT_core {pns : List (Addr × Obj)} {s : Shared} {ρ : L2.St} {H : Hp} {Qv : VK} {ke ve tgt src : Expr} {cnd : List Expr} {sco : Scope} {mine : List (Str × Nat)} {pos pos' : Pos} {wit : TI} {gt0 : TG} {ttest : TT} {tkey tval : TE} {usg : Option (Value → Sem Unit)} {Qo : Value → Shared → Prop}
    (hu : X.A.units + 64 < cLine) (calm0 : X.calm = true) (nodup0 : X.N.Nodup) (J0 : Inv X pns ρ H s) (src0 : PI X tgt src wit) (blk0 : BlkOk X.N X.env.scope sco mine)
    (tgt0 : ∀ (s : Shared) (H : Hp) (Cc : Addr) (cl : List (Str × Addr)) (fpl : List Addr), PG (X.blk s H sco (compEnvC sco cl Cc X.env) fpl) tgt gt0) (cnd0 : ∀ (s : Shared) (H : Hp) (Cc : Addr) (cl : List (Str × Addr)) (fpl : List Addr), PTs (X.blk s H sco (compEnvC sco cl Cc X.env) fpl) cnd ttest)
    (key0 : ∀ (s : Shared) (H : Hp) (Cc : Addr) (cl : List (Str × Addr)) (fpl : List Addr), PE (X.blk s H sco (compEnvC sco cl Cc X.env) fpl) ke tkey)
    (val0 : ∀ (s : Shared) (H : Hp) (Cc : Addr) (cl : List (Str × Addr)) (fpl : List Addr), PE (X.blk s H sco (compEnvC sco cl Cc X.env) fpl) ve tval) (fold0 : ∀ xv0, foldedSetIterable src X.env xv0 = pure xv0)
    (hh0 : tDcT wit gt0 ttest tkey tval (mine.map (·.2)) ρ H Qv)
    (hEnd : ∀ Da Cc st' mm H', Inv X pns ρ H' st' → Qv (.ref Da) H' → st'.heap.Ns Cc mm → FpOk X pns H' Cc → compPost (model X.prog X.w) X.A X.xe usg Qo (.ref Da) Cc (.ok .next) st') :
    wpAny (model X.prog X.w) X.A (comprehension (.DictComp ke ve [⟨tgt, src, cnd, 0⟩] sco pos) sco X.env pos' newDict false (eval src X.env) usg) Qo X.xe s := by
  have hfr : ∀ y ∈ sco.names, y.2 = .free → ∃ cq, X.env.cells.lookup y.1 = some cq := fun y hy ee => by
    rcases blk0.free y hy ee with kk | kk
    · exact J0.ok.has _ (.inl kk)
    · exact J0.ok.has _ (.inr kk)
  refine wpAny_comprehension_free (use := usg) rfl fold0 (closure_ok hfr) blk0.kind (fun y hy ee => by rw [blk0.uniq y hy, ee])
    (thn (src0.run pns s ρ H _ J0 hh0) fun xv sa hx => thn hx fun itv sb h2 => ?_)
  obtain ⟨itr, fpl, tnn, Jt, Hb, ee, Jb, Tn, stb, fb, qq0⟩ := h2
  subst ee
  refine wpAny_newObj_type (newEnv_comp ?_)
  generalize hD : sb.heap.objs.size = Da
  have hDn : Hb Da = none := Jb.hok.fresh (Nat.le_of_eq hD)
  obtain ⟨Wf, ⟨m_0, w_0⟩, turning⟩ := qq0 Da hDn
  generalize hs3 : ({ sb with heap := sb.heap.push { cls := .type "dict", data := .dict #[] } } : Shared) = sc
  have Jc : Inv X pns ρ (upd Hb Da (.dT [])) sc := by
    rw [← hs3]
    refine Jb.laid (t' := sb.toks) (fun bb oo ee => Heap.get?_push_of_some _ ee) (Nat.le_of_eq hD) ?_
    rw [← hD]
    exact dt_empty sb.heap Jb.big
  have h3 : sc.heap = sb.heap.push { cls := .type "dict", data := .dict #[] } := by rw [← hs3]
  have sz : ∀ bb ∈ fpl, bb < sb.heap.objs.size := fun bb hb => by
    obtain ⟨oo, ee, _⟩ := Tn.obj _ _ stb bb hb
    exact Heap.lt_size ee
  have fc : ∀ bb ∈ fpl, FpOk X pns (upd Hb Da (.dT [])) bb ∧ bb < sc.heap.objs.size := fun bb hb => by
    have hlt := sz bb hb
    refine ⟨⟨?_, (fb bb hb).2⟩, by rw [h3, Heap.size_push]; exact Nat.lt_succ_of_lt hlt⟩
    rw [upd_ne (by rw [← hD]; exact Nat.ne_of_lt hlt)]
    exact (fb bb hb).1
  have stc : tnn 0 sc.heap := Tn.keep _ _ _ stb fun bb _ oo ee => by rw [h3]; exact Heap.get?_push_of_some _ ee
  have Jd := block_start Jc blk0 nodup0 fc
  have pgt := tgt0 sc (upd Hb Da (.dT [])) sc.heap.objs.size (cellsFrom (sc.heap.objs.size + 1) sco.names (cloFrom X.env.cells sco.names [])) fpl
  have ptt := cnd0 sc (upd Hb Da (.dT [])) sc.heap.objs.size (cellsFrom (sc.heap.objs.size + 1) sco.names (cloFrom X.env.cells sco.names [])) fpl
  have pky := key0 sc (upd Hb Da (.dT [])) sc.heap.objs.size (cellsFrom (sc.heap.objs.size + 1) sco.names (cloFrom X.env.cells sco.names [])) fpl
  have pvl := val0 sc (upd Hb Da (.dT [])) sc.heap.objs.size (cellsFrom (sc.heap.objs.size + 1) sco.names (cloFrom X.env.cells sco.names [])) fpl
  show codeAny _ _ (.compStart (.DictComp ke ve [⟨tgt, src, cnd, 0⟩] sco pos) 0 (.ref itr) (.ref Da) (compEnvC sco (cellsFrom (sc.heap.objs.size + 1) sco.names (cloFrom X.env.cells sco.names [])) sc.heap.objs.size X.env)) (compPost (model X.prog X.w) X.A X.xe usg Qo (.ref Da) sc.heap.objs.size) { sc with heap := pushCells (sc.heap.push { cls := .type "dict", data := .dict #[] }) sco.names }
  have nofp : ∀ bb ∈ fpl, (upd Hb Da (.dT [])) bb = none := fun bb hb => (fc bb hb).1.1
  generalize hce : compEnvC sco (cellsFrom (sc.heap.objs.size + 1) sco.names (cloFrom X.env.cells sco.names [])) sc.heap.objs.size X.env = cen at Jd pgt ptt pky pvl ⊢
  have cL : cen.locals = sc.heap.objs.size := by subst hce; rfl
  generalize hH3 : upd Hb Da (.dT []) = Hc at Jc Jd pgt ptt pky pvl w_0 nofp fc
  generalize hs4 : ({ sc with heap := pushCells (sc.heap.push { cls := .type "dict", data := .dict #[] }) sco.names } : Shared) = sd at Jd ⊢
  have std : tnn 0 sd.heap := Tn.keep _ _ _ stc fun bb _ oo ee => by rw [← hs4]; exact pushCells_keeps _ _ _ _ (Heap.get?_push_of_some _ ee)
  have stable : ∀ {ρ' : L2.St} {H' : Hp} {st' : Shared}, Inv (X.blk sc Hc sco cen fpl) [] ρ' H' st' → (∀ bb ∈ fpl, H' bb = none) → ∀ bb ∈ fpl, FpOk (X.blk sc Hc sco cen fpl) [] H' bb := fun {ρ' H' st'} J' hn bb hb =>
    ⟨hn bb hb, (J'.ok.exf bb hb).1, J'.ok.exfs bb hb, .inl hb, fun xv0 cq ee => (J'.ok.exf bb hb).2 xv0 cq ee, fun p hp => absurd (show p ∈ ([] : List (Addr × Obj)) ++ [] from hp) (by simp)⟩
  have looping : codeAny (model X.prog X.w) X.A (.compLoop (.DictComp ke ve [⟨tgt, src, cnd, 0⟩] sco pos) 0 (.ref itr) (.ref Da) cen) (compPost (model X.prog X.w) X.A X.xe usg Qo (.ref Da) sc.heap.objs.size) sd := by
    refine compLoop_anyD (fun nn st' => ∃ ix H', Inv (X.blk sc Hc sco cen fpl) [] (L2.wipe ρ (mine.map (·.2))) H' st' ∧ tnn ix st'.heap ∧ (∀ bb ∈ fpl, H' bb = none) ∧ Wf ix nn H') ?_ m_0 ⟨0, Hc, Jd, std, nofp, w_0⟩
    rintro nn se ⟨ix, He5, Je, ste, ne5, we5⟩
    rcases turning ix nn He5 we5 with ⟨stop, qq⟩ | ⟨go, Nxt, hNx, stepping⟩
    · have td := Tn.done (X.blk sc Hc sco cen fpl) rfl rfl rfl calm0 ix [] se _ He5 (fun _ _ => False) Je (stable Je ne5) ste stop
      refine thnF td fun r sf ⟨hr, Jf⟩ => ?_
      subst hr
      have Jg : Inv X pns ρ He5 sf := Jc.call' (ch := fpl) Jf.os Jf.base Jf.hok Jf.bare fun bb hb => ⟨(fc bb hb).1.2.2.2.1, (fc bb hb).1.2.1, (fc bb hb).1.2.2.2.2.1, (fc bb hb).1.2.2.2.2.2⟩
      have nC : He5 sc.heap.objs.size = none := by
        have zz : He5 cen.locals = none := Jf.free
        rw [cL] at zz
        exact zz
      obtain ⟨mm, hn, _⟩ := Jf.loc
      have hn : sf.heap.Ns cen.locals mm := hn
      rw [cL] at hn
      exact hEnd Da sc.heap.objs.size sf mm He5 Jg qq hn (Jc.fpOk (Nat.le_refl _) nC)
    · have ti := Tn.item (X.blk sc Hc sco cen fpl) rfl rfl rfl calm0 ix [] se _ He5 (fun _ _ => False) Je (stable Je ne5) ste go
      refine thnF ti fun r sf ⟨uv, hr, h6⟩ => ?_
      subst hr
      refine thnF h6 fun _ sg ⟨xv0, Hg, Jg, rg, yg, stg, ng7⟩ => ?_
      have Jg' := Jg.pinned (stable Jg ng7) (Tn.obj _ _ stg)
      refine thnF (pgt.run _ sg _ Hg xv0 uv _ Jg' rg (stepping xv0 Hg yg)) fun _ sh ⟨ρh, Hh, Jh, hwh, qh⟩ => ?_
      refine thnF (ptt.run _ sh ρh Hh _ Jh qh) fun bb si ⟨Hi, Ji, qi⟩ => ?_
      have fin : ∀ {st' : Shared} {H' : Hp}, Inv (X.blk sc Hc sco cen fpl) ([] ++ pinsAt fpl sg.heap) ρh H' st' → Nxt H' → ∃ mm, mm < nn ∧ ∃ ix H', Inv (X.blk sc Hc sco cen fpl) [] (L2.wipe ρ (mine.map (·.2))) H' st' ∧ tnn ix st'.heap ∧ (∀ bb ∈ fpl, H' bb = none) ∧ Wf ix mm H' := fun {st' H'} J' nx0 => by
        obtain ⟨mn', hm, wn'⟩ := hNx H' nx0
        have pin' : ∀ bb ∈ fpl, ∀ oo, sg.heap.get? bb = some oo → st'.heap.get? bb = some oo ∧ H' bb = none := fun bb hb oo ee =>
          let zz := J'.pin (bb, oo) (List.mem_append_right _ (List.mem_append_right _ (mem_pinsAt hb ee)))
          ⟨zz.1, zz.2.1⟩
        have hl : (L2.wipe ρ (mine.map (·.2))).length = ρh.length := by rw [← hwh, wipe_length]
        refine ⟨mn', hm, ix + 1, H', (J'.unpinned (pins := [])).weak hl (fun j vv ee => ?_), Tn.keep _ _ _ stg fun bb hb oo ee => (pin' bb hb oo ee).1, fun bb hb => ?_, wn'⟩
        · rw [← hwh] at ee
          exact (wipe_some ee).1
        · obtain ⟨oo, ee, _⟩ := Tn.obj _ _ stg bb hb
          exact (pin' bb hb oo ee).2
      cases bb with
      | false =>
        simp only [Bool.false_eq_true, if_false] at qi ⊢
        exact fin Ji qi
      | true =>
        simp only [if_true] at qi ⊢
        refine thnF (pky.run _ si ρh Hi _ Ji qi) fun zz sj ⟨yk, Hj, Jj, rj, q10⟩ => ?_
        refine thnF (pvl.run _ sj ρh Hj _ Jj q10) fun z2 sk ⟨yv, Hk, Jk, rk, kvs, kk, ⟨bk, ek, hb11⟩, hD11, hz11, nx0⟩ => ?_
        subst ek
        exact dt_store (X := X.blk sc Hc sco cen fpl) hu Jk hD11 hb11 hz11 rj rk fun sl Jl => fin Jl nx0
  exact codeAny_compStart_dict looping (Tn.self X.A 0 _ _ _ std looping)
/-- as a value -/
theorem pe_dcT {ke ve tgt src : Expr} {cnd : List Expr} {sco : Scope} {mine : List (Str × Nat)} {pos : Pos} {wit : TI} {gt0 : TG} {ttest : TT} {tkey tval : TE} (hu : X.A.units + 64 < cLine) (calm0 : X.calm = true) (nodup0 : X.N.Nodup) (src0 : PI X tgt src wit) (blk0 : BlkOk X.N X.env.scope sco mine)
    (tgt0 : ∀ (s : Shared) (H : Hp) (Cc : Addr) (cl : List (Str × Addr)) (fpl : List Addr), PG (X.blk s H sco (compEnvC sco cl Cc X.env) fpl) tgt gt0) (cnd0 : ∀ (s : Shared) (H : Hp) (Cc : Addr) (cl : List (Str × Addr)) (fpl : List Addr), PTs (X.blk s H sco (compEnvC sco cl Cc X.env) fpl) cnd ttest)
    (key0 : ∀ (s : Shared) (H : Hp) (Cc : Addr) (cl : List (Str × Addr)) (fpl : List Addr), PE (X.blk s H sco (compEnvC sco cl Cc X.env) fpl) ke tkey)
    (val0 : ∀ (s : Shared) (H : Hp) (Cc : Addr) (cl : List (Str × Addr)) (fpl : List Addr), PE (X.blk s H sco (compEnvC sco cl Cc X.env) fpl) ve tval) (fold0 : ∀ xv0, foldedSetIterable src X.env xv0 = pure xv0 := by intro _; rfl) :
    PE X (.DictComp ke ve [⟨tgt, src, cnd, 0⟩] sco pos) (tDcT wit gt0 ttest tkey tval (mine.map (·.2))) := by
  refine ⟨fun pns s ρ H Qv J0 hh0 => ?_⟩
  rw [arm_eval_DictComp]
  refine dcT_core hu calm0 nodup0 J0 src0 blk0 tgt0 cnd0 key0 val0 fold0 hh0 fun Da Cc st' mm H' J' qq0 hn f => ⟨mm, hn, fun h'' sb => ?_⟩
  obtain ⟨f0, f1, fb, fc, f4, f5⟩ := f
  exact ⟨.ref Da, H', J'.turned (t' := st'.toks) (fun bb oo hb ee => (sb.2 bb hb).trans ee) f0 f1 fc f4 f5, rfl, qq0⟩
end
end Tk
end
section
set_option linter.all false
set_option maxRecDepth 100000
set_option maxHeartbeats 4000000
/-! {k: v for .. in ..}: its soundness. -/
namespace Tk
open PySem PySem.Spec PyProof.Rows L2
section
variable {κ : Type} [DecidableEq κ]
theorem putK_hd {k' k : κ} {v' y : V} {r : List (κ × V)} (h : k' = k) (nd : k ∉ r.map (·.1)) : putK ((k', v') :: r) k y = (k', y) :: r := by
  have e : r.map (fun kv => if kv.1 = k then (kv.1, y) else kv) = r := by
    have : ∀ p ∈ r, (fun kv : κ × V => if kv.1 = k then (kv.1, y) else kv) p = id p := fun p hp => if_neg fun (e : p.1 = k) => nd (by rw [← e]; exact List.mem_map_of_mem hp)
    rw [List.map_congr_left this, List.map_id]
  unfold putK
  rw [if_pos (by simp [h]), List.map_cons, if_pos h, e]
theorem putK_tl {k' k : κ} {v' y : V} {r : List (κ × V)} (h : k' ≠ k) : putK ((k', v') :: r) k y = (k', v') :: putK r k y := by
  unfold putK
  by_cases c : (r.any fun kv => decide (kv.1 = k)) = true
  · rw [if_pos (by rw [List.any_cons, c, Bool.or_true]), if_pos c, List.map_cons, if_neg h]
  · rw [if_neg (by rw [List.any_cons, decide_eq_false h, Bool.false_or]; exact c), if_neg c]
    rfl
theorem put_ows {K : PySem.W.Frag} {Hf H : Hp} {kd : κ → D} (inj : ∀ a b, kd a = kd b → a = b) {k : κ} {y : V} {t : OT} {F : Fp} (oy : Ow K Hf H y t F) : ∀ {kvs : List (κ × V)} {ts : List OT} {G : Fp}, (kvs.map (·.1)).Nodup → Ows K Hf H (kvs.map (·.2)) ts G → (∀ b, G b → F b → False) →
    Ows K Hf H ((putK kvs k y).map (·.2)) (putD (kvs.map fun p => kd p.1) ts (kd k) t).2 (fun b => G b ∨ F b) ∧ (putD (kvs.map fun p => kd p.1) ts (kd k) t).1 = (putK kvs k y).map (fun p => kd p.1) ∧ ((putK kvs k y).map (·.1)).Nodup ∧ ∀ x, x ∈ (putK kvs k y).map (·.1) → x ∈ kvs.map (·.1) ∨ x = k
  | [], ts, G, nd, q, d => by
    cases ts with
    | nil => exact ⟨.cons (G := fun _ => False) oy .nil (fun _ z => .inr z) (fun _ z => z.elim) fun _ _ z => z, rfl, by simp [putK], fun x hx => .inr (by simpa [putK] using hx)⟩
    | cons t ts => cases q
  | (k', v') :: r, t' :: ts, G, nd, .cons (F := F1) (G := G1) h q h1 h2 h3, d => by
    have nd' := List.nodup_cons.mp nd
    by_cases e : k' = k
    · rw [putK_hd e (by rw [← e]; exact nd'.1)]
      have e1 : putD (((k', v') :: r).map fun p => kd p.1) (t' :: ts) (kd k) t = (kd k' :: r.map (fun p => kd p.1), t :: ts) := if_pos (congrArg kd e)
      rw [e1]
      exact ⟨.cons (F := F) (G := G1) oy q (fun _ z => .inr z) (fun b z => .inl (h2 b z)) fun b z w => d b (h2 b w) z, rfl, nd, fun x hx => .inl hx⟩
    · rw [putK_tl e]
      obtain ⟨i1, i2, i3, i4⟩ := put_ows (k := k) inj oy nd'.2 q fun b z w => d b (h2 b z) w
      have e1 : putD (((k', v') :: r).map fun p => kd p.1) (t' :: ts) (kd k) t = (kd k' :: (putD (r.map fun p => kd p.1) ts (kd k) t).1, t' :: (putD (r.map fun p => kd p.1) ts (kd k) t).2) := if_neg fun z => e (inj _ _ z)
      rw [e1]
      refine ⟨.cons (F := F1) h i1 (fun b z => .inl (h1 b z)) (fun b z => ?_) (fun b z w => ?_), by rw [i2]; rfl, List.nodup_cons.mpr ⟨fun hx => ?_, i3⟩, fun x hx => ?_⟩
      · rcases z with z | z
        · exact .inl (h2 b z)
        · exact .inr z
      · rcases w with w | w
        · exact h3 b z w
        · exact d b (h1 b z) w
      · rcases i4 _ hx with z | z
        · exact nd'.1 z
        · exact e z
      · rcases List.mem_cons.mp hx with z | z
        · rw [z]; exact .inl List.mem_cons_self
        · rcases i4 _ z with z | z
          · exact .inl (List.mem_cons_of_mem _ z)
          · exact .inr z
end
theorem turnD_inv {tk keep : Bool} {gd : GenD} {κ δ : Den} {d : D} {acc acc2 : List D × List OT} {S T : SS} (h : turnD tk keep gd κ δ d acc S = .ok acc2 T) : ∃ T1 b T2, setT gd.tg d S = some T1 ∧ evIfs gd.ifs T1 = .ok b T2 ∧
    ((b = true ∧ ∃ kd T3 u, κ.v T2 = .ok kd T3 ∧ δ.v T3 = .ok u T ∧ keyK kd.frz = kindT tk ∧ acc.1.length < lim ∧ acc2 = putD acc.1 acc.2 kd.frz (keepT keep u)) ∨ (b = false ∧ acc2 = acc ∧ T = T2)) := by
  unfold turnD at h
  cases e : setT gd.tg d S with
  | none => rw [e] at h; cases h
  | some T1 =>
    rw [e] at h
    obtain ⟨b, T2, e1, h⟩ := bind_ok (noX_ok h)
    refine ⟨T1, b, T2, rfl, e1, ?_⟩
    cases b with
    | false =>
      rw [if_neg (by decide)] at h
      cases h
      exact .inr ⟨rfl, rfl, rfl⟩
    | true =>
      rw [if_pos rfl] at h
      obtain ⟨kd, T3, e2, h⟩ := bind_ok h
      obtain ⟨u, T4, e3, h⟩ := bind_ok h
      have h : (if keyK kd.frz = kindT tk ∧ acc.1.length < lim then Tk.R.ok (putD acc.1 acc.2 kd.frz (keepT keep u)) T4 else .bad) = .ok acc2 T := h
      by_cases hc : keyK kd.frz = kindT tk ∧ acc.1.length < lim
      · rw [if_pos hc] at h
        cases h
        exact .inl ⟨rfl, kd, T3, u, e2, e3, hc.1, hc.2, rfl⟩
      · rw [if_neg hc] at h
        cases h
theorem loopD_noexc {own : List Nat} {tk keep : Bool} {gd : GenD} {κ δ : Den} : ∀ (ds : List D) (acc : List D × List OT) (S : SS) (x : D) (S' : SS), loopW own (turnD tk keep gd κ δ) ds acc S ≠ .exc x S'
  | [], acc, S, x, S', h => by cases h
  | d :: ds, acc, S, x, S', h => by
    have h : (turnD tk keep gd κ δ d acc S).bind (fun b' S' => loopW own (turnD tk keep gd κ δ) ds b' (wipeS S' own)) = .exc x S' := h
    cases e : turnD tk keep gd κ δ d acc S with
    | ok b T => rw [e] at h; exact loopD_noexc ds b _ x S' h
    | bad => rw [e] at h; cases h
    | exc y T =>
      clear h
      unfold turnD at e
      split at e
      · cases e
      · generalize ((evIfs gd.ifs _).bind _) = r at e
        cases r <;> cases e
structure DKind (K : PySem.W.Frag) {κ : Type} [DecidableEq κ] (mk : List (κ × V) → HO) (kd : κ → D) : Prop where
  inj : ∀ a b, kd a = kd b → a = b
  ow : ∀ {Hf H : Hp} {a : Addr} {kvs : List (κ × V)} {ks : List D} {ts : List OT} {F G : Fp}, H a = some (mk kvs) → Hf a = none → F a → (∀ b, G b → F b) → ¬ G a → ks = kvs.map (fun p => kd p.1) → Ows K Hf H (kvs.map (·.2)) ts G → Ow K Hf H (.ref a) (.dic ks ts) F
def tDg {κ : Type} [DecidableEq κ] (mk : List (κ × V) → HO) (KA : κ → V → Hp → Prop) (wi : TI) (g : TG) (tt : TT) (tk tv : TE) (vs : List Nat) : TE := fun σ H Q => wi σ H fun J H1 => ∀ dd, H1 dd = none → ∃ Wt : Nat → Nat → Hp → Prop, (∃ m, Wt 0 m (upd H1 dd (mk []))) ∧ ∀ i m H, Wt i m H →
  (J.stop i H ∧ Q (.ref dd) H) ∨ (J.go i H ∧ ∃ Nx : Hp → Prop, (∀ H', Nx H' → ∃ m', m' < m ∧ Wt (i + 1) m' H') ∧ ∀ x H', J.yld i H x H' → g x (L2.wipe σ vs) H' fun σ2 H2 => L2.wipe σ2 vs = L2.wipe σ vs ∧ tt σ2 H2 fun b H3 =>
    if b = true then tk σ2 H3 fun y H4 => tv σ2 H4 fun z H5 => ∃ kvs k, KA k y H5 ∧ H5 dd = some (mk kvs) ∧ kvs.length < sizeLine ∧ Nx (upd H5 dd (mk (putK kvs k z))) else Nx H3)
section
variable {X : Cx} {W : WX} {t : Tg} {gt : TG} {fi : SS → R (List D)} {fs : List Den} {κd δ : Den} {vs : List Nat} {p pi tk keep : Bool} {κ : Type} [DecidableEq κ] {mk : List (κ × V) → HO} {kd : κ → D} {KA : κ → V → Hp → Prop} {tkey : TE}
theorem dcomp_v (Kd : DKind X.K mk kd) (hpp : p = true → pi = true ∧ allP fs = true ∧ κd.p = true ∧ δ.p = true) (hvs : ∀ j, j < X.N.length → j ∉ vs → j ∈ ((List.range X.N.length).filter fun j => decide (j ∉ vs)))
    (run : ∀ {S S' : SS} {σ : L2.St} {Hf H : Hp} {Φ : Fp} {Fs : Nat → Fp} {v : V} {d : D} {Q : L2.St → Hp → Prop}, Rel X.K S σ Hf H Φ Fs → Fz X.K Hf v d → setT t d S = some S' →
      (∀ σ' Fs', Rel X.K S' σ' Hf H Φ Fs' → Sb ((List.range X.N.length).filter fun j => decide (j ∉ vs)) σ σ' → Q σ' H) → gt v σ H Q)
    (hkey : ∀ {S S1 : SS} {σ : L2.St} {Hf H : Hp} {Φ : Fp} {Fs : Nat → Fp} {u : OT} {Q : V → Hp → Prop}, Rel X.K S σ Hf H Φ Fs → κd.v S = .ok u S1 → keyK u.frz = kindT tk →
      (∀ (y : V) (H1 Hf1 : Hp) (Fs1 : Nat → Fp) (k : κ) (F : Fp), kd k = u.frz → Rel X.K S1 σ Hf1 H1 (fun b => Φ b ∨ F b) Fs1 → Kp κd.p Φ Hf H Hf1 H1 → (∀ H2 : Hp, (∀ b, F b → H2 b = H1 b) → KA k y H2) → Q y H1) → tkey σ H Q)
    {pins0 : List (Addr × Obj)} {s0 : Shared} {σ : L2.St} {H : Hp} {Q : VK} (I0 : Inv X pins0 σ H s0) (w : tV X.K W p (dDcomp p tk keep vs κd δ [⟨t, fi, fs⟩]).v σ H Q) :
    tDg mk KA (tIt X.K W pi p fi) gt (tTs X.K WF (allP fs) (evIfs fs)) tkey (tV X.K WF δ.p δ.v) vs σ H Q := by
  obtain ⟨S, Hf, Φ, Fs, R, o⟩ := w
  generalize hf : turnD tk keep ⟨t, fi, fs⟩ κd δ = f at *
  have o : Out X.K W σ p Φ Hf H ((fi S).bind fun ds S1 => (loopW vs f ds ([], []) (wipeS S1 vs)).bind fun acc T => Tk.R.ok (OT.dic acc.1 acc.2) (backL S1 T vs)) (fun t _ Hf' H' Fs' => ∀ v F, Ow X.K Hf' H' v t F → Off F Φ H' Fs' → Q v H') := by rw [← hf]; exact o
  refine ⟨S, Hf, Φ, Fs, R, (o.bind (q := pi) (q2 := p) (fun z => (hpp z).1) (fun z => z)).imp fun ds S1 Hf1 H1 Fs1 _ R1 k1 o1 J itok dd hD => ?_⟩
  have nΦ : ¬ Φ dd := fun z => R1.hΦ dd z hD
  obtain ⟨Fs2, R2, sub2⟩ := R1.wipe2 vs
  have R3 : Rel X.K (wipeS S1 vs) (L2.wipe σ vs) Hf1 (upd H1 dd (mk [])) (fun b => Φ b ∨ (b = dd ∨ False)) Fs2 := (R2.lay hD).frame fun b z => by
    rcases z with z | z
    · subst z
      exact ⟨nΦ, by rw [upd_same]; simp, fun j y => R2.hF j b y hD⟩
    · exact z.elim
  refine ⟨fun i m H' => m = ds.length - i ∧ i ≤ ds.length ∧ ∃ S' Hf' Fs' G kvs ts, Rel X.K S' (L2.wipe σ vs) Hf' H' (fun b => Φ b ∨ (b = dd ∨ G b)) Fs' ∧ H' dd = some (mk kvs) ∧ Hf' dd = none ∧ ¬ G dd ∧ (∀ b, G b → ¬ Φ b) ∧ (kvs.map (·.1)).Nodup ∧ Ows X.K Hf' H' (kvs.map (·.2)) ts G ∧ Kp p Φ Hf1 H1 Hf' H' ∧ loopW vs f ds ([], []) (wipeS S1 vs) = loopW vs f (ds.drop i) (kvs.map (fun p => kd p.1), ts) S',
    ⟨_, rfl, Nat.zero_le _, wipeS S1 vs, Hf1, Fs2, fun _ => False, [], [], R3, upd_same, fr0 R1.same hD, fun z => z, fun _ z => z.elim, by simp, .nil, (Kp.refl).updD hD nΦ, rfl⟩, fun i m H' ⟨hm, hle, S', Hf', Fs', G, kvs, ts, R', hDx, hfD, nG, offG, nd, ows, k', eqn⟩ => ?_⟩
  obtain ⟨stop, go⟩ := itok i Hf' H' k'.fz R'.same fun z => k'.pure z
  rw [eqn] at o1
  by_cases hl : ds.length ≤ i
  · left
    refine ⟨stop hl, ?_⟩
    rw [List.drop_eq_nil_of_le hl] at o1
    have R4 := rel_backL R1 R' k'.fz fun b z => .inl z
    refine o1 H' Hf' _ R4 k' (.ref dd) (fun b => G b ∨ b = dd) (Kd.ow (G := G) hDx hfD (.inr rfl) (fun _ z => .inl z) nG rfl ows) fun b z => ?_
    rcases z with z | z
    · exact ⟨offG b z, R'.hΦ b (.inr (.inr z)), fun j y => R'.off j b y.2 (.inr (.inr z))⟩
    · subst z
      exact ⟨nΦ, by rw [hDx]; simp, fun j y => R'.off j b y.2 (.inr (.inl rfl))⟩
  · right
    have hlt : i < ds.length := by omega
    have hd : ds[i]? = some ds[i] := List.getElem?_eq_getElem hlt
    obtain ⟨g1, y⟩ := go _ hd
    rw [List.drop_eq_getElem_cons hlt] at o1 eqn
    cases et : f ds[i] (kvs.map (fun p => kd p.1), ts) S' with
    | bad =>
      exfalso
      have e : loopW vs f (ds[i] :: ds.drop (i + 1)) (kvs.map (fun p => kd p.1), ts) S' = .bad := by show (f ds[i] (kvs.map (fun p => kd p.1), ts) S').bind _ = _; rw [et]; rfl
      rw [e] at o1
      exact o1
    | exc x T =>
      exfalso
      have := loopD_noexc (own := vs) (tk := tk) (keep := keep) (gd := ⟨t, fi, fs⟩) (κ := κd) (δ := δ) [ds[i]] (kvs.map (fun p => kd p.1), ts) S' x T
      rw [hf] at this
      exact this (by show (f ds[i] (kvs.map (fun p => kd p.1), ts) S').bind _ = _; rw [et]; rfl)
    | ok acc2 T =>
      have eqn2 : loopW vs f ds ([], []) (wipeS S1 vs) = loopW vs f (ds.drop (i + 1)) acc2 (wipeS T vs) := by
        rw [eqn]
        show (f ds[i] (kvs.map (fun p => kd p.1), ts) S').bind _ = _
        rw [et]
        rfl
      refine ⟨g1, fun H2 => ∃ m', m' < m ∧ (m' = ds.length - (i + 1) ∧ i + 1 ≤ ds.length ∧ ∃ S' Hf' Fs' G kvs ts, Rel X.K S' (L2.wipe σ vs) Hf' H2 (fun b => Φ b ∨ (b = dd ∨ G b)) Fs' ∧ H2 dd = some (mk kvs) ∧ Hf' dd = none ∧ ¬ G dd ∧ (∀ b, G b → ¬ Φ b) ∧ (kvs.map (·.1)).Nodup ∧ Ows X.K Hf' H2 (kvs.map (·.2)) ts G ∧ Kp p Φ Hf1 H1 Hf' H2 ∧ loopW vs f ds ([], []) (wipeS S1 vs) = loopW vs f (ds.drop (i + 1)) (kvs.map (fun p => kd p.1), ts) S'), fun _ z => z, fun x H2 hy => ?_⟩
      obtain ⟨Hf2, F, N⟩ := y x H2 hy
      rw [← hf] at et
      obtain ⟨T1, b, T2, es, eif, rest⟩ := turnD_inv et
      have R4 := N.rel R'
      refine run R4 (by cases N.ow with | leaf h => exact h) es fun σ2 Fs3 R5 sb => ?_
      have hw : L2.wipe σ2 vs = L2.wipe σ vs := by
        have hl2 : σ2.length = σ.length := by
          rw [← R5.len, setT_len.1 _ _ _ _ es, R'.len, wipe_length]
        refine wipe_eq hl2 fun j hj => ?_
        by_cases hjl : j < X.N.length
        · have e := sb j (hvs j hjl hj)
          rw [e, L2.wipe_out hj]
        · rw [List.getElem?_eq_none (by rw [hl2, I0.len]; omega), List.getElem?_eq_none (by rw [I0.len]; omega)]
      refine ⟨hw, T1, Hf2, _, Fs3, R5, ?_⟩
      rw [eif]
      intro H3 Hf3 Fs4 R6 k6
      have kN : Kp p (fun b => Φ b ∨ (b = dd ∨ G b)) Hf' H' Hf2 H2 := N.kp R'
      have k6 : Kp p (fun b => Φ b ∨ (b = dd ∨ G b)) Hf2 H2 Hf3 H3 := k6.low fun z => (hpp z).2.1
      have kA := kN.trans k6
      rcases rest with ⟨hb, ku, T3, u, ek, eu, hkk, hlim, ets⟩ | ⟨hb, ets, eT⟩
      · subst hb ets
        show (if true = true then tkey σ2 H3 _ else _)
        rw [if_pos rfl]
        refine hkey R6 ek hkk fun yk H3b Hf3b Fs4b k Fk ekd R6b k6b kat => ?_
        have kA := kA.trans (k6b.low fun z => (hpp z).2.2.1)
        refine ⟨T3, Hf3b, _, Fs4b, R6b, ?_⟩
        rw [eu]
        intro H4 Hf4 Fs5 R7 k7 yv F1 ow off
        have kB := kA.trans ((k7.low (q := p) fun z => (hpp z).2.2.2).sub fun b z => .inl z)
        obtain ⟨Hf5, F2, R8, k8, ow2, off2⟩ := keep_ow keep p R7 ow off
        have kC := kB.trans (k8.sub fun b z => .inl z)
        have hD4 : H4 dd = some (mk kvs) := by rw [kC.keep dd (.inr (.inl rfl))]; exact hDx
        have hlk : kvs.length < sizeLine := by have := hlim; rw [List.length_map] at this; exact this
        refine ⟨kvs, k, kat H4 fun b z => k7.keep b (.inr z), hD4, hlk, ?_⟩
        obtain ⟨Fs6, R9, sub9⟩ := R8.wipe2 vs
        rw [hw] at R9
        have R9 := R9.unframe (fun b (z : Φ b ∨ (b = dd ∨ G b)) => Or.inl (b := Fk b) z)
        have hf5 : Hf5 dd = none := kC.nof dd (.inr (.inl rfl)) hfD
        have n2 : ¬ F2 dd := fun z => (off2 dd z).1 (.inl (.inr (.inl rfl)))
        have R11 := (R9.updD (D := dd) (o := mk (putK kvs k yv)) (.inr (.inl rfl)) hf5).frame (F := F2) fun b z => ⟨fun q => (off2 b z).1 (.inl q), upd_more b (off2 b z).2.1, fun j w => (off2 b z).2.2 j (sub9 j b w)⟩
        have eΦ : (fun b => (Φ b ∨ (b = dd ∨ G b)) ∨ F2 b) = fun b => Φ b ∨ (b = dd ∨ (G b ∨ F2 b)) := by
          funext b
          apply propext
          constructor
          · rintro ((z | z | z) | z)
            · exact .inl z
            · exact .inr (.inl z)
            · exact .inr (.inr (.inl z))
            · exact .inr (.inr (.inr z))
          · rintro (z | z | z | z)
            · exact .inl (.inl z)
            · exact .inl (.inr (.inl z))
            · exact .inl (.inr (.inr z))
            · exact .inr z
        have R11 : Rel X.K (wipeS T vs) (L2.wipe σ vs) Hf5 (upd H4 dd (mk (putK kvs k yv))) (fun b => Φ b ∨ (b = dd ∨ (G b ∨ F2 b))) Fs6 := by rw [← eΦ]; exact R11
        have st : ∀ {Z : Fp}, ¬ Z dd → Stay Z Hf5 H4 Hf5 (upd H4 dd (mk (putK kvs k yv))) := fun {Z} hz => ⟨Same.refl _, fun _ _ z => z, fun b o zb e => by rw [upd_ne fun q => hz (by rw [← q]; exact zb)]; exact e⟩
        obtain ⟨rows, hks, hnd, _⟩ := put_ows (k := k) Kd.inj (ow2.stay (st n2)) nd ((ows.stay (kC.stay fun b z => .inr (.inr z))).stay (st nG)) fun b z w => (off2 b w).1 (.inl (.inr (.inr z)))
        rw [← ekd] at eqn2
        have e9 : putD (kvs.map fun p => kd p.1) ts (kd k) (keepT keep u) = ((putK kvs k yv).map fun p => kd p.1, (putD (kvs.map fun p => kd p.1) ts (kd k) (keepT keep u)).2) := Prod.ext hks rfl
        rw [e9] at eqn2
        exact ⟨ds.length - (i + 1), by omega, rfl, by omega, wipeS T vs, Hf5, Fs6, fun b => G b ∨ F2 b, putK kvs k yv, _, R11, upd_same, hf5, fun z => z.elim nG n2, fun b z => z.elim (offG b) fun z w => (off2 b z).1 (.inl (.inl w)), hnd, rows, (k'.trans (kC.sub fun b z => .inl z)).updD hD nΦ, eqn2⟩
      · subst hb ets eT
        show (if false = true then _ else _)
        rw [if_neg (by decide)]
        obtain ⟨Fs6, R9, sub9⟩ := R6.wipe2 vs
        rw [hw] at R9
        have hD3 : H3 dd = some (mk kvs) := by rw [kA.keep dd (.inr (.inl rfl))]; exact hDx
        exact ⟨ds.length - (i + 1), by omega, rfl, by omega, wipeS T vs, Hf3, Fs6, G, kvs, _, R9, hD3, kA.nof dd (.inr (.inl rfl)) hfD, nG, offG, nd, ows.stay (kA.stay fun b z => .inr (.inr z)), k'.trans (kA.sub fun b z => .inl z), eqn2⟩
end
end Tk
end
section
set_option linter.all false
set_option maxRecDepth 100000
set_option maxHeartbeats 4000000
/-! the two kinds of dict comprehensions -/
namespace Tk
open PySem PySem.Spec PyProof.Rows L2
theorem keyD_in : ∀ a b : Key, keyD a = keyD b → a = b
  | .inl _, .inl _, e => by cases e; rfl
  | .inr _, .inr _, e => by cases e; rfl
  | .inl _, .inr _, e => by cases e
  | .inr _, .inl _, e => by cases e
theorem keyDs_in : ∀ a b : List Key, a.map keyD = b.map keyD → a = b
  | [], [], _ => rfl
  | [], _ :: _, e => by cases e
  | _ :: _, [], e => by cases e
  | a :: as, b :: bs, e => by
    have e := List.cons.inj (show keyD a :: as.map keyD = keyD b :: bs.map keyD from e)
    rw [keyD_in a b e.1, keyDs_in as bs e.2]
theorem dk_kind {K : PySem.W.Frag} : DKind K (κ := Key) HO.dK keyD := ⟨keyD_in, fun h1 h2 h3 h4 h5 e r => .dicK h1 h2 h3 h4 h5 e r⟩
theorem dt_kind {K : PySem.W.Frag} : DKind K (κ := List Key) HO.dT fun k => D.tup (k.map keyD) := ⟨fun a b e => keyDs_in a b (D.tup.inj e), fun h1 h2 h3 h4 h5 e r => .dicT h1 h2 h3 h4 h5 e r⟩
theorem key_one {d : D} (h : keyK d = 1) : ∃ k : Key, keyD k = d := by
  cases d with
  | int i => exact ⟨.inl i, rfl⟩
  | str x => exact ⟨.inr x, rfl⟩
  | tup ds =>
    have h : (if keyT ds then 2 else 0) = 1 := h
    split at h <;> cases h
  | _ => cases h
theorem key_two {d : D} (h : keyK d = 2) : ∃ ds, d = .tup ds ∧ keyT ds = true := by
  cases d with
  | tup ds =>
    have h : (if keyT ds then 2 else 0) = 2 := h
    split at h
    · rename_i e; exact ⟨ds, rfl, e⟩
    · cases h
  | int i => cases h
  | str x => cases h
  | _ => cases h
theorem keys_of {K : PySem.W.Frag} {H : Hp} : ∀ {vs : List V} {ds : List D}, Fzs K H vs ds → keyT ds = true → ∃ k : List Key, ds = k.map keyD ∧ vs = k.map kV
  | _, _, .nil, _ => ⟨[], rfl, rfl⟩
  | _, _, .cons (d := d) (ds := ds) h r, e => by
    have e : (isKey1 d && keyT ds) = true := e
    have e := Bool.and_eq_true_iff.mp e
    obtain ⟨k, e1, e2⟩ := keys_of r e.2
    cases d with
    | int i => cases h; exact ⟨.inl i :: k, by rw [e1]; rfl, by rw [e2]; rfl⟩
    | str x => cases h; exact ⟨.inr x :: k, by rw [e1]; rfl, by rw [e2]; rfl⟩
    | _ => cases e.1
theorem opt_ok {α : Type} {S S' : SS} {o : Option α} {a : α} (h : R.opt S o = .ok a S') : o = some a ∧ S' = S := by
  cases o with
  | none => cases h
  | some b => cases h; exact ⟨rfl, rfl⟩
section
variable {X : Cx} {W : WX} {tg iter kx vx : Expr} {ifs es : List Expr} {t : Tg} {gt : TG} {fi : SS → R (List D)} {fs kds : List Den} {κd δ : Den} {scope : Scope} {own : List (Str × Nat)} {pos : Pos} {p pi keep : Bool}
theorem own_in {j : Nat} {vs : List Nat} (h1 : j < X.N.length) (h2 : j ∉ vs) : j ∈ ((List.range X.N.length).filter fun j => decide (j ∉ vs)) := List.mem_filter.mpr ⟨List.mem_range.mpr h1, by simpa using h2⟩
theorem snd_dcompK (hc : X.calm = true) (hN : X.N.Nodup) (hi : ItSnd X W p tg iter pi fi) (ok : BlkOk X.N X.env.scope scope own) (hpp : p = true → pi = true ∧ allP fs = true ∧ κd.p = true ∧ δ.p = true) (hown : t.free ((List.range X.N.length).filter fun j => decide (j ∉ own.map (·.2))) = true)
    (hg : ∀ (s : Shared) (H : Hp) (C : Addr) (cl : List (Str × Addr)) (fp : List Addr), TgOk (X.blk s H scope (compEnvC scope cl C X.env) fp) ((List.range X.N.length).filter fun j => decide (j ∉ own.map (·.2))) tg t gt)
    (ht : ∀ (s : Shared) (H : Hp) (C : Addr) (cl : List (Str × Addr)) (fp : List Addr), PTs (X.blk s H scope (compEnvC scope cl C X.env) fp) ifs (tTs X.K WF (allP fs) (evIfs fs)))
    (hk : ∀ (s : Shared) (H : Hp) (C : Addr) (cl : List (Str × Addr)) (fp : List Addr), PE (X.blk s H scope (compEnvC scope cl C X.env) fp) kx (tV X.K WF κd.p κd.v))
    (he : ∀ (s : Shared) (H : Hp) (C : Addr) (cl : List (Str × Addr)) (fp : List Addr), PE (X.blk s H scope (compEnvC scope cl C X.env) fp) vx (tV X.K WF δ.p δ.v)) (hs : ∀ x, foldedSetIterable iter X.env x = pure x) (hpt : PlainT X (.DictComp kx vx [⟨tg, iter, ifs, 0⟩] scope pos)) :
    Snd X W (.DictComp kx vx [⟨tg, iter, ifs, 0⟩] scope pos) (dDcomp p false keep (own.map (·.2)) κd δ [⟨t, fi, fs⟩]) := by
  have hv : PE X (.DictComp kx vx [⟨tg, iter, ifs, 0⟩] scope pos) (tV X.K W p (dDcomp p false keep (own.map (·.2)) κd δ [⟨t, fi, fs⟩]).v) := (pe_dc hc hN hi.pi ok (fun s H C cl fp => (hg s H C cl fp).pg) ht hk he hs).weakI fun pins0 s0 σ H Q I0 w =>
    dcomp_v (X := X) (KA := fun k y _ => y = kV k) dk_kind hpp (fun j h1 h2 => own_in h1 h2) (fun R fz e q => (hg X.s_0 X.H_0 0 [] []).run hown R fz e q) (fun {S S1 σ Hf H Φ Fs u Q} R ek hkk q => ⟨S, Hf, Φ, Fs, R, by
      rw [ek]
      intro H' Hf' Fs' R' k' v F ow off
      obtain ⟨k, e⟩ := key_one hkk
      have fz := ow.frozen
      rw [← e] at fz
      have ev : v = kV k := by cases k <;> cases fz <;> rfl
      exact q v H' Hf' Fs' k (fun _ => False) e (R'.frame fun b z => z.elim) k' fun H2 _ => ev⟩) I0 w
  refine snd_of hv (fun hp S => ?_) (pt_of hv hpt)
  exact bind_exc (hi.nx (hpp hp).1 S) fun ds S1 _ => bind_exc (loopD_noexc _ _ _) fun _ _ _ => ok_exc _
theorem snd_dcompT {x1 : Nat} {p2 : Pos} (hu : X.A.units + 64 < cLine) (hc : X.calm = true) (hN : X.N.Nodup) (hi : ItSnd X W p tg iter pi fi) (ok : BlkOk X.N X.env.scope scope own) (hpp : p = true → pi = true ∧ allP fs = true ∧ allP kds = true ∧ δ.p = true)
    (hown : t.free ((List.range X.N.length).filter fun j => decide (j ∉ own.map (·.2))) = true)
    (hg : ∀ (s : Shared) (H : Hp) (C : Addr) (cl : List (Str × Addr)) (fp : List Addr), TgOk (X.blk s H scope (compEnvC scope cl C X.env) fp) ((List.range X.N.length).filter fun j => decide (j ∉ own.map (·.2))) tg t gt)
    (ht : ∀ (s : Shared) (H : Hp) (C : Addr) (cl : List (Str × Addr)) (fp : List Addr), PTs (X.blk s H scope (compEnvC scope cl C X.env) fp) ifs (tTs X.K WF (allP fs) (evIfs fs)))
    (hk : ∀ (s : Shared) (H : Hp) (C : Addr) (cl : List (Str × Addr)) (fp : List Addr), RowOk (X.blk s H scope (compEnvC scope cl C X.env) fp) WF false es kds)
    (he : ∀ (s : Shared) (H : Hp) (C : Addr) (cl : List (Str × Addr)) (fp : List Addr), PE (X.blk s H scope (compEnvC scope cl C X.env) fp) vx (tV X.K WF δ.p δ.v)) (hs : ∀ x, foldedSetIterable iter X.env x = pure x) (hpt : PlainT X (.DictComp (.Tuple es x1 p2) vx [⟨tg, iter, ifs, 0⟩] scope pos)) :
    Snd X W (.DictComp (.Tuple es x1 p2) vx [⟨tg, iter, ifs, 0⟩] scope pos) (dDcomp p true keep (own.map (·.2)) (dTup kds) δ [⟨t, fi, fs⟩]) := by
  have hv : PE X (.DictComp (.Tuple es x1 p2) vx [⟨tg, iter, ifs, 0⟩] scope pos) (tV X.K W p (dDcomp p true keep (own.map (·.2)) (dTup kds) δ [⟨t, fi, fs⟩]).v) := (pe_dcT hu hc hN hi.pi ok (fun s H C cl fp => (hg s H C cl fp).pg) ht (tkey := tTup (tR X.K WF (allP kds) (evA false kds))) (fun s H C cl fp => pe_tup (hk s H C cl fp).pa) he hs).weakI fun pins0 s0 σ H Q I0 w =>
    dcomp_v (X := X) (KA := KAt) dt_kind hpp (fun j h1 h2 => own_in h1 h2) (fun R fz e q => (hg X.s_0 X.H_0 0 [] []).run hown R fz e q) (fun {S S1 σ Hf H Φ Fs u Q} R ek hkk q => by
      have ek : (((evA false kds S).bind fun r S1 => Tk.R.opt S1 (spreadA r)).bind fun bs S1 => Tk.R.opt S1 ((ownsA bs).bind fun ts => if ts.length ≤ lim then some (OT.leaf (.tup (OT.frzs ts))) else none)) = .ok u S1 := ek
      obtain ⟨bs, S2, e1, e2⟩ := bind_ok ek
      obtain ⟨r, S3, e3, e4⟩ := bind_ok e1
      obtain ⟨e5, rfl⟩ := opt_ok e4
      obtain ⟨e6, rfl⟩ := opt_ok e2
      obtain ⟨ts, e7, e8⟩ := Option.bind_eq_some_iff.mp e6
      split at e8
      · rename_i hlim
        cases e8
        refine ⟨S, Hf, Φ, Fs, R, ?_⟩
        rw [e3]
        intro H' Hf' Fs' R' k' vs F row off
        have ow := row_ows row e5 e7
        refine ⟨by rw [ow.length]; exact hlim, fun pa hp => ?_⟩
        have R2 := R'.freezeF off
        have N := New.tup (K := X.K) R2.same hp ow.frozen
        obtain ⟨ds, ed, kt⟩ := key_two (d := .tup (OT.frzs ts)) hkk
        cases ed
        obtain ⟨k, e9, e10⟩ := keys_of ow.frozen kt
        refine q (.ref pa) _ _ Fs' k (fun b => b = pa) (congrArg D.tup e9.symm) ((N.rel R2).frame fun b z => ?_) (k'.trans ((kp_freezeF fun b hb => (off b hb).1).trans (N.kp R2))) fun H2 h2 => ⟨pa, rfl, ?_⟩
        · rw [show b = pa from z]
          exact ⟨fun y => R2.hΦ pa y hp, by rw [upd_same]; simp, fun i y => R2.hF i pa y hp⟩
        · rw [h2 pa rfl, upd_same, e10]
      · cases e8) I0 w
  refine snd_of hv (fun hp S => ?_) (pt_of hv hpt)
  exact bind_exc (hi.nx (hpp hp).1 S) fun ds S1 _ => bind_exc (loopD_noexc _ _ _) fun _ _ _ => ok_exc _
end
end Tk
end
section
set_option linter.all false
set_option maxRecDepth 100000
set_option maxHeartbeats 4000000
/-! try: .. except C as e: return [isinstance(e, C1), ..], by a def of one parameter. -/
namespace Tk
open PySem PySem.Spec PyProof.Rows L2 L2H
/-- what K says of the errors' classes -/
structure ExF (K : PySem.W.Frag) (sup : Str → List Str) (cs : List Str) : Prop where
  ok : ∀ k, (sup k).isEmpty = false → ExcC K (He.ga K k)
  kit : ∀ k, (sup k).isEmpty = false → ∀ c, c ∈ cs → PySem.W.kitOne K (.ref (He.ga K k)) (.ref (He.ga K c)) = some ((sup k).contains c)
  exm : ∀ k, (sup k).isEmpty = false → ∀ c, c ∈ cs → PySem.W.exmOne K (.ref (He.ga K k)) (.ref (He.ga K c)) = some ((sup k).contains c)
/-- isinstance asked of a pinned error -/
theorem call_isP {Y : Cx} {a dc : Addr} {oe : Obj} (C : ExcC Y.K dc) (hz : Zc (.ref dc) none oe) (hf : ∃ vs, oe.data = .fields vs) (hp : (a, oe) ∈ Y.pn) : CallR Y (.builtin "isinstance") (rIsE Y.K dc a) := by
  intro pins s σ H xs us Q I rs h
  obtain ⟨c, cv, b, rfl, hcv, e, q⟩ := h
  match us, rs with
  | _, .cons r0 (.cons r1 .nil) =>
    cases r0
    have ec := hcv _ r1
    subst ec
    have hget := (I.pin (a, oe) (List.mem_append_left _ hp)).1
    obtain ⟨vs, hv⟩ := hf
    have at0 : PySem.W.InstAt s.heap a oe dc none := by
      obtain ⟨oc, od, oda, osl⟩ := oe
      obtain ⟨h1, h2⟩ := hz
      dsimp only at h1 h2 hv
      subst h1 h2 hv
      exact ⟨hget, rfl, rfl, trivial⟩
    exact PySem.W.kia_one (PySem.W.handS_kitx_exc C.hg C.hk C.hs C.hd C.ha C.hn C.ht C.hm) I.kIn at0 e (fun z => nomatch z) fun tk => ⟨.bl b, H, I.kept (t' := tk) fun _ _ z => z, rfl, q⟩
def tFlag (a : Addr) (i : Nat) (b : Bool) : TE := fun σ H Q => σ[i]? = some (some (.ref a)) ∧ Q (.bl b) H
inductive Flags (Y : Cx) (a : Addr) (i : Nat) : List Expr → List Bool → Prop
  | nil : Flags Y a i [] []
  | cons {e es b bs} : PE Y e (tFlag a i b) → starEach (e :: es) Y.env = (false, eval e Y.env) :: starEach es Y.env → Flags Y a i es bs → Flags Y a i (e :: es) (b :: bs)
theorem pa_flags {Y : Cx} {a : Addr} {i : Nat} : ∀ {es : List Expr} {bs : List Bool}, Flags Y a i es bs → PA Y es fun σ H Q => σ[i]? = some (some (.ref a)) ∧ Q (bs.map V.bl) H
  | _, _, .nil => pa_nil.weak fun σ H Q h => h.2
  | _, _, .cons h1 h2 h3 => (pa_cons h1 (pa_flags h3) h2).weak fun σ H Q h => ⟨h.1, h.1, h.2⟩
section
variable {Y : Cx} {a f : Addr} {oe : Obj} {N : List Str} {x nm qual : Str} {params : Arguments} {body : List Stmt} {scope : Scope} {dvs : List V} {kws : List (Str × V)} {fd : FuncData} {bs : List Bool} {k : Nat}
theorem run_flags (F : FunD Y.K nm qual params body scope dvs kws f fd) (Sc : FnScope N [x] scope)
    (hbody : ∀ cdv A outer s H E, PSs (cxH (L2.CX Y.prog Y.w) Y.prog Y.w Y.K Y.mg Y.base N qual scope f cdv A outer s H E (a, oe)) body fun D σ H => σ[0]? = some (some (.ref a)) ∧ ∀ p, H p = none → D.rt (.ref p) (upd H p (.lst (bs.map V.bl))))
    (hr : RoomH (k + 1) Y.A) (hb : Binds Y.K fd [x] []) (hp : (a, oe) ∈ Y.pn) {pins : List (Addr × Obj)} {σ : L2.St} {H : Hp} {s : Shared} {Q : VK} (I : Inv Y pins σ H s) (h : ∀ p, H p = none → Q (.ref p) (upd H p (.lst (bs.map V.bl)))) :
    wpAny (model Y.prog Y.w) Y.A (call (.ref f) [.ref a]) (EP Y pins σ Q) Y.xe s := by
  obtain ⟨oc, od, dV, kV, doc, pm, an, cdv, ct, osl, rfl, lk, hcd, _, _⟩ := F.ex
  have bd := hb s [.ref a] I.kIn rfl
  have P1 := I.pin (a, oe) (List.mem_append_left _ hp)
  have pin0 : PinOk Y.stack H s (a, oe) := ⟨P1.1, P1.2.1, fun hm => (List.mem_cons.mp (I.stkSub a hm)).elim P1.2.2.1 P1.2.2.2.1, P1.2.2.2.2⟩
  have e0 := I.env0
  have KX := I.kIn
  have lim0 : s.heap.NoLimit := e0.mod.nolimit.keeps fun b o e => (e0.bs b o e).1
  refine wpAny_call (codeAny_mono (R := CR (L2.CX Y.prog Y.w) Y.stack Y.prog Y.w H s Q fun _ _ _ => False) ?_ fun r s' hq => ?_)
  · refine codeAny_call_function hr.depth (KX _ _ lk) rfl Sc.co Sc.gen rfl (PySem.W.codeRec_of KX hcd) (bd _ _ _ _ ?_)
    refine wpAny_newFunctionEnv_cells Sc.kind (fun ⟨n, v⟩ hy => ?_) fun env he s1 xx => ?_
    · rcases Sc.par n (List.of_mem_zip (show (n, v) ∈ [x].zip ([Value.ref a] ++ []) from hy)).1 with q | q
      · exact .inl q
      · exact .inr ⟨q, PySem.W.cellsFrom_some _ _ _ (.inl q)⟩
    · subst he
      refine ⟨lim0.keeps xx.toInCall.keep, codeAny_func ?_⟩
      have J := inv_startH (CX := L2.CX Y.prog Y.w) (E := fun _ _ _ => False) (vs := [V.ref a]) Sc pin0 e0 rfl (.cons rfl .nil) xx
      have hlen : 0 < N.length := by have := congrArg List.length Sc.pre; rw [List.length_take] at this; simp at this; omega
      refine wpAny_mono ((hbody cdv Y.A Y.stack s H fun _ _ _ => False).run [] s1 (L2.start N [V.ref a]) H { nx := fun _ H' => Q .non H', rt := Q } J ⟨rfl, h⟩) (fun fl s' hs => ?_) fun e s' hs => hs
      have fin : ∀ {σ' : L2.St} {H' : Hp} {v : V} {u : Value}, Inv (cxH (L2.CX Y.prog Y.w) Y.prog Y.w Y.K Y.mg Y.base N qual scope f cdv Y.A Y.stack s H (fun _ _ _ => False) (a, oe)) [] σ' H' s' → RelV v u → Q v H' → CE Y.stack Y.prog Y.w H s Q u s' :=
        fun {σ' H' v u} J2 rv q => ⟨v, H', J2.os, J2.bare, J2.base, J2.hok, rv, q⟩
      cases fl with
      | ret u =>
        obtain ⟨v, σ', H', J2, rv, q⟩ := hs
        exact fin J2 rv q
      | next =>
        obtain ⟨σ', H', J2, q⟩ := hs
        exact fin (v := V.non) (u := Value.none) J2 rfl q
      | brk =>
        obtain ⟨_, _, _, q⟩ := hs
        exact q.elim
      | cont =>
        obtain ⟨_, _, _, q⟩ := hs
        exact q.elim
  · cases r with
    | error e =>
      obtain ⟨_, _, _, _, _, _, _, _, _, _, _, _, z⟩ := hq
      exact z.elim
    | ok fl =>
      cases fl with
      | ret u => exact I.after hq
      | next => exact hq.elim
      | brk => exact hq.elim
      | cont => exact hq.elim
end
end Tk
end
section
set_option linter.all false
set_option maxRecDepth 100000
set_option maxHeartbeats 4000000
namespace Tk
open PySem PySem.Spec PyProof.Rows L2 L2H
theorem ows_bls {K : PySem.W.Frag} {Hf H : Hp} {F : Fp} (p : Str → Bool) : ∀ fs : List Str, Ows K Hf H ((fs.map p).map V.bl) (fs.map fun f => OT.leaf (.bl (p f))) F
  | [] => .nil
  | f :: fs => .cons (F := fun _ => False) (G := F) (.leaf .bl) (ows_bls p fs) (fun _ z => z.elim) (fun _ z => z) fun _ z => z.elim
section
variable {X : Cx} {W : WX} {g : G} {br : List Nat} {cs fs : List Str} {c n cname fl x nm qual : Str} {i k : Nat} {f : Addr} {N : List Str} {params : Arguments} {fbody body : List Stmt} {scope : Scope} {dvs : List V} {kws : List (Str × V)} {fd : FuncData} {fb : SS → Fl} {pos pos' np p3 p4 p5 p6 : Pos}
/-- the def that judges an error, as it stands in the module -/
structure FlagDef (P : Program) (w : World) (K : PySem.W.Frag) (mg : Str → Option Value) (base : Heap) (sup : Str → List Str) (fl : Str) (fs : List Str) : Prop where
  ex : ∃ (f : Addr) (fd : FuncData) (nm qual x : Str) (params : Arguments) (body : List Stmt) (scope : Scope) (dvs : List V) (kws : List (Str × V)) (N : List Str), FunD K nm qual params body scope dvs kws f fd ∧ FnScope N [x] scope ∧ Binds K fd [x] [] ∧ mg fl = some (.ref f) ∧
    ∀ k0, (sup k0).isEmpty = false → ∀ (a : Addr) (oe : Obj), Zc (.ref (He.ga K k0)) none oe → (∃ vs, oe.data = .fields vs) → ∀ cdv A outer s H E,
      PSs (cxH (L2.CX P w) P w K mg base N qual scope f cdv A outer s H E (a, oe)) body fun D σ H => σ[0]? = some (some (.ref a)) ∧ ∀ p, H p = none → D.rt (.ref p) (upd H p (.lst ((fs.map (sup k0).contains).map V.bl)))
theorem pe_flags {Z : Cx} {a : Addr} {oe : Obj} {k0 : Str} {sup : Str → List Str} (F : FlagDef Z.prog Z.w Z.K Z.mg Z.base sup fl fs) (hk0 : (sup k0).isEmpty = false) (hz : Zc (.ref (He.ga Z.K k0)) none oe) (hfl : ∃ vs, oe.data = .fields vs) (hr : RoomH (k + 1) Z.A) (hp : (a, oe) ∈ Z.pn)
    (hi : Z.N[i]? = some n) (hv : Vis Z.env.scope n) (hd : (n == ("__debug__" : Str)) = false) (hcd : (n == ("__classdict__" : Str)) = false) (hg : Gl Z fl) (hdf : (fl == ("__debug__" : Str)) = false) :
    PE Z (.Call (.Name fl p3) [.Name n p4] [] p5) fun σ H Q => σ[i]? = some (some (.ref a)) ∧ ∀ p, H p = none → Q (.ref p) (upd H p (.lst ((fs.map (sup k0).contains).map V.bl))) := by
  obtain ⟨f, fd, nm, qual, x, params, body, scope, dvs, kws, N, FD, Sc, hb, hm, bd⟩ := F.ex
  refine ⟨fun pins s σ H Q I h => ?_⟩
  refine wpAny_Call_Name_kw (ld_glob I hg hm ?_ hdf)
  refine PySem.W.callWith_K (h₀ := Z.base) I.ok.mod.kin FD.kp (thn ((pa_cons (pe_var hi hv hd hcd) pa_nil rfl).run p5 pins s σ H (fun vs H1 => vs = [.ref a] ∧ ∀ p, H1 p = none → Q (.ref p) (upd H1 p (.lst ((fs.map (sup k0).contains).map V.bl)))) I ⟨.ref a, h.1, rfl, h.2⟩) fun us s1 ⟨vs, H1, I1, r, e, q⟩ => ⟨I1.kIn, ?_⟩) rfl rfl
  subst e
  match us, r with
  | _, .cons r0 .nil =>
    cases r0
    exact run_flags FD Sc (bd k0 hk0 a oe hz hfl) hr hb hp I1 q
theorem st_tryF (XF : ExF X.K g.sup cs) (hcs : c ∈ cs) (F : FlagDef X.prog X.w X.K X.mg X.base g.sup fl fs) (hs : X.stack = X.env :: X.outer) (hf : X.env.frame = some X.env.locals) (hN : X.N.Nodup) (hi : X.N[i]? = some n) (hln : X.env.kindOf n = some .local) (hv : Vis X.env.scope n)
    (hd : (n == ("__debug__" : Str)) = false) (hcd : (n == ("__classdict__" : Str)) = false) (hc : Names X cname (.ref (He.ga X.K c))) (tk : Takes X W) (hr : Room (k + 1) X.A) (hgf : Gl X fl) (hdf : (fl == ("__debug__" : Str)) = false)
    (hb : ∀ (W' : WX) (pn : List (Addr × Obj)) (xe : Value → Shared → Prop), Takes (X.tr pn xe) W' → PassesOwn (model X.prog X.w) X.A X.env xe → StsOk (X.tr pn xe) W' br body fb) :
    StOk X W br (.Try body [.ExceptHandler (some (.Name cname np)) (some n) [.Return (some (.Call (.Name fl p3) [.Name n p4] [] p5)) p6] pos'] [] [] pos) fun S => match fb S with
      | .exc x S1 => flagsF g.sup c i fs x S1
      | f => f := by
  let ts : Addr → Value → Option Addr → TS := fun a cls d Dn σ H => ∃ k0, (g.sup k0).isEmpty = false ∧ cls = .ref (He.ga X.K k0) ∧ d = none ∧ σ[i]? = some (some (.ref a)) ∧ ∀ p, H p = none → Dn.rt (.ref p) (upd H p (.lst ((fs.map (g.sup k0).contains).map V.bl)))
  refine ⟨(ps_try_as (i := i) (ts := ts) (tb := fun W' => tSt X.K W' br fb) hs hf hN hi hln hc tk (fun W' pn xe t p => (hb W' pn xe t p).ps) fun a oe cls d pn hz hfl => ⟨fun pins s σ H D I h => ?_⟩).weak fun D σ H ⟨S, Hf, Φ, Fs, R, o⟩ => ⟨S, Hf, Φ, Fs, R, ?_⟩⟩
  · obtain ⟨k0, hk0, rfl, rfl, hσ, q⟩ := h
    exact (pss_one (ps_ret (pe_flags (Z := X.suite a ((a, oe) :: pn)) (a := a) (oe := oe) F hk0 hz hfl ⟨hr.dp, hr.un⟩ List.mem_cons_self hi hv hd hcd hgf hdf))).run pins s σ H D I ⟨hσ, q⟩
  · cases e : fb S with
    | nx S' => simp only [e] at o; exact o
    | brk S' => simp only [e] at o; exact o
    | cnt S' => simp only [e] at o; exact o
    | ret t S' => simp only [e] at o; exact o
    | bad => simp only [e] at o; exact o
    | exc x S1 =>
      simp only [e] at o
      intro cls d σ' H' Hf' Fs' R' k' sb ex
      cases ex with
      | own _ _ => exact o.elim
      | plain =>
        rename_i k0 ds
        have o : FOut X.K W br σ Φ Hf H (match (g.sup k0).isEmpty with
          | true => .bad
          | false => match (g.sup k0).contains c with
            | true => if i < S1.length then .ret (.lst (fs.map fun f => .leaf (.bl ((g.sup k0).contains f)))) S1 else .bad
            | false => .exc (.exn k0 [] ds) S1) D := o
        cases he : (g.sup k0).isEmpty with
        | true => rw [he] at o; exact o.elim
        | false =>
          rw [he] at o
          refine ⟨(g.sup k0).contains c, XF.exm k0 he c hcs, fun hb a na => ?_, fun hb => ?_⟩
          · rw [hb] at o
            have o : FOut X.K W br σ Φ Hf H (if i < S1.length then .ret (.lst (fs.map fun f => .leaf (.bl ((g.sup k0).contains f)))) S1 else .bad) D := o
            split at o
            · rename_i hl
              refine ⟨k0, he, rfl, rfl, by rw [List.getElem?_set_self (by rw [← R'.len]; exact hl)], fun p hp => ?_⟩
              have off : Off (fun _ => False) Φ H' Fs' := fun _ z => z.elim
              exact o (.ref p) σ' _ Hf' Fs' _ (R'.lay hp) (k'.trans (Kp.lay R' hp)) sb (ow_lst R' hp off (ows_bls _ fs)) (off_lay R' hp off)
            · exact o.elim
          · rw [hb] at o
            exact o _ _ σ' H' Hf' Fs' R' k' sb .plain
end
end Tk
end
section
set_option linter.all false
set_option maxRecDepth 100000
set_option maxHeartbeats 4000000
/-! The rules by terms of the language; what the module holds, as a table. -/
namespace Tk
open PySem PySem.Spec PyProof.Rows L2
/-! ### the table -/
structure Tab where
  fns : List (Str × Nat)
  mes : List (Str × Str × Nat)
  nes : List (Str × Nat)
  bns : List Str
  cis : List (Str × Int)
  xcs : List Str
  cls : List Str
  nas : List (Str × Str)
  ecs : List Str
  flf : Str
  fls : List Str
def Cal (P : Program) (w : World) (K : PySem.W.Frag) (mg : Str → Option Value) (base : Heap) (n : Nat) (g : G) (x : Str) (np : Nat) : Prop :=
  (∃ f fd ps, FnOk P w K mg base (L2.CX P w) n f fd ps (spOf K g x np) ∧ mg x = some (.ref f) ∧ PySem.W.keepIn K (.ref f) = true ∧ Binds K fd ps []) ∧ ∀ ts, g.fn x ts ≠ .bad → ts.length = np
def CalM (P : Program) (w : World) (K : PySem.W.Frag) (mg : Str → Option Value) (base : Heap) (n : Nat) (g : G) (c m : Str) (np : Nat) : Prop :=
  (∃ f fd ps, FnOk P w K mg base (L2.CX P w) n f fd ps (spOf K g (methName c m) np) ∧ Meth K (He.ga K c) m f ∧ Binds K fd ps []) ∧ ∀ ts, g.fn (methName c m) ts ≠ .bad → ts.length = np
def CalN (P : Program) (w : World) (K : PySem.W.Frag) (mg : Str → Option Value) (base : Heap) (n : Nat) (g : G) (c : Str) (np : Nat) : Prop :=
  (∃ f fd ps, FnOk P w K mg base (L2.CX P w) n f fd ps (spOf K g (methName c initName) np) ∧ Mk K (He.ga K c) f ∧ Binds K fd ps []) ∧ (∀ ts, g.fn (methName c initName) ts ≠ .bad → ts.length = np) ∧ mg c = some (.ref (He.ga K c))
structure Sta (T : Tab) (P : Program) (w : World) (K : PySem.W.Frag) (mg : Str → Option Value) (base : Heap) (sup : Str → List Str) : Prop where
  bn : ∀ (i : Nat) (x : Str), T.bns[i]? = some x → mg x = none
  ci : ∀ (i : Nat) (x : Str) (k : Int), T.cis[i]? = some (x, k) → ∃ t, mg x = some (.int k t)
  xc : ∀ (i : Nat) (c : Str), T.xcs[i]? = some c → mg c = some (.ref (He.ga K c)) ∧ PySem.W.excIn K (He.ga K c) He.veBase "ValueError.__new__" = true ∧ PySem.W.keepIn K (.ref (He.ga K c)) = true ∧ PySem.W.subIn K (.ref (He.ga K c)) (.type "BaseException") = some true ∧
    PySem.W.typeIn K (.ref (He.ga K c)) = some (.type "type")
  cl : ∀ (i : Nat) (c : Str), T.cls[i]? = some c → Cls K (He.ga K c)
  na : ∀ (i : Nat) (c f : Str), T.nas[i]? = some (c, f) → NoAttr K (He.ga K c) f
  ex : ExF K sup T.ecs
  fl : FlagDef P w K mg base sup T.flf T.fls
structure Al (T : Tab) (P : Program) (w : World) (K : PySem.W.Frag) (mg : Str → Option Value) (base : Heap) (n : Nat) (g : G) : Prop where
  st : Sta T P w K mg base g.sup
  fn : ∀ (i : Nat) (x : Str) (np : Nat), T.fns[i]? = some (x, np) → Cal P w K mg base n g x np
  me : ∀ (i : Nat) (c m : Str) (np : Nat), T.mes[i]? = some (c, m, np) → CalM P w K mg base n g c m np
  ne : ∀ (i : Nat) (c : Str) (np : Nat), T.nes[i]? = some (c, np) → CalN P w K mg base n g c np
/-! ### the context of a body or a block -/
def visB (sc : Scope) (x : Str) : Bool := (match sc.names.lookup x with
  | some .local => true
  | some .cell => true
  | some .free => true
  | _ => false) && (!(x == ("__debug__" : Str)) && !(x == ("__classdict__" : Str)))
def glB (sc : Scope) (x : Str) : Bool := (match sc.names.lookup x with
  | some .globalImplicit => true
  | _ => false) && !(x == ("__debug__" : Str))
def locB (sc : Scope) (x : Str) : Bool := match sc.names.lookup x with
  | some .local => true
  | some .cell => true
  | _ => false
structure Cxt (X : Cx) (W : WX) (N : List Str) (sc : Scope) (vi : List Nat) (gs : List Str) (ow : List Str) (n : Nat) : Prop where
  hN : X.N = N
  hsc : X.env.scope = sc
  nd : N.Nodup
  tk : Takes X W
  room : Room (n + 1) X.A
  calm : X.calm = true
  vis : (vi.all fun i => match N[i]? with | some x => visB sc x | none => false) = true
  gls : gs.all (glB sc) = true
  fn : ∀ x, x ∈ ow → Loc X.env.scope x ∧ (X.fn x = true ∨ X.env.scope.names.lookup x = some .local)
section
variable {X : Cx} {W : WX} {N : List Str} {sc : Scope} {vi : List Nat} {gs ow : List Str} {n : Nat}
structure NmOk (X : Cx) (i : Nat) (x : Str) : Prop where
  hi : X.N[i]? = some x
  hv : Vis X.env.scope x
  hd : (x == ("__debug__" : Str)) = false
  hcd : (x == ("__classdict__" : Str)) = false
theorem Cxt.nm (c : Cxt X W N sc vi gs ow n) {i : Nat} {x : Str} (h : N[i]? = some x) (m : vi.contains i = true) : NmOk X i x := by
  have q := List.all_eq_true.mp c.vis i (List.contains_iff_mem.mp m)
  rw [h] at q
  have q : visB sc x = true := q
  unfold visB at q
  obtain ⟨q1, q2⟩ := Bool.and_eq_true_iff.mp q
  obtain ⟨q2, q3⟩ := Bool.and_eq_true_iff.mp q2
  refine ⟨by rw [c.hN]; exact h, ?_, by simpa using q2, by simpa using q3⟩
  rw [c.hsc]
  split at q1
  · rename_i e; exact .inl e
  · rename_i e; exact .inr (.inl e)
  · rename_i e; exact .inr (.inr e)
  · cases q1
theorem Cxt.gl (c : Cxt X W N sc vi gs ow n) (i : Nat) {x : Str} (h : gs[i]? = some x) : Gl X x ∧ (x == ("__debug__" : Str)) = false := by
  have q := List.all_eq_true.mp c.gls x (List.mem_of_getElem? h)
  unfold glB at q
  obtain ⟨q1, q2⟩ := Bool.and_eq_true_iff.mp q
  refine ⟨?_, by simpa using q2⟩
  show X.env.scope.names.lookup x = _
  rw [c.hsc]
  split at q1
  · rename_i e; exact e
  · cases q1
theorem Cxt.ndX (c : Cxt X W N sc vi gs ow n) : X.N.Nodup := by rw [c.hN]; exact c.nd
theorem Cxt.un (c : Cxt X W N sc vi gs ow n) : X.A.units + 64 < cLine := by have := c.room.un; omega
theorem Cxt.room' (c : Cxt X W N sc vi gs ow n) : Room n X.A := c.room.mono (Nat.le_succ n)
/-- the context of a comprehension's block -/
theorem Cxt.blk (c : Cxt X W N sc vi gs ow n) {scope : Scope} {own : List (Str × Nat)} {vi2 : List Nat} {gs2 : List Str} (hv : (vi2.all fun i => match N[i]? with | some x => visB (relS scope sc) x | none => false) = true) (hg : gs2.all (glB (relS scope sc)) = true)
    (ho : ((own.map (·.1)).all fun x => locB (relS scope sc) x && (decide (scope.names.lookup x = some .cell) || decide ((relS scope sc).names.lookup x = some .local))) = true)
    (s : Shared) (H : Hp) (C : Addr) (cl : List (Str × Addr)) (fp : List Addr) : Cxt (X.blk s H scope (compEnvC scope cl C X.env) fp) WF N (relS scope sc) vi2 gs2 (own.map (·.1)) n where
  hN := c.hN
  hsc := by rw [← c.hsc]; rfl
  nd := c.nd
  tk := takes0
  room := c.room
  calm := c.calm
  vis := hv
  gls := hg
  fn := fun x hx => by
    have e : (X.blk s H scope (compEnvC scope cl C X.env) fp).env.scope = relS scope sc := by rw [← c.hsc]; rfl
    have q := List.all_eq_true.mp ho x hx
    obtain ⟨q1, q2⟩ := Bool.and_eq_true_iff.mp q
    rw [e]
    refine ⟨?_, ?_⟩
    · unfold locB at q1
      split at q1
      · rename_i e; exact .inl e
      · rename_i e; exact .inr e
      · cases q1
    · rcases Bool.or_eq_true_iff.mp q2 with z | z
      · left
        show (scope.names.lookup x == some .cell) = true
        rw [of_decide_eq_true z]
        rfl
      · exact .inr (of_decide_eq_true z)
end
end Tk
end
section
set_option linter.all false
set_option maxRecDepth 100000
set_option maxHeartbeats 4000000
namespace Tk
open PySem PySem.Spec PyProof.Rows L2
/-! answers of tests -/
def Bl (sup : Str → List Str) (p : P) : Prop := ∀ l d, p.sem sup l = some d → ∃ k, d = .bl k
section
variable {sup : Str → List Str}
theorem bl_eq : Bl sup .eq := by (intro l d h; have h : sEq l = some d := h; unfold sEq at h; split at h <;> first | (obtain ⟨_, rfl⟩ := chk_some h; exact ⟨_, rfl⟩) | (cases h; exact ⟨_, rfl⟩) | cases h)
theorem bl_ne : Bl sup .ne := by (intro l d h; have h : sNe l = some d := h; unfold sNe at h; split at h <;> first | (obtain ⟨_, rfl⟩ := chk_some h; exact ⟨_, rfl⟩) | (cases h; exact ⟨_, rfl⟩) | cases h)
theorem bl_lt : Bl sup .lt := by (intro l d h; have h : sLt l = some d := h; unfold sLt at h; split at h <;> first | (obtain ⟨_, rfl⟩ := chk_some h; exact ⟨_, rfl⟩) | (cases h; exact ⟨_, rfl⟩) | cases h)
theorem bl_le : Bl sup .le := by (intro l d h; have h : sLe l = some d := h; unfold sLe at h; split at h <;> first | (obtain ⟨_, rfl⟩ := chk_some h; exact ⟨_, rfl⟩) | (cases h; exact ⟨_, rfl⟩) | cases h)
theorem bl_gt : Bl sup .gt := by (intro l d h; have h : sGt l = some d := h; unfold sGt at h; split at h <;> first | (obtain ⟨_, rfl⟩ := chk_some h; exact ⟨_, rfl⟩) | (cases h; exact ⟨_, rfl⟩) | cases h)
theorem bl_ge : Bl sup .ge := by (intro l d h; have h : sGe l = some d := h; unfold sGe at h; split at h <;> first | (obtain ⟨_, rfl⟩ := chk_some h; exact ⟨_, rfl⟩) | (cases h; exact ⟨_, rfl⟩) | cases h)
theorem bl_in : Bl sup .in_ := by (intro l d h; have h : sIn l = some d := h; unfold sIn at h; split at h <;> first | (obtain ⟨_, rfl⟩ := chk_some h; exact ⟨_, rfl⟩) | (cases h; exact ⟨_, rfl⟩) | cases h)
theorem bl_nin : Bl sup .nin := by (intro l d h; have h : sNin l = some d := h; unfold sNin at h; split at h <;> first | (obtain ⟨_, rfl⟩ := chk_some h; exact ⟨_, rfl⟩) | (cases h; exact ⟨_, rfl⟩) | cases h)
theorem bl_isN : Bl sup .isN := by (intro l d h; have h : sIsN l = some d := h; unfold sIsN at h; split at h <;> first | (obtain ⟨_, rfl⟩ := chk_some h; exact ⟨_, rfl⟩) | (cases h; exact ⟨_, rfl⟩) | cases h)
theorem bl_notN : Bl sup .notN := by (intro l d h; have h : sNotN l = some d := h; unfold sNotN at h; split at h <;> first | (obtain ⟨_, rfl⟩ := chk_some h; exact ⟨_, rfl⟩) | (cases h; exact ⟨_, rfl⟩) | cases h)
end
section
variable {T : Tab} {X : Cx} {W : WX} {g : G} {N : List Str} {sc : Scope} {vi : List Nat} {gs ow : List Str} {n : Nat} {p q : P} {a b c : Expr} {α β γ : E} {pos : Pos} {i : Nat} {x : Str}
/-! ### names, constants -/
theorem r_nm (h : NmOk X i x) : Snd X W (.Name x pos) (den g (.pl i [])) := snd_pl (f := fun S => .ok [] S) (fun S => .inl ⟨[], rfl⟩) (plc_name h.hi h.hv h.hd h.hcd) fun _ => rfl
theorem r_fld {f : Str} {p0 : Pos} (h : NmOk X i x) : Snd X W (.Attribute (.Name x p0) f pos) (den g (.pl i [.attr f])) :=
  snd_pl (f := fun S => (R.ok ([] : List Pst) S).bind fun ps S1 => .ok (ps ++ [.attr f]) S1) (fun S => .inl ⟨[.attr f], rfl⟩) (plc_attr (f := fun S => .ok [] S) (fun S => .inl ⟨[], rfl⟩) (plc_name h.hi h.hv h.hd h.hcd) rfl) fun _ => rfl
theorem r_int {k : Int} {j : Nat} : Snd X W (.Constant (.int k) j pos) (den g (.cst (.int k))) := snd_c pe_int (fun _ => .int) fun _ => rfl
theorem r_str {s : Str} {j : Nat} : Snd X W (.Constant (.str s) j pos) (den g (.cst (.str s))) := snd_c pe_str (fun _ => .str) fun _ => rfl
theorem r_bl {k : Bool} {j : Nat} : Snd X W (.Constant (.bool k) j pos) (den g (.cst (.bl k))) := snd_c pe_bl (fun _ => .bl) fun _ => rfl
theorem r_non {j : Nat} : Snd X W (.Constant .none j pos) (den g (.cst .non)) := snd_c pe_non (fun _ => .non) fun _ => rfl
theorem r_gint (C : Cxt X W N sc vi gs ow n) (A : Al T X.prog X.w X.K X.mg X.base n g) (h : Gl X x ∧ (x == ("__debug__" : Str)) = false) {k : Int} (j : Nat) (hj : T.cis[j]? = some (x, k)) : Snd X W (.Name x pos) (den g (.cst (.int k))) := by
  obtain ⟨t, e⟩ := A.st.ci j x k hj
  exact snd_c (pe_glob (v := .int k) h.1 e ⟨t, rfl⟩ h.2) (fun _ => .int) fun _ => rfl
/-! ### operators -/
theorem r_bin {op : Operator} (ho : OpR X (binaryOp op) fun x y => rD X.K g.sup p [x, y]) (ha : Snd X W a (den g α)) (hb : Snd X W b (den g β)) (e : ∀ es, den g (.prim p es) = dPrim g p (dens g es) := by intro _; rfl) : Snd X W (.BinOp a op b pos) (den g (.prim p [α, β])) := by
  rw [e]; exact snd_bin ho ha hb fun _ => rfl
theorem r_neg (ha : Snd X W a (den g α)) : Snd X W (.UnaryOp .USub a pos) (den g (.prim .neg [α])) := snd_un q_neg ha fun _ => rfl
theorem r_cmp {op : CmpOp} (ho : OpR X (compareOp op) fun x y => rD X.K g.sup p [x, y]) (hs : Bl g.sup p) (ha : Snd X W a (den g α)) (hb : Snd X W b (den g β)) (hm : behindInMarks op b = false := by rfl) (hd : p.made = false := by rfl) (e : ∀ es, den g (.prim p es) = dPrim g p (dens g es) := by intro _; rfl) :
    Snd X W (.Compare a [op] [b] pos) (den g (.prim p [α, β])) := by rw [e]; exact snd_cmp ho ha hb hm hs hd
theorem r_isN {j : Nat} {p2 : Pos} (ha : Snd X W a (den g α)) : Snd X W (.Compare a [.Is] [.Constant .none j p2] pos) (den g (.prim .isN [α])) := snd_isN q_isN ha rfl bl_isN rfl
theorem r_notN {j : Nat} {p2 : Pos} (ha : Snd X W a (den g α)) : Snd X W (.Compare a [.IsNot] [.Constant .none j p2] pos) (den g (.prim .notN [α])) := snd_isN q_notN ha rfl bl_notN rfl
theorem r_chain {op op2 : CmpOp} (ho : OpR X (compareOp op) fun x y => rD X.K g.sup p [x, y]) (ho2 : OpR X (compareOp op2) fun x y => rD X.K g.sup q [x, y]) (hq : Bl g.sup q) (ha : Snd X W a (den g α)) (hb : Snd X W b (den g β)) (hc : Snd X W c (den g γ)) (hm : lastMarks [op, op2] [b, c] = false := by rfl)
    (kp : p.keeps = false := by rfl) (kq : q.keeps = false := by rfl) (mp : p.made = false := by rfl) (mq : q.made = false := by rfl) : Snd X W (.Compare a [op, op2] [b, c] pos) (den g (.chain p q α β γ)) :=
  snd_chain ho ho2 ha hb hc hm kp kq mp mq hq
theorem r_ix (C : Cxt X W N sc vi gs ow n) (ha : Snd X W a (den g α)) (hb : Snd X W b (den g β)) (hs : PlainIx b := by exact fun _ _ => rfl) : Snd X W (.Subscript a b pos) (den g (.prim .idx [α, β])) := snd_ix (q_idx C.un) ha hb hs fun _ => rfl
theorem r_slF {p2 : Pos} (ha : Snd X W a (den g α)) (hb : Snd X W b (den g β)) : Snd X W (.Subscript a (.Slice none (some b) none p2) pos) (den g (.prim (.slc false true) [α, β])) := snd_slcF ha hb fun _ => rfl
theorem r_slT {p2 : Pos} (ha : Snd X W a (den g α)) (hb : Snd X W b (den g β)) : Snd X W (.Subscript a (.Slice (some b) none none p2) pos) (den g (.prim (.slc true false) [α, β])) := snd_slcT ha hb fun _ => rfl
inductive Snds' (X : Cx) (W : WX) (g : G) : List Expr → List E → Prop
  | nil : Snds' X W g [] []
  | cons {e ε es εs} : Snd X W e (den g ε) → Snds' X W g es εs → Snds' X W g (e :: es) (ε :: εs)
theorem Snds'.s : ∀ {es : List Expr} {εs : List E}, Snds' X W g es εs → Snds X W es (dens g εs)
  | _, _, .nil => .nil
  | _, _, .cons h t => .cons h t.s
theorem r_and {es : List Expr} {εs : List E} (ha : Snd X W a (den g α)) (hs : Snds' X W g es εs) : Snd X W (.BoolOp .And (a :: es) pos) (den g (.and_ (α :: εs))) := snd_and ha hs.s
theorem r_or {es : List Expr} {εs : List E} (ha : Snd X W a (den g α)) (hs : Snds' X W g es εs) : Snd X W (.BoolOp .Or (a :: es) pos) (den g (.or_ (α :: εs))) := snd_or ha hs.s
theorem r_not (ha : Snd X W a (den g α)) : Snd X W (.UnaryOp .Not a pos) (den g (.not_ α)) := snd_not ha
theorem r_ife (ha : Snd X W a (den g α)) (hb : Snd X W b (den g β)) (hc : Snd X W c (den g γ)) : Snd X W (.IfExp a b c pos) (den g (.ife α β γ)) := snd_ife ha hb hc
theorem r_join {s0 : Str} {j : Nat} {p0 apos : Pos} (hb : Snd X W b (den g β)) (hs : starEach [b] X.env = [(false, eval b X.env)] := by rfl) (hl : (apos.endLine == pos.line) = true := by rfl) :
    Snd X W (.Call (.Attribute (.Constant (.str s0) j p0) "join" apos) [b] [] pos) (den g (.prim .join [.cst (.str s0), β])) := snd_join hb hs hl fun _ => rfl
theorem r_attr {o : Expr} {fl : Str} (h : Snd X W o (den g α)) (hb : attributeBase o fl X.env (eval o X.env) = eval o X.env := by rfl) : Snd X W (.Attribute o fl pos) (den g (.attr α fl)) := snd_attr h hb fun _ => rfl
theorem r_get2 {o e f : Expr} {apos : Pos} (C : Cxt X W N sc vi gs ow n) (ho : Snd X W o (den g α)) (he : Snd X W e (den g β)) (hf : Snd X W f (den g γ)) (hb : attributeBase o "get" X.env (eval o X.env) = eval o X.env := by rfl) (h2 : ((backTo pos (starEach [e, f] X.env)).all (fun x => !x.1) && (backToKw pos (keywordEach [] X.env)).all (fun x => x.1.isSome)
    && decide (([e, f] : List Expr).length + ([] : List Keyword).length + (if ([] : List Keyword).isEmpty then 0 else 1) < 30)) = true := by rfl) (hl : (apos.endLine == pos.line) = true := by rfl) (ht : backTo pos (starEach [e, f] X.env) = [(false, eval e X.env), (false, eval f X.env)] := by rfl) :
    Snd X W (.Call (.Attribute o "get" apos) [e, f] [] pos) (den g (.prim .get2 [α, β, γ])) := snd_get2 (by have := C.un; omega) ho he hf ⟨hb, h2, hl, ht⟩ fun _ => rfl
/-! ### f-strings -/
inductive Fps (X : Cx) (W : WX) (g : G) : List Expr → List E → Prop
  | nil : Fps X W g [] []
  | txt {x : Str} {j : Nat} {p : Pos} {es εs} : Fps X W g es εs → Fps X W g (.Constant (.str x) j p :: es) (.cst (.str x) :: εs)
  | fmt {e : Expr} {ε : E} {p : Pos} {es εs} : Snd X W e (den g ε) → Fps X W g es εs → Fps X W g (.FormattedValue e (-1) none p :: es) (ε :: εs)
theorem Fps.s : ∀ {es : List Expr} {εs : List E}, Fps X W g es εs → FPs X W es (dens g εs)
  | _, _, .nil => .nil
  | _, _, .txt t => .txt t.s
  | _, _, .fmt h t => .fmt h t.s
theorem r_fstr {e1 e2 : Expr} {es : List Expr} {εs : List E} (h : Fps X W g (e1 :: e2 :: es) εs) : Snd X W (.JoinedStr (e1 :: e2 :: es) pos) (den g (.prim .fstr εs)) := snd_fstr h.s fun _ => rfl
/-! ### built-in functions -/
theorem r_b1 (C : Cxt X W N sc vi gs ow n) (A : Al T X.prog X.w X.K X.mg X.base n g) (G1 : Gl X x ∧ (x == ("__debug__" : Str)) = false) (k : Nat) (hk : T.bns[k]? = some x) {id : String} {p1 : Pos} (hc : CallR X (.builtin id) (rD X.K g.sup p)) (hv : bootBuiltins x = some (.builtin id)) (ha : Snd X W a (den g α)) (hn : x ≠ "__name__" := by decide) (he : starEach [a] X.env = (false, eval a X.env) :: starEach [] X.env := by rfl) (e : ∀ es, den g (.prim p es) = dPrim g p (dens g es) := by intro _; rfl) :
    Snd X W (.Call (.Name x p1) [a] [] pos) (den g (.prim p [α])) := by rw [e]; exact snd_b1 hc G1.1 (A.st.bn k x hk) hv hn G1.2 ha he fun _ => rfl
theorem r_b2 (C : Cxt X W N sc vi gs ow n) (A : Al T X.prog X.w X.K X.mg X.base n g) (G1 : Gl X x ∧ (x == ("__debug__" : Str)) = false) (k : Nat) (hk : T.bns[k]? = some x) {id : String} {p1 : Pos} (hc : CallR X (.builtin id) (rD X.K g.sup p)) (hv : bootBuiltins x = some (.builtin id)) (ha : Snd X W a (den g α)) (hb : Snd X W b (den g β)) (hn : x ≠ "__name__" := by decide) (he : starEach [a, b] X.env = (false, eval a X.env) :: starEach [b] X.env := by rfl) (he2 : starEach [b] X.env = (false, eval b X.env) :: starEach [] X.env := by rfl)
    (hpl : (backTo pos (starEach [b] X.env)).any (·.1) = false := by rfl) (e : ∀ es, den g (.prim p es) = dPrim g p (dens g es) := by intro _; rfl) : Snd X W (.Call (.Name x p1) [a, b] [] pos) (den g (.prim p [α, β])) := by
  rw [e]; exact snd_b2 hc G1.1 (A.st.bn k x hk) hv hn G1.2 ha hb he he2 hpl fun _ => rfl
theorem r_t1 (C : Cxt X W N sc vi gs ow n) (A : Al T X.prog X.w X.K X.mg X.base n g) (G1 : Gl X x ∧ (x == ("__debug__" : Str)) = false) (k : Nat) (hk : T.bns[k]? = some x) {id : String} {p1 : Pos} (hc : CallR X (.type id) (rD X.K g.sup p)) (hv : bootBuiltins x = some (.type id)) (ha : Snd X W a (den g α)) (hn : x ≠ "__name__" := by decide) (he : starEach [a] X.env = (false, eval a X.env) :: starEach [] X.env := by rfl) (e : ∀ es, den g (.prim p es) = dPrim g p (dens g es) := by intro _; rfl) :
    Snd X W (.Call (.Name x p1) [a] [] pos) (den g (.prim p [α])) := by rw [e]; exact snd_t1 hc G1.1 (A.st.bn k x hk) hv hn G1.2 ha he fun _ => rfl
theorem r_isi {cn : Str} {nm : String} {p1 p2 : Pos} (C : Cxt X W N sc vi gs ow n) (A : Al T X.prog X.w X.K X.mg X.base n g) (G1 : Gl X "isinstance" ∧ (("isinstance" : Str) == ("__debug__" : Str)) = false) (k : Nat) (hk : T.bns[k]? = some "isinstance") (G2 : Gl X cn ∧ (cn == ("__debug__" : Str)) = false) (k2 : Nat) (hk2 : T.bns[k2]? = some cn) (hc : clsN cn = some nm)
    (hvc : bootBuiltins cn = some (.type nm)) (ha : Snd X W a (den g α)) (hn : cn ≠ "__name__" := by decide) (he : starEach [a, .Name cn p2] X.env = (false, eval a X.env) :: starEach [.Name cn p2] X.env := by rfl) :
    Snd X W (.Call (.Name "isinstance" p1) [a, .Name cn p2] [] pos) (den g (.prim (.isinst [cn]) [α])) :=
  snd_isi hc G1.1 (A.st.bn k _ hk) G2.1 (A.st.bn k2 cn hk2) hvc hn G2.2 ha he
theorem r_lrev {p1 p2 pos2 : Pos} (C : Cxt X W N sc vi gs ow n) (A : Al T X.prog X.w X.K X.mg X.base n g) (G1 : Gl X "list" ∧ (("list" : Str) == ("__debug__" : Str)) = false) (k : Nat) (hk : T.bns[k]? = some "list") (G2 : Gl X "reversed" ∧ (("reversed" : Str) == ("__debug__" : Str)) = false) (k2 : Nat) (hk2 : T.bns[k2]? = some "reversed") (ha : Snd X W a (den g α))
    (hs : starEach [a] X.env = (false, eval a X.env) :: starEach [] X.env := by rfl) : Snd X W (.Call (.Name "list" p1) [.Call (.Name "reversed" p2) [a] [] pos2] [] pos) (den g (.prim .lrev [α])) :=
  snd_lrev C.calm G1.1 (A.st.bn k _ hk) G2.1 (A.st.bn k2 _ hk2) ha hs fun _ => rfl
/-! ### rows -/
section
variable {keep : Bool} {e : Expr} {es : List Expr} {ε : E} {εs : List E}
theorem w_nil : RowOk X W keep [] (dens g []) := .nil
theorem w_val (h : Snd X W e (den g ε)) (hr : RowOk X W keep es (dens g εs)) (hk : (den g ε).k = .plain := by rfl) (hs : starEach (e :: es) X.env = (false, eval e X.env) :: starEach es X.env := by rfl) : RowOk X W keep (e :: es) (dens g (ε :: εs)) := RowOk.val h hr hk hs
theorem w_star {p0 : Pos} (h : Snd X W e (den g ε)) (hr : RowOk X W keep es (dens g εs)) : RowOk X W keep (.Starred e p0 :: es) (dens g (.star ε :: εs)) := RowOk.star h hr
theorem w_bor (h : NmOk X i x) (hr : RowOk X W keep es (dens g εs)) (hs : starEach (.Name x pos :: es) X.env = (false, eval (.Name x pos) X.env) :: starEach es X.env := by rfl) : RowOk X W keep (.Name x pos :: es) (dens g (.bor i [] :: εs)) := RowOk.bor h.hi h.hv h.hd h.hcd hr hs
theorem r_lst (h : RowOk X W keep es (dens g εs)) : Snd X W (.List es pos) (den g (.lst keep εs)) := snd_lst h fun _ => rfl
theorem r_tup {x1 : Nat} (h : RowOk X W false es (dens g εs)) : Snd X W (.Tuple es x1 pos) (den g (.tup εs)) := snd_tup h fun _ => rfl
/-! ### calls -/
theorem r_call {p0 : Pos} {np : Nat} (C : Cxt X W N sc vi gs ow n) (A : Al T X.prog X.w X.K X.mg X.base n g) (G1 : Gl X x ∧ (x == ("__debug__" : Str)) = false) (k : Nat) (hk : T.fns[k]? = some (x, np)) (row : RowOk X W false (e :: es) (dens g εs))
    (he : starEach (e :: es) X.env = (false, eval e X.env) :: starEach es X.env := by rfl) (hpl : (backTo pos (starEach es X.env)).any (·.1) = false := by rfl) : Snd X W (.Call (.Name x p0) (e :: es) [] pos) (den g (.call x εs)) := by
  obtain ⟨⟨f, fd, ps, F, hm, hkp, hb⟩, hn⟩ := A.fn k x np hk
  exact snd_call F C.room' G1.1 hm hkp hb hn C.tk row G1.2 he hpl fun _ => rfl
theorem r_meth {c m : Str} {p0 apos : Pos} {np : Nat} {pl : Sem Bool} (C : Cxt X W N sc vi gs ow n) (A : Al T X.prog X.w X.K X.mg X.base n g) (h : NmOk X i x) (k : Nat) (hk : T.mes[k]? = some (c, m, np)) (k2 : Nat) (hk2 : T.cls[k2]? = some c) (row : RowOk X W false (e :: es) (dens g εs))
    (ht : eval (.Call (.Attribute (.Name x p0) m apos) (e :: es) [] pos) X.env = (do
      let ov ← eval (.Name x p0) X.env
      standAt apos.atName
      let (f, first) ← holding [ov] (getMethod ov m pl)
      callWith pos f first (backTo pos (starEach (e :: es) X.env)) (backToKw pos (keywordEach [] X.env))) := by rfl)
    (hst : starEach (e :: es) X.env = (false, eval e X.env) :: starEach es X.env := by rfl) (hpl : (backTo pos (starEach es X.env)).any (·.1) = false := by rfl) :
    Snd X W (.Call (.Attribute (.Name x p0) m apos) (e :: es) [] pos) (den g (.meth c m (.bor i []) εs)) := by
  obtain ⟨⟨f, fd, ps, F, hm, hb⟩, hn⟩ := A.me k c m np hk
  exact snd_methB h.hi h.hv h.hd h.hcd (A.st.cl k2 c hk2) hm F C.room' hb hn C.tk row hst hpl (fun _ => rfl) ht
theorem r_new {frz : Bool} {p0 : Pos} {np : Nat} (C : Cxt X W N sc vi gs ow n) (A : Al T X.prog X.w X.K X.mg X.base n g) (G1 : Gl X x ∧ (x == ("__debug__" : Str)) = false) (k : Nat) (hk : T.nes[k]? = some (x, np)) (k2 : Nat) (hk2 : T.cls[k2]? = some x) (row : RowOk X W false (e :: es) (dens g εs))
    (he : starEach (e :: es) X.env = (false, eval e X.env) :: starEach es X.env := by rfl) (hpl : (backTo pos (starEach es X.env)).any (·.1) = false := by rfl) : Snd X W (.Call (.Name x p0) (e :: es) [] pos) (den g (.new frz x εs)) := by
  obtain ⟨⟨f, fd, ps, F, M, hb⟩, hn, hm⟩ := A.ne k x np hk
  exact snd_new M (A.st.cl k2 x hk2) F C.room G1.1 hm hb hn C.tk row G1.2 he hpl fun _ => rfl
/-! ### lists changed -/
theorem r_app {p0 apos : Pos} (h : NmOk X i x) (row : RowOk X W keep [e] (dens g [ε])) (hs : starEach [e] X.env = (false, eval e X.env) :: starEach [] X.env := by rfl) (hbase : attributeBase (.Name x p0) "append" X.env (eval (.Name x p0) X.env) = eval (.Name x p0) X.env := by rfl) (hline : (apos.endLine == pos.line) = true := by rfl)
    (hfew : ((backTo pos (starEach [e] X.env)).all (fun x => !x.1) && (backToKw pos (keywordEach [] X.env)).all (fun x => x.1.isSome) && decide (([e] : List Expr).length + ([] : List Keyword).length + (if ([] : List Keyword).isEmpty then 0 else 1) < 30)) = true := by rfl) :
    Snd X W (.Call (.Attribute (.Name x p0) "append" apos) [e] [] pos) (den g (.mut .append keep i [] [ε])) :=
  snd_lm1 PySem.F.slot_list_append (by rfl) mt_append lm_append h.hi h.hv h.hd h.hcd row hs hbase hline (fun _ => rfl) hfew fun t ht => by cases t <;> first | exact ⟨_, rfl⟩ | cases ht
theorem r_popAt {p0 apos : Pos} (h : NmOk X i x) (row : RowOk X W keep [e] (dens g [ε])) (hs : starEach [e] X.env = (false, eval e X.env) :: starEach [] X.env := by rfl) (hbase : attributeBase (.Name x p0) "pop" X.env (eval (.Name x p0) X.env) = eval (.Name x p0) X.env := by rfl) (hline : (apos.endLine == pos.line) = true := by rfl)
    (hfew : ((backTo pos (starEach [e] X.env)).all (fun x => !x.1) && (backToKw pos (keywordEach [] X.env)).all (fun x => x.1.isSome) && decide (([e] : List Expr).length + ([] : List Keyword).length + (if ([] : List Keyword).isEmpty then 0 else 1) < 30)) = true := by rfl) :
    Snd X W (.Call (.Attribute (.Name x p0) "pop" apos) [e] [] pos) (den g (.mut .popAt keep i [] [ε])) :=
  snd_lm1 PySem.F.slot_list_pop (by rfl) mt_popAt lm_popAt h.hi h.hv h.hd h.hcd row hs hbase hline (fun _ => rfl) hfew fun t ht => by cases t <;> first | exact ⟨_, rfl⟩ | cases ht
theorem r_pop {p0 apos : Pos} (h : NmOk X i x) (hbase : attributeBase (.Name x p0) "pop" X.env (eval (.Name x p0) X.env) = eval (.Name x p0) X.env := by rfl) (hline : (apos.endLine == pos.line) = true := by rfl) :
    Snd X W (.Call (.Attribute (.Name x p0) "pop" apos) [] [] pos) (den g (.mut .pop0 keep i [] [])) :=
  snd_lm0 PySem.F.slot_list_pop (by rfl) mt_pop lm_pop h.hi h.hv h.hd h.hcd hbase hline (fun _ => rfl) fun t ht => by cases t <;> first | exact ⟨_, rfl⟩ | cases ht
end
end
end Tk
end
section
set_option linter.all false
set_option maxRecDepth 100000
set_option maxHeartbeats 4000000
namespace Tk
open PySem PySem.Spec PyProof.Rows L2
section
variable {T : Tab} {X : Cx} {W : WX} {g : G} {N : List Str} {sc : Scope} {vi : List Nat} {gs ow : List Str} {n : Nat} {p q : P} {a b c : Expr} {α β γ : E} {pos : Pos} {i : Nat} {x : Str} {tg : Expr} {pu : Bool}
/-! ### what is walked -/
theorem i_seq (h : Snd X W a (den g α)) (hpu : pu = true → (den g α).p = true) : ItSnd X W pu tg a (den g α).p (dit g pu (.seq α)) := it_seq h hpu
theorem i_range {p0 : Pos} (C : Cxt X W N sc vi gs ow n) (A : Al T X.prog X.w X.K X.mg X.base n g) (G1 : Gl X "range" ∧ (("range" : Str) == ("__debug__" : Str)) = false) (k : Nat) (hk : T.bns[k]? = some "range") (ha : Snd X W a (den g α)) (hs : starEach [a] X.env = [(false, eval a X.env)] := by rfl) :
    ItSnd X W pu tg (.Call (.Name "range" p0) [a] [] pos) (den g α).p (dit g pu (.range [α])) := it_range1 G1.1 (A.st.bn k _ hk) ha hs
theorem i_zip {p0 tpos : Pos} {elts : List Expr} {kk : Nat} (C : Cxt X W N sc vi gs ow n) (A : Al T X.prog X.w X.K X.mg X.base n g) (G1 : Gl X "zip" ∧ (("zip" : Str) == ("__debug__" : Str)) = false) (k : Nat) (hk : T.bns[k]? = some "zip") (ha : Snd X W a (den g α)) (hb : Snd X W b (den g β)) (hpu : pu = true → (den g α).p = true ∧ (den g β).p = true)
    (hs : starEach [a, b] X.env = (false, eval a X.env) :: starEach [b] X.env := by rfl) (hs2 : starEach [b] X.env = (false, eval b X.env) :: starEach [] X.env := by rfl) (hpl : (backTo pos (starEach [b] X.env)).any (·.1) = false := by rfl) :
    ItSnd X W pu (.Tuple elts kk tpos) (.Call (.Name "zip" p0) [a, b] [] pos) ((den g α).p && (den g β).p) (dit g pu (.zip [α, β])) := it_zip G1.1 (A.st.bn k _ hk) ha hb (fun z => Bool.and_eq_true_iff.mp z) hpu hs hs2 hpl
/-! ### targets -/
section
variable {br : List Nat}
theorem t_nm (C : Cxt X W N sc vi gs ow n) (hi : N[i]? = some x) (k : Nat) (hk : ow[k]? = some x) : TgOk X br (.Name x pos) (.nm i) (gName i) := by
  have q := C.fn x (List.mem_of_getElem? hk)
  exact tg_name C.ndX (by rw [C.hN]; exact hi) q.1 q.2
theorem t_nil : TgsOk X br [] [] gNil := tgs_nil
theorem t_cons {tgt : Expr} {tgs : List Expr} {t : Tg} {ts : List Tg} {g1 : TG} {g2 : TGs} (h : TgOk X br tgt t g1) (r : TgsOk X br tgs ts g2) (hs : (assignEach (tgt :: tgs) X.env).map (·.2) = assign tgt X.env :: (assignEach tgs X.env).map (·.2) := by rfl) : TgsOk X br (tgt :: tgs) (t :: ts) (gCons g1 g2) := tgs_cons h r hs
theorem t_tup {tgs : List Expr} {ts : List Tg} {g1 : TGs} {k m : Nat} (C : Cxt X W N sc vi gs ow n) (h : TgsOk X br tgs ts g1) (hn : (assignEach tgs X.env).length = m := by rfl) (hl : ts.length = m := by rfl) (hst : (assignEach tgs X.env).findIdx? (·.1) = none := by rfl) : TgOk X br (.Tuple tgs k pos) (.tup ts) (gTup X.K m g1) :=
  tg_tup C.calm h hn hl hst
end
/-! ### tests of a block -/
abbrev Tst (X : Cx) (W : WX) (g : G) (es : List Expr) (εs : List E) : Prop := PTs X es (tTs X.K W (allP (dens g εs)) (evIfs (dens g εs)))
theorem ts0 : Tst X W g [] [] := ⟨fun pins s σ H Q I h => pts_nil.run pins s σ H Q I (by
  obtain ⟨S, Hf, Φ, Fs, R, o⟩ := h
  exact Out.ok (show Out X.K W σ _ Φ Hf H (.ok true S) _ from o) R)⟩
theorem ts1 (hc : Snd X W c (den g γ)) : Tst X W g [c] [γ] := ⟨fun pins s σ H Q I h => (pts_one hc.t).run pins s σ H Q I (by
  obtain ⟨S, Hf, Φ, Fs, R, o⟩ := h
  have o : Out X.K W σ ((den g γ).p && true) Φ Hf H (((den g γ).t S).bind fun b S1 => if b then .ok true S1 else .ok false S1) _ := o
  refine ⟨S, Hf, Φ, Fs, R, (o.bind (q := (den g γ).p) (q2 := ((den g γ).p && true)) (fun z => (Bool.and_eq_true_iff.mp z).1) id).imp fun b S1 Hf1 H1 Fs1 _ R1 k1 o1 => ?_⟩
  cases b with
  | true => exact Out.ok (show Out X.K W σ _ Φ Hf1 H1 (.ok true S1) _ from o1) R1
  | false => exact Out.ok (show Out X.K W σ _ Φ Hf1 H1 (.ok false S1) _ from o1) R1)⟩
/-! ### comprehensions -/
abbrev Bl2 (N : List Str) (own : List (Str × Nat)) : List Nat := (List.range N.length).filter fun j => decide (j ∉ own.map (·.2))
section
variable {iter ak av ae : Expr} {aifs : List Expr} {ifs : List E} {ε κ : E} {t : Tg} {it : It} {gt : TG} {pi keep : Bool} {scope : Scope} {vi2 : List Nat} {gs2 : List Str}
theorem r_lcomp (C : Cxt X W N sc vi gs ow n) (own : List (Str × Nat)) (vi2 : List Nat) (gs2 : List Str) (hv2 : (vi2.all fun i => match N[i]? with | some x => visB (relS scope sc) x | none => false) = true) (hg2 : gs2.all (glB (relS scope sc)) = true)
    (ho2 : ((own.map (·.1)).all fun x => locB (relS scope sc) x && (decide (scope.names.lookup x = some .cell) || decide ((relS scope sc).names.lookup x = some .local))) = true) (hok : blkC N sc scope own = true) (hown : t.free (Bl2 N own) = true)
    (hi : ItSnd X W (ε.pure && Gen.pures [.mk t it ifs]) tg iter pi (dit g (ε.pure && Gen.pures [.mk t it ifs]) it)) (hpp : (ε.pure && Gen.pures [.mk t it ifs]) = true → pi = true ∧ allP (dens g ifs) = true ∧ (den g ε).p = true)
    (hb : ∀ s H C1 cl fp, Cxt (X.blk s H scope (compEnvC scope cl C1 X.env) fp) WF N (relS scope sc) vi2 gs2 (own.map (·.1)) n → TgOk (X.blk s H scope (compEnvC scope cl C1 X.env) fp) (Bl2 N own) tg t gt ∧ Tst (X.blk s H scope (compEnvC scope cl C1 X.env) fp) WF g aifs ifs ∧ Snd (X.blk s H scope (compEnvC scope cl C1 X.env) fp) WF ae (den g ε))
    (hs : ∀ x, foldedSetIterable iter X.env x = pure x := by intro _; rfl) :
    Snd X W (.ListComp ae [⟨tg, iter, aifs, 0⟩] scope pos) (den g (.lcomp keep (own.map (·.2)) ε [.mk t it ifs])) := by
  have e1 := C.hN
  have e2 := C.hsc
  subst e1 e2
  have cb := C.blk hv2 hg2 ho2
  exact snd_lcomp C.calm C.nd hi (blkOk_by hok) hpp hown (fun s H C1 cl fp => (hb s H C1 cl fp (cb s H C1 cl fp)).1) (fun s H C1 cl fp => (hb s H C1 cl fp (cb s H C1 cl fp)).2.1) (fun s H C1 cl fp => (hb s H C1 cl fp (cb s H C1 cl fp)).2.2.v) hs fun _ => rfl
theorem r_dcompK (C : Cxt X W N sc vi gs ow n) (own : List (Str × Nat)) (vi2 : List Nat) (gs2 : List Str) (hv2 : (vi2.all fun i => match N[i]? with | some x => visB (relS scope sc) x | none => false) = true) (hg2 : gs2.all (glB (relS scope sc)) = true)
    (ho2 : ((own.map (·.1)).all fun x => locB (relS scope sc) x && (decide (scope.names.lookup x = some .cell) || decide ((relS scope sc).names.lookup x = some .local))) = true) (hok : blkC N sc scope own = true) (hown : t.free (Bl2 N own) = true)
    (hi : ItSnd X W (κ.pure && (ε.pure && Gen.pures [.mk t it ifs])) tg iter pi (dit g (κ.pure && (ε.pure && Gen.pures [.mk t it ifs])) it)) (hpp : (κ.pure && (ε.pure && Gen.pures [.mk t it ifs])) = true → pi = true ∧ allP (dens g ifs) = true ∧ (den g κ).p = true ∧ (den g ε).p = true) (hT : κ.isTup = false)
    (hb : ∀ s H C1 cl fp, Cxt (X.blk s H scope (compEnvC scope cl C1 X.env) fp) WF N (relS scope sc) vi2 gs2 (own.map (·.1)) n → TgOk (X.blk s H scope (compEnvC scope cl C1 X.env) fp) (Bl2 N own) tg t gt ∧ Tst (X.blk s H scope (compEnvC scope cl C1 X.env) fp) WF g aifs ifs ∧
      Snd (X.blk s H scope (compEnvC scope cl C1 X.env) fp) WF ak (den g κ) ∧ Snd (X.blk s H scope (compEnvC scope cl C1 X.env) fp) WF av (den g ε))
    (hs : ∀ x, foldedSetIterable iter X.env x = pure x := by intro _; rfl) :
    Snd X W (.DictComp ak av [⟨tg, iter, aifs, 0⟩] scope pos) (den g (.dcomp keep (own.map (·.2)) κ ε [.mk t it ifs])) := by
  have e1 := C.hN
  have e2 := C.hsc
  subst e1 e2
  have cb := C.blk hv2 hg2 ho2
  have z := snd_dcompK (W := W) (keep := keep) C.calm C.nd hi (blkOk_by hok) hpp hown (fun s H C1 cl fp => (hb s H C1 cl fp (cb s H C1 cl fp)).1) (fun s H C1 cl fp => (hb s H C1 cl fp (cb s H C1 cl fp)).2.1) (fun s H C1 cl fp => (hb s H C1 cl fp (cb s H C1 cl fp)).2.2.1.v) (fun s H C1 cl fp => (hb s H C1 cl fp (cb s H C1 cl fp)).2.2.2.v) hs (pos := pos) fun _ => rfl
  show Snd X W _ (dDcomp _ κ.isTup keep _ _ _ _)
  rw [hT]
  exact z
theorem r_dcompT {es : List Expr} {εs : List E} {x1 : Nat} {p2 : Pos} (C : Cxt X W N sc vi gs ow n) (own : List (Str × Nat)) (vi2 : List Nat) (gs2 : List Str) (hv2 : (vi2.all fun i => match N[i]? with | some x => visB (relS scope sc) x | none => false) = true) (hg2 : gs2.all (glB (relS scope sc)) = true)
    (ho2 : ((own.map (·.1)).all fun x => locB (relS scope sc) x && (decide (scope.names.lookup x = some .cell) || decide ((relS scope sc).names.lookup x = some .local))) = true) (hok : blkC N sc scope own = true) (hown : t.free (Bl2 N own) = true)
    (hi : ItSnd X W (E.pures εs && (ε.pure && Gen.pures [.mk t it ifs])) tg iter pi (dit g (E.pures εs && (ε.pure && Gen.pures [.mk t it ifs])) it)) (hpp : (E.pures εs && (ε.pure && Gen.pures [.mk t it ifs])) = true → pi = true ∧ allP (dens g ifs) = true ∧ allP (dens g εs) = true ∧ (den g ε).p = true)
    (hb : ∀ s H C1 cl fp, Cxt (X.blk s H scope (compEnvC scope cl C1 X.env) fp) WF N (relS scope sc) vi2 gs2 (own.map (·.1)) n → TgOk (X.blk s H scope (compEnvC scope cl C1 X.env) fp) (Bl2 N own) tg t gt ∧ Tst (X.blk s H scope (compEnvC scope cl C1 X.env) fp) WF g aifs ifs ∧
      RowOk (X.blk s H scope (compEnvC scope cl C1 X.env) fp) WF false es (dens g εs) ∧ Snd (X.blk s H scope (compEnvC scope cl C1 X.env) fp) WF av (den g ε))
    (hs : ∀ x, foldedSetIterable iter X.env x = pure x := by intro _; rfl) :
    Snd X W (.DictComp (.Tuple es x1 p2) av [⟨tg, iter, aifs, 0⟩] scope pos) (den g (.dcomp keep (own.map (·.2)) (.tup εs) ε [.mk t it ifs])) := by
  have e1 := C.hN
  have e2 := C.hsc
  subst e1 e2
  have cb := C.blk hv2 hg2 ho2
  exact snd_dcompT C.un C.calm C.nd hi (blkOk_by hok) hpp hown (fun s H C1 cl fp => (hb s H C1 cl fp (cb s H C1 cl fp)).1) (fun s H C1 cl fp => (hb s H C1 cl fp (cb s H C1 cl fp)).2.1) (fun s H C1 cl fp => (hb s H C1 cl fp (cb s H C1 cl fp)).2.2.1) (fun s H C1 cl fp => (hb s H C1 cl fp (cb s H C1 cl fp)).2.2.2.v) hs fun _ => rfl
end
end
end Tk
end
section
set_option linter.all false
set_option maxRecDepth 100000
set_option maxHeartbeats 4000000
namespace Tk
open PySem PySem.Spec PyProof.Rows L2
/-! ### stores at once -/
theorem sws2 {x y : Str} {a b : Expr} {px py pt pt2 : Pos} {kt k2 : Nat} {env : Env} (hk : env.scope.kind = .function) (hx : env.scope.names.lookup x = some .local) (hy : env.scope.names.lookup y = some .local) (hne : (y == x) = false) (hl : (py.line == px.line) = true)
    (h1 : ([a, b].any fun | .Starred .. => true | _ => false) = false) (h2 : ([a, b].all (foldedForSure 8)) = false) (h3 : ([a, b].all (constantsAlone 8)) = false) : swappedStores [.Tuple [.Name x px, .Name y py] kt pt] (.Tuple [a, b] k2 pt2) env = pure (some [x, y]) := by
  have hb : env.blockKind = .function := by unfold Env.blockKind; rw [hk]; rfl
  have kx : env.kindOf x = some .local := hx
  have ky : env.kindOf y = some .local := hy
  have e2 : ([x, y] : List Str).eraseDups = [x, y] := by
    simp only [List.eraseDups_cons, List.filter_cons, hne, Bool.not_false, if_true, List.filter_nil, List.eraseDups_nil]
  unfold swappedStores
  simp only [List.length_cons, List.length_nil, hb, List.filterMap_cons, List.filterMap_nil, kx, ky, List.head?_cons, Option.map_some, Option.getD_some, Expr.pos, hl, beq_self_eq_true, Bool.and_self, if_true, e2, h1, h2, h3]
  rw [if_neg (by decide)]
  split
  · rename_i z
    have z : ([a, b].any fun | .Starred .. => true | _ => false) = true := z
    rw [h1] at z
    cases z
  · rw [if_neg (by decide), if_neg (by decide), if_neg (by decide)]
theorem sws3 {x y z : Str} {a b c : Expr} {px py pz pt pt2 : Pos} {kt k2 : Nat} {env : Env} (hk : env.scope.kind = .function) (hx : env.scope.names.lookup x = some .local) (hy : env.scope.names.lookup y = some .local) (hz : env.scope.names.lookup z = some .local) (hne : (y == x) = false) (hne2 : (z == x) = false) (hne3 : (z == y) = false)
    (hl : (py.line == px.line) = true) (hl2 : (pz.line == px.line) = true) (h1 : ([a, b, c].any fun | .Starred .. => true | _ => false) = false) (h2 : ([a, b, c].all (foldedForSure 8)) = false) (h3 : ([a, b, c].all (constantsAlone 8)) = false) :
    swappedStores [.Tuple [.Name x px, .Name y py, .Name z pz] kt pt] (.Tuple [a, b, c] k2 pt2) env = pure (some [x, y, z]) := by
  have hb : env.blockKind = .function := by unfold Env.blockKind; rw [hk]; rfl
  have kx : env.kindOf x = some .local := hx
  have ky : env.kindOf y = some .local := hy
  have kz : env.kindOf z = some .local := hz
  have e2 : ([x, y, z] : List Str).eraseDups = [x, y, z] := by
    simp only [List.eraseDups_cons, List.filter_cons, hne, hne2, hne3, Bool.not_false, if_true, List.filter_nil, List.eraseDups_nil]
  unfold swappedStores
  simp only [List.length_cons, List.length_nil, hb, List.filterMap_cons, List.filterMap_nil, kx, ky, kz, List.head?_cons, Option.map_some, Option.getD_some, Expr.pos, hl, hl2, beq_self_eq_true, Bool.and_self, if_true, e2, h1, h2, h3]
  rw [if_neg (by decide)]
  split
  · rename_i z
    have z : ([a, b, c].any fun | .Starred .. => true | _ => false) = true := z
    rw [h1] at z
    cases z
  · rw [if_neg (by decide), if_neg (by decide), if_neg (by decide)]
/-- a name that is captured stands among them: each store by itself -/
theorem swsC2 {x y : Str} {a b : Expr} {px py pt pt2 : Pos} {kt k2 : Nat} {env : Env} (hx : env.scope.names.lookup x = some .cell) (hy : env.scope.names.lookup y = some .cell) : swappedStores [.Tuple [.Name x px, .Name y py] kt pt] (.Tuple [a, b] k2 pt2) env = pure none := by
  have kx : env.kindOf x = some .cell := hx
  have ky : env.kindOf y = some .cell := hy
  have kc : ((some NameKind.cell : Option NameKind) == some NameKind.local) = false := by decide
  unfold swappedStores
  simp only [List.length_cons, List.length_nil, List.filterMap_cons, List.filterMap_nil, kx, ky, kc, List.head?_cons, Option.map_some, Option.getD_some, Expr.pos, Bool.false_and, Bool.false_eq_true, if_false]
  split
  · rfl
  · split
    · rfl
    · rfl
theorem swC {x : Str} {e : Expr} {px : Pos} {l : Nat} {env : Env} (hx : env.scope.names.lookup x = some .cell) : swapsWith e (some (.Name x px)) l env = pure false := by
  have kx : env.kindOf x = some .cell := hx
  have kc : ((some NameKind.cell : Option NameKind) == some NameKind.local) = false := by decide
  unfold swapsWith
  split
  · rename_i sc h
    simp only [kx, kc, Bool.and_false, Bool.false_and]
  · rfl
end Tk
end
section
set_option linter.all false
set_option maxRecDepth 100000
set_option maxHeartbeats 4000000
namespace Tk
open PySem PySem.Spec PyProof.Rows L2
theorem Cxt.tr {X : Cx} {W W' : WX} {N : List Str} {sc : Scope} {vi : List Nat} {gs ow : List Str} {n : Nat} {pn : List (Addr × Obj)} {xe : Value → Shared → Prop} (C : Cxt X W N sc vi gs ow n) (tk : Takes (X.tr pn xe) W') : Cxt (X.tr pn xe) W' N sc vi gs ow n := ⟨C.hN, C.hsc, C.nd, tk, C.room, C.calm, C.vis, C.gls, C.fn⟩
section
variable {T : Tab} {X : Cx} {W : WX} {g : G} {N : List Str} {sc : Scope} {vi : List Nat} {gs ow : List Str} {n : Nat} {br : List Nat} {a b c : Expr} {α β γ ε : E} {pos : Pos} {i : Nat} {x : Str} {st : Stmt} {sts : List Stmt} {s s2 : S}
theorem s_nil : StsOk X W br [] (dS g br .skip) := sts_nil
theorem s_one (h : StOk X W br st (dS g br s)) : StsOk X W br [st] (dS g br s) := sts_one h
theorem s_cons (h : StOk X W br st (dS g br s)) (r : StsOk X W br sts (dS g br s2)) : StsOk X W br (st :: sts) (dS g br (.seq s s2)) := sts_cons h r
theorem s_pass : StOk X W br (.Pass pos) (dS g br .skip) := st_pass
theorem s_brk : StOk X W br (.Break pos) (dS g br .brk) := st_brk
theorem s_cnt : StOk X W br (.Continue pos) (dS g br .cnt) := st_cnt
theorem s_retN : StOk X W br (.Return none pos) (dS g br .retN) := st_retN
theorem s_ex (h : Snd X W a (den g α)) (hs : swapsWith a none pos.line X.env = pure false := by rfl) : StOk X W br (.Expr a pos) (dS g br (.ex α)) := st_expr h hs
theorem s_asg {p2 : Pos} (C : Cxt X W N sc vi gs ow n) (hi : N[i]? = some x) (k : Nat) (hk : ow[k]? = some x) (h : Snd X W a (den g α)) (hs : swapsWith a (some (.Name x p2)) pos.line X.env = pure false) : StOk X W br (.Assign [.Name x p2] a pos) (dS g br (.asg (.nm i) α)) := by
  have q := C.fn x (List.mem_of_getElem? hk)
  exact st_asg h C.ndX (by rw [C.hN]; exact hi) q.1 q.2 hs
theorem s_asgT {tgs : List Expr} {ts : List Tg} {gt : TG} {k : Nat} {p2 : Pos} (h : Snd X W a (den g α)) (ht : TgOk X br (.Tuple tgs k p2) (.tup ts) gt) (hw : swappedStores [.Tuple tgs k p2] a X.env = pure none) (hs : swapsWithSole [.Tuple tgs k p2] a pos.line X.env = pure false := by rfl) : StOk X W br (.Assign [.Tuple tgs k p2] a pos) (dS g br (.asg (.tup ts) α)) :=
  st_asgT h ht hs hw
theorem s_asg2 {j : Nat} {y : Str} {px py pt pt2 : Pos} {kt k2 : Nat} {εs : List E} (C : Cxt X W N sc vi gs ow n) (hf : sc.kind = .function) (hi : N[i]? = some x) (hj : N[j]? = some y) (hij : i ≠ j) (hx : sc.names.lookup x = some .local) (hy : sc.names.lookup y = some .local) (hne : (y == x) = false) (hl : (py.line == px.line) = true) (row : RowOk X W true [a, b] (dens g εs))
    (h1 : ([a, b].any fun | .Starred .. => true | _ => false) = false := by rfl) (h2 : ([a, b].all (foldedForSure 8)) = false := by rfl) (h3 : ([a, b].all (constantsAlone 8)) = false := by rfl) :
    StOk X W br (.Assign [.Tuple [.Name x px, .Name y py] kt pt] (.Tuple [a, b] k2 pt2) pos) (dS g br (.asgN [i, j] εs)) := by
  have e1 := C.hN
  have e2 := C.hsc
  subst e1 e2
  exact st_asgN2 C.calm C.nd hi hj hij hx hy row (sws2 hf hx hy hne hl h1 h2 h3) rfl
theorem s_asg3 {j l : Nat} {y z : Str} {px py pz pt pt2 : Pos} {kt k2 : Nat} {εs : List E} (C : Cxt X W N sc vi gs ow n) (hf : sc.kind = .function) (hi : N[i]? = some x) (hj : N[j]? = some y) (hl0 : N[l]? = some z) (hij : i ≠ j) (hil : i ≠ l) (hjl : j ≠ l) (hx : sc.names.lookup x = some .local) (hy : sc.names.lookup y = some .local) (hz : sc.names.lookup z = some .local)
    (hne : (y == x) = false) (hne2 : (z == x) = false) (hne3 : (z == y) = false) (hl : (py.line == px.line) = true) (hl2 : (pz.line == px.line) = true) (row : RowOk X W true [a, b, c] (dens g εs))
    (h1 : ([a, b, c].any fun | .Starred .. => true | _ => false) = false := by rfl) (h2 : ([a, b, c].all (foldedForSure 8)) = false := by rfl) (h3 : ([a, b, c].all (constantsAlone 8)) = false := by rfl) :
    StOk X W br (.Assign [.Tuple [.Name x px, .Name y py, .Name z pz] kt pt] (.Tuple [a, b, c] k2 pt2) pos) (dS g br (.asgN [i, j, l] εs)) := by
  have e1 := C.hN
  have e2 := C.hsc
  subst e1 e2
  exact st_asgN3 C.calm C.nd hi hj hl0 hij hil hjl hx hy hz row (sws3 hf hx hy hz hne hne2 hne3 hl hl2 h1 h2 h3) rfl
theorem s_setA {c f : Str} {keep : Bool} {p0 p2 : Pos} (C : Cxt X W N sc vi gs ow n) (A : Al T X.prog X.w X.K X.mg X.base n g) (h : NmOk X i x) (k : Nat) (hk : T.cls[k]? = some c) (k2 : Nat) (hk2 : T.nas[k2]? = some (c, f)) (he : Snd X W a (den g α)) (hs : swapsWith a (some (.Attribute (.Name x p0) f p2)) pos.line X.env = pure false := by rfl) :
    StOk X W br (.Assign [.Attribute (.Name x p0) f p2] a pos) (dS g br (.sto keep (.at (.setA c f) i [] []) α)) := st_setA he h.hi h.hv h.hd h.hcd (A.st.cl k c hk) (A.st.na k2 c f hk2) hs
theorem g_nil {c : Str} : PGs X [] (gSt X i c []) := pgs_nil
theorem g_cons {c f : Str} {fs : List Str} {tgs : List Expr} {p0 p2 : Pos} (h : NmOk X i x) (r : PGs X tgs (gSt X i c fs)) (hs : (assignEach (.Attribute (.Name x p0) f p2 :: tgs) X.env).map (·.2) = assign (.Attribute (.Name x p0) f p2) X.env :: (assignEach tgs X.env).map (·.2) := by rfl) :
    PGs X (.Attribute (.Name x p0) f p2 :: tgs) (gSt X i c (f :: fs)) := pgs_cons (pg_fldS (pe_var h.hi h.hv h.hd h.hcd)) r hs
theorem s_stos {c : Str} {fs : List Str} {tgs : List Expr} {k m : Nat} {p2 : Pos} (C : Cxt X W N sc vi gs ow n) (A : Al T X.prog X.w X.K X.mg X.base n g) (k1 : Nat) (hk : T.cls[k1]? = some c) (na : ∀ f, f ∈ fs → ∃ k : Nat, T.nas[k]? = some (c, f)) (he : Snd X W a (den g α)) (ht : PGs X tgs (gSt X i c fs)) (hn : (assignEach tgs X.env).length = m) (hl : fs.length = m)
    (hst : (assignEach tgs X.env).findIdx? (·.1) = none := by rfl) (hs : swapsWithSole [.Tuple tgs k p2] a pos.line X.env = pure false := by rfl) (hw : swappedStores [.Tuple tgs k p2] a X.env = pure none) :
    StOk X W br (.Assign [.Tuple tgs k p2] a pos) (dS g br (.stos (fs.map fun f => LV.at (.setA c f) i [] []) α)) :=
  st_stos (x := c) C.calm he (A.st.cl k1 c hk) (fun f hf => let ⟨k, e⟩ := na f hf; A.st.na k c f e) ht hn hl hst hs hw
theorem s_if {u v : List Stmt} (hc : Snd X W c (den g γ)) (ha : StsOk X W br u (dS g br s)) (hb : StsOk X W br v (dS g br s2)) : StOk X W br (.If c u v pos) (dS g br (.ite γ s s2)) := st_if hc ha hb
theorem s_ret (h : Snd X W a (den g α)) (hp : plainName α = none := by rfl) : StOk X W br (.Return (some a) pos) (dS g br (.ret α)) := by
  have q := st_ret (br := br) (pos := pos) h
  have e : dS g br (.ret α) = fun S => ((den g α).v S).fl fun t S1 => .ret t S1 := by
    show (fun S => (moveOut br (den g α) (plainName α) S).fl fun t S1 => Fl.ret t S1) = _
    rw [hp]
    rfl
  rw [e]
  exact q
theorem s_retM {p2 : Pos} (h : NmOk X i x) (hb : br.contains i = false := by rfl) : StOk X W br (.Return (some (.Name x p2)) pos) (dS g br (.ret (.pl i []))) := st_retM h.hi h.hv h.hd h.hcd hb (r_nm (g := g) h)
theorem s_raise {m : Str} {j : Nat} {p p2 p3 : Pos} (C : Cxt X W N sc vi gs ow n) (A : Al T X.prog X.w X.K X.mg X.base n g) (G1 : Gl X x ∧ (x == ("__debug__" : Str)) = false) (k : Nat) (hk : T.xcs[k]? = some x) : StOk X W br (.Raise (some (.Call (.Name x p) [.Constant (.str m) j p2] [] p3)) none pos) (dS g br (.raise x [.cst (.str m)])) := by
  obtain ⟨h1, h2, h3, h4, h5⟩ := A.st.xc k x hk
  exact st_raise C.calm C.tk PySem.F.excBase_ValueError h2 h1 h3 (raises_own h4 h5) G1.1 G1.2
theorem s_for {tg iter : Expr} {body : List Stmt} {t : Tg} {gt : TG} {pi : Bool} {it : It} {kill : List Nat} (C : Cxt X W N sc vi gs ow n) (hp : PassesOwn (model X.prog X.w) X.A X.env X.xe) (hi : ItSnd X W false tg iter pi (dit g false it)) (ht : TgOk X br tg t gt) (hb : StsOk X W br body (dS g br s)) (hs : ∀ x, foldedSetIterable iter X.env x = pure x := by intro _; rfl) :
    StOk X W br (.For tg iter body [] pos) (dS g br (.for_ kill t it s)) := st_for hp C.calm hi ht hb hs
theorem s_tryF {nm cname : Str} {body : List Stmt} {np p3 p4 p5 p6 pos' : Pos} (C : Cxt X W N sc vi gs ow n) (A : Al T X.prog X.w X.K X.mg X.base n g) (hfr : X.stack = X.env :: X.outer ∧ X.env.frame = some X.env.locals) (h : NmOk X i nm) (hln : sc.names.lookup nm = some .local) (k : Nat) (hk : T.xcs[k]? = some cname) (k2 : Nat) (hk2 : T.ecs[k2]? = some cname)
    (G1 : Gl X cname ∧ (cname == ("__debug__" : Str)) = false) (G2 : Gl X T.flf ∧ (T.flf == ("__debug__" : Str)) = false) (hb : ∀ (W' : WX) (pn : List (Addr × Obj)) (xe : Value → Shared → Prop), Cxt (X.tr pn xe) W' N sc vi gs ow n → PassesOwn (model X.prog X.w) X.A X.env xe → StsOk (X.tr pn xe) W' br body (dS g br s)) :
    StOk X W br (.Try body [.ExceptHandler (some (.Name cname np)) (some nm) [.Return (some (.Call (.Name T.flf p3) [.Name nm p4] [] p5)) p6] pos'] [] [] pos) (dS g br (.tryF s cname i T.fls)) :=
  st_tryF A.st.ex (List.mem_of_getElem? hk2) A.st.fl hfr.1 hfr.2 C.ndX h.hi (by show X.env.scope.names.lookup nm = _; rw [C.hsc]; exact hln) h.hv h.hd h.hcd ⟨G1.1, G1.2, .inl (A.st.xc k cname hk).1⟩ C.tk C.room G2.1 G2.2 fun W' pn xe tk hp => hb W' pn xe (C.tr tk) hp
/-- name = [..] on one line, the name a local -/
theorem s_asgLc {ae tg iter : Expr} {aifs : List Expr} {ifs : List E} {t : Tg} {it : It} {gt : TG} {pi keep : Bool} {scope : Scope} {cpos p2 : Pos} (C : Cxt X W N sc vi gs ow n) (own : List (Str × Nat)) (vi2 : List Nat) (gs2 : List Str) (hv2 : (vi2.all fun i => match N[i]? with | some x => visB (relS scope sc) x | none => false) = true) (hg2 : gs2.all (glB (relS scope sc)) = true)
    (ho2 : ((own.map (·.1)).all fun x => locB (relS scope sc) x && (decide (scope.names.lookup x = some .cell) || decide ((relS scope sc).names.lookup x = some .local))) = true) (hok : blkC N sc scope own = true) (hown : t.free (Bl2 N own) = true)
    (hi0 : N[i]? = some x) (hx : sc.names.lookup x = some .local) (hf : sc.kind = .function) (hl : (p2.line == cpos.line) = true) (hxs : (scope.names.any fun (n, k) => n == x && (k == .local || k == .cell)) = false)
    (hi : ItSnd X W (ε.pure && Gen.pures [.mk t it ifs]) tg iter pi (dit g (ε.pure && Gen.pures [.mk t it ifs]) it)) (hpp : (ε.pure && Gen.pures [.mk t it ifs]) = true → pi = true ∧ allP (dens g ifs) = true ∧ (den g ε).p = true)
    (hb : ∀ s H C1 cl fp, Cxt (X.blk s H scope (compEnvC scope cl C1 X.env) fp) WF N (relS scope sc) vi2 gs2 (own.map (·.1)) n → TgOk (X.blk s H scope (compEnvC scope cl C1 X.env) fp) (Bl2 N own) tg t gt ∧ Tst (X.blk s H scope (compEnvC scope cl C1 X.env) fp) WF g aifs ifs ∧ Snd (X.blk s H scope (compEnvC scope cl C1 X.env) fp) WF ae (den g ε))
    (hs : ∀ x, foldedSetIterable iter X.env x = pure x := by intro _; rfl) :
    StOk X W br (.Assign [.Name x p2] (.ListComp ae [⟨tg, iter, aifs, 0⟩] scope cpos) pos) (dS g br (.asg (.nm i) (.lcomp keep (own.map (·.2)) ε [.mk t it ifs]))) := by
  have e1 := C.hN
  have e2 := C.hsc
  subst e1 e2
  have cb := C.blk hv2 hg2 ho2
  have hg : ∀ (s : Shared) (H : Hp) (C1 : Addr) (cl : List (Str × Addr)) (fp : List Addr), TgOk (X.blk s H scope (compEnvC scope cl C1 X.env) fp) (Bl2 X.N own) tg t gt := fun s H C1 cl fp => (hb s H C1 cl fp (cb s H C1 cl fp)).1
  refine ⟨⟨fun pins s σ H D I w => (ps_setLc (te := tV X.K WF (den g ε).p (den g ε).v) (tt := tTs X.K WF (allP (dens g ifs)) (evIfs (dens g ifs))) C.calm C.nd hi0 hx (sw_true hf hx hl hxs) hi.pi (blkOk_by hok) (fun s H C1 cl fp => (hg s H C1 cl fp).pg) (fun s H C1 cl fp => (hb s H C1 cl fp (cb s H C1 cl fp)).2.1) (fun s H C1 cl fp => (hb s H C1 cl fp (cb s H C1 cl fp)).2.2.v) hs).run pins s σ H D I ?_⟩⟩
  obtain ⟨S, Hf, Φ, Fs, R, o⟩ := w
  refine lcomp_v (W := W) (keep := keep) C.nd hpp hown hg I ⟨S, Hf, Φ, Fs, R, ?_⟩
  have o : FOut X.K W br σ Φ Hf H (((dLcomp (ε.pure && Gen.pures [.mk t it ifs]) keep (own.map (·.2)) (den g ε) (dgens g (ε.pure && Gen.pures [.mk t it ifs]) [.mk t it ifs])).v S).fl fun u S1 => setO br (.nm i) u S1) D := o
  refine (FOut.fl o).imp fun t S1 Hf1 H1 Fs1 _ R1 k1 o1 v F ow off => ?_
  have o1 : FOut X.K W br σ Φ Hf1 H1 (if (!br.contains i) = true then (if i < S1.length then .nx (S1.set i (.own t)) else .bad) else .bad) D := o1
  split at o1
  · rename_i hb
    split at o1
    · rename_i hl
      exact o1 _ H1 Hf1 _ (R1.put hl ow off) Kp.refl (sb_set (by simpa using hb))
    · exact o1.elim
  · exact o1.elim
end
end Tk
end
section
set_option linter.all false
set_option maxRecDepth 100000
set_option maxHeartbeats 4000000
/-! Methods of instances that are values. -/
namespace Tk
open PySem PySem.Spec PyProof.Rows L2
section
variable {X : Cx} {W : WX} {g : G} {o e : Expr} {es : List Expr} {ds : List Den} {δ : Den} {m : Str} {apos pos : Pos} {f : Addr} {fd : FuncData} {ps : List Str} {k n : Nat} {c : Str}
theorem snd_methV {pl : Sem Bool} (hv : Snd X W o δ) (hk : δ.k = .plain) (cc : Cls X.K (He.ga X.K c)) (hm : Meth X.K (He.ga X.K c) m f)
    (F : FnOk X.prog X.w X.K X.mg X.base (L2.CX X.prog X.w) k f fd ps (spOf X.K g (methName c m) n)) (hr : Room k X.A) (hb : Binds X.K fd ps []) (hn : ∀ ts, g.fn (methName c m) ts ≠ .bad → ts.length = n) (tk : Takes X W) (row : RowOk X W false (e :: es) ds)
    (hst : starEach (e :: es) X.env = (false, eval e X.env) :: starEach es X.env) (hpl : (backTo pos (starEach es X.env)).any (·.1) = false) (hpt : PlainT X (.Call (.Attribute o m apos) (e :: es) [] pos))
    (ht : eval (.Call (.Attribute o m apos) (e :: es) [] pos) X.env = (do
      let ov ← eval o X.env
      standAt apos.atName
      let (f, first) ← holding [ov] (getMethod ov m pl)
      callWith pos f first (backTo pos (starEach (e :: es) X.env)) (backToKw pos (keywordEach [] X.env)))) :
    Snd X W (.Call (.Attribute o m apos) (e :: es) [] pos) (dMeth g c m δ ds) := by
  have hv' : PE X (.Call (.Attribute o m apos) (e :: es) [] pos) (tV X.K W false (dMeth g c m δ ds).v) := (pe_mw hv.v cc hm F hr hb tk row.pa hst hpl ht).weak fun σ H Q ⟨S, Hf, Φ, Fs, R, o1⟩ => by
    have e1 : (dMeth g c m δ ds).v S = (δ.v S).bind fun t S1 => if recvOk c m t then (evAs ds S1).bind fun vs S2 => doCall g (methName c m) (.val (.leaf t.frz) :: vs) S2 else .bad := by
      show (match δ.k with
        | .lent i _ => _
        | _ => _) = _
      rw [hk]
    rw [e1] at o1
    refine ⟨S, Hf, Φ, Fs, R, (o1.bind (q := δ.p) (q2 := false) (fun z => nomatch z) id).imp fun t S1 Hf1 H1 Fs1 _ R1 k1 o2 v F1 ow off => ?_⟩
    split at o2
    · rename_i hk2
      obtain ⟨a, dx, fs, rfl, ha, hl⟩ := recv_ins R1.same ow hk2
      have R2 := R1.freezeF off
      have kf : Kp false Φ Hf1 H1 (addF Hf1 H1 F1) H1 := kp_freezeF fun b hb => (off b hb).1
      refine ⟨a, dx, fs, rfl, ha, hl, S1, _, Φ, Fs1, R2, ?_⟩
      have o3 : Out X.K W σ false Φ Hf1 H1 (((evA false ds S1).bind fun r S2 => Tk.R.opt S2 (spreadA r)).bind fun vs S2 => doCall g (methName c m) (.val (.leaf t.frz) :: vs) S2) (fun t _ Hf' H' Fs' => ∀ v F, Ow X.K Hf' H' v t F → Off F Φ H' Fs' → Q v H') := o2
      refine (((o3.base (Ψ := Φ) kf id fun _ z => z).bind (q := false) (q2 := false) id id).bind (q := allP ds) (q2 := false) (fun z => nomatch z) id).imp fun r S3 Hf3 H3 Fs3 _ R3 k3 o4 vs G row offG => ?_
      cases e2 : spreadA r with
      | none => rw [e2] at o4; exact o4.elim
      | some as =>
        rw [e2] at o4
        exact call_out R3 (.val (F := fun _ => False) (.leaf (ow.frozen.mono k3.fz)) (row_A row e2) (fun _ z => z.elim) (fun _ z => z) fun _ z => z.elim) offG hn (Out.ok (show Out X.K W σ false Φ Hf3 H3 (.ok as S3) _ from o4) R3)
    · exact o2.elim
  exact snd_of hv' (fun z => nomatch z) (pt_of hv' hpt)
end
section
variable {X : Cx} {W : WX} {g : G} {o e : Expr} {es : List Expr} {pos : Pos} {T : Tab} {N : List Str} {sc : ScopeInfo} {vi : List Nat} {gs ow : List Str} {n : Nat} {εs : List E} {ε : E}
#check @r_meth
end
end Tk
end
section
set_option linter.all false
set_option maxRecDepth 100000
set_option maxHeartbeats 4000000
/-! [f, g][i](..); x, y = a, b stored one after the other. -/
namespace Tk
open PySem PySem.Spec PyProof.Rows L2
/-! ### a def out of a row of defs -/
def tCallT (W : WX) (S : Addr → L2.Sp → Prop) (tf : TE) (t : TA) : TE := fun σ H Q => tf σ H fun y H1 => ∃ a sp, y = .ref a ∧ S a sp ∧ t σ H1 fun vs H2 => sp vs H2 Q (WE W σ)
structure Hel (X : Cx) (a : Addr) (sp : L2.Sp) : Prop where
  ex : ∃ (k : Nat) (fd : FuncData) (ps : List Str), FnOk X.prog X.w X.K X.mg X.base (L2.CX X.prog X.w) k a fd ps sp ∧ Room k X.A ∧ PySem.W.keepIn X.K (.ref a) = true ∧ Binds X.K fd ps []
section
variable {X : Cx} {W : WX} {fe e : Expr} {es : List Expr} {tf : TE} {t : TA} {pos : Pos}
theorem pe_callT {S : Addr → L2.Sp → Prop} (A : ∀ a sp, S a sp → Hel X a sp) (tk : Takes X W) (hf : PE X fe tf) (ha : PA X (e :: es) t)
    (ht : eval (.Call fe (e :: es) [] pos) X.env = (do callWith pos (← eval fe X.env) [] (backTo pos (starEach (e :: es) X.env)) (backToKw pos (keywordEach [] X.env))))
    (he : starEach (e :: es) X.env = (false, eval e X.env) :: starEach es X.env) (hpl : (backTo pos (starEach es X.env)).any (·.1) = false) : PE X (.Call fe (e :: es) [] pos) (tCallT W S tf t) := by
  refine ⟨fun pins s σ H Q I h => ?_⟩
  refine Call_ (thn (hf.run pins s σ H _ I h) fun u s1 ⟨y, H1, I1, ry, a, sp, ey, hS, q⟩ => ?_) ht
  subst ey
  obtain rfl : u = Value.ref a := ry
  obtain ⟨k, fd, ps, F, hr, hk, hb⟩ := (A a sp hS).ex
  refine PySem.W.callWith_K (h₀ := X.base) I1.ok.mod.kin hk (thn (ha.run pos pins s1 σ H1 _ I1 q) fun us s2 ⟨vs, H2, I2, r, q2⟩ => ⟨I2.kIn, run_fnSD (ds := []) (dvs := []) (E := WE W) F hr hb .nil (passAt tk σ) I2 r ?_⟩) he hpl
  rw [List.append_nil]
  exact q2
end
/-- names of defs, their places -/
inductive FsOk (X : Cx) (g : G) : List Expr → List Str → List Addr → Prop
  | nil : FsOk X g [] [] []
  | cons {es : List Expr} {fs : List Str} {as : List Addr} {e : Expr} {f : Str} {a : Addr} {n : Nat} : PE X e (tC (.ref a)) → starEach (e :: es) X.env = (false, eval e X.env) :: starEach es X.env → Hel X a (spOf X.K g f n) → (∀ ts, g.fn f ts ≠ .bad → ts.length = n) → FsOk X g es fs as → FsOk X g (e :: es) (f :: fs) (a :: as)
def tVs (vs : List V) : TA := fun _ H Q => Q vs H
theorem FsOk.pa {X : Cx} {g : G} {es : List Expr} {fs : List Str} {as : List Addr} (h : FsOk X g es fs as) : PA X es (tVs (as.map .ref)) := by
  induction h with
  | nil => exact pa_nil.weak fun σ H Q h => h
  | cons he hs _ _ _ ih => exact (pa_cons he ih hs).weak fun σ H Q h => h
theorem FsOk.len {X : Cx} {g : G} {es : List Expr} {fs : List Str} {as : List Addr} (h : FsOk X g es fs as) : fs.length = as.length := by
  induction h with
  | nil => rfl
  | cons _ _ _ _ _ ih => exact congrArg Nat.succ ih
theorem FsOk.get {X : Cx} {g : G} {es : List Expr} {fs : List Str} {as : List Addr} (h : FsOk X g es fs as) : ∀ {k : Nat} {f : Str}, fs[k]? = some f → ∃ a n, (as.map V.ref)[k]? = some (.ref a) ∧ Hel X a (spOf X.K g f n) ∧ ∀ ts, g.fn f ts ≠ .bad → ts.length = n := by
  induction h with
  | nil => intro k f e; cases e
  | cons _ _ h1 h2 _ ih =>
    intro k f e
    cases k with
    | zero => cases e; exact ⟨_, _, rfl, h1, h2⟩
    | succ k => exact ih e
section
variable {X : Cx} {W : WX} {g : G} {ix e : Expr} {es nms : List Expr} {ds : List Den} {δ : Den} {fs : List Str} {as : List Addr} {pos lp sp : Pos}
theorem snd_tcall (hF : FsOk X g nms fs as) (hl : as.length ≤ 100) (hx : Snd X W ix δ) (hpi : PlainIx ix) (tk : Takes X W) (row : RowOk X W false (e :: es) ds)
    (ht : eval (.Call (.Subscript (.List nms lp) ix sp) (e :: es) [] pos) X.env = (do callWith pos (← eval (.Subscript (.List nms lp) ix sp) X.env) [] (backTo pos (starEach (e :: es) X.env)) (backToKw pos (keywordEach [] X.env))))
    (he : starEach (e :: es) X.env = (false, eval e X.env) :: starEach es X.env) (hpl : (backTo pos (starEach es X.env)).any (·.1) = false) (hpt : PlainT X (.Call (.Subscript (.List nms lp) ix sp) (e :: es) [] pos)) :
    Snd X W (.Call (.Subscript (.List nms lp) ix sp) (e :: es) [] pos) (dTcall g fs δ ds) := by
  have hv : PE X (.Call (.Subscript (.List nms lp) ix sp) (e :: es) [] pos) (tV X.K W false (dTcall g fs δ ds).v) := (pe_callT (S := fun a sp => Hel X a sp) (fun _ _ h => h) tk (pe_ix (pos := sp) ix_seq (pe_lst (pos := lp) hF.pa) (hx.o false) hpi) row.pa ht he hpl).weak fun σ H Q ⟨S, Hf, Φ, Fs, R, o⟩ => by
    have o : Out X.K W σ false Φ Hf H (if δ.p then (δ.o false S).bind fun d S1 => match d with
      | .int i => match atL fs i with
        | some f => (evAs ds S1).bind fun vs S2 => doCall g f vs S2
        | none => .bad
      | _ => .bad
      else .bad) (fun t _ Hf' H' Fs' => ∀ v F, Ow X.K Hf' H' v t F → Off F Φ H' Fs' → Q v H') := o
    cases hp : δ.p with
    | false => rw [hp] at o; exact o.elim
    | true =>
      rw [hp, if_pos rfl] at o
      refine ⟨by rw [List.length_map]; unfold sizeLine; omega, fun p hpn => ?_⟩
      have R1 := R.lay (o := .lst (as.map .ref)) hpn
      have o1 := o.base (Ψ := Φ) (Kp.lay (q := false) (o := .lst (as.map .ref)) R hpn) id fun _ z => z
      refine ⟨S, Hf, Φ, Fs, R1, (o1.bind (q := true) (q2 := false) (fun z => nomatch z) id).imp fun d S2 Hf2 H2 Fs2 _ R2 k2 o2 y pk => ?_⟩
      have hH : H2 p = some (.lst (as.map .ref)) := k2.pure rfl _ _ upd_same
      split at o2
      · rename_i i _
        split at o2
        · rename_i f hf
          unfold atL at hf
          obtain ⟨k, hk, hd⟩ := Option.bind_eq_some_iff.mp hf
          obtain ⟨a, n, ha, hel, hn⟩ := hF.get hd
          have hat : atI (as.map V.ref) i = some (.ref a) := by
            unfold atI
            rw [List.length_map, ← hF.len, show ixN fs.length i = some k from hk]
            exact ha
          refine .inl ⟨p, _, i, .ref a, rfl, pk_int pk, .inl (.inl hH), hat, a, _, rfl, hel, S2, Hf2, Φ, Fs2, R2, ?_⟩
          have o3 : Out X.K W σ false Φ Hf2 H2 (((evA false ds S2).bind fun r S3 => Tk.R.opt S3 (spreadA r)).bind fun vs S3 => doCall g f vs S3) (fun t _ Hf' H' Fs' => ∀ v F, Ow X.K Hf' H' v t F → Off F Φ H' Fs' → Q v H') := o2
          refine ((o3.bind (q := false) (q2 := false) id id).bind (q := allP ds) (q2 := false) (fun z => nomatch z) id).imp fun r S3 Hf3 H3 Fs3 _ R3 k3 o4 vs G row offG => ?_
          cases e2 : spreadA r with
          | none => rw [e2] at o4; exact o4.elim
          | some avs =>
            rw [e2] at o4
            exact call_out R3 (row_A row e2) offG hn (Out.ok (show Out X.K W σ false Φ Hf3 H3 (.ok avs S3) _ from o4) R3)
        · exact o2.elim
      · exact o2.elim
  exact snd_of hv (fun z => nomatch z) (pt_of hv hpt)
end
/-! ### stored one after the other -/
section
variable {X : Cx} {W : WX} {g : G} {br : List Nat} {a b : Expr} {ds : List Den} {pos : Pos}
theorem asgN_lay {is : List Nat} {D : Ends} {σ : L2.St} {H : Hp} (h : tSt X.K W br (fun S => (evMs true ds S).fl fun us S1 => setN br is us S1) D σ H) :
    tR X.K W (allP ds) (evA true ds) σ H fun vs H1 => vs.length = is.length ∧ ∀ p o, H1 p = none → D.nx (setσ σ is vs) (upd H1 p o) := by
  obtain ⟨S, Hf, Φ, Fs, R, o⟩ := h
  have o : FOut X.K W br σ Φ Hf H (((evA true ds S).bind fun r S1 => Tk.R.opt S1 (valsA r)).fl fun us S1 => setN br is us S1) D := o
  refine ⟨S, Hf, Φ, Fs, R, ((FOut.fl (p := allP ds) o).bind (q := allP ds) (q2 := allP ds) id id).imp fun r S1 Hf1 H1 Fs1 _ R1 k1 o1 vs F row off => ?_⟩
  cases ev : valsA r with
  | none => rw [ev] at o1; exact o1.elim
  | some us =>
    rw [ev] at o1
    have o1 := Out.ok (show Out X.K W σ (allP ds) Φ Hf1 H1 (.ok us S1) _ from o1) R1
    exact ⟨(setN_go R1 (row_vals row ev) off Sb.refl o1).1, fun p ob hp => (setN_go (R1.lay hp) ((row_vals row ev).stay (stay_lay hp)) (fun b z => ⟨(off b z).1, same_none (same_upd hp) (off b z).2.1, (off b z).2.2⟩) Sb.refl (o1.base (Kp.lay (q := false) R1 hp) Sb.refl)).2⟩
theorem st_asgU2 {i j : Nat} {x y : Str} {px py pt pt2 : Pos} {kt k2 : Nat} (hc : X.calm = true) (hN : X.N.Nodup) (hi : X.N[i]? = some x) (hj : X.N[j]? = some y) (hx : Loc X.env.scope x) (hfx : X.fn x = true ∨ X.env.scope.names.lookup x = some .local) (hy : Loc X.env.scope y) (hfy : X.fn y = true ∨ X.env.scope.names.lookup y = some .local)
    (row : RowOk X W true [a, b] ds) (hw : swappedStores [.Tuple [.Name x px, .Name y py] kt pt] (.Tuple [a, b] k2 pt2) X.env = pure none) (hs : swapsWithSole [.Tuple [.Name x px, .Name y py] kt pt] (.Tuple [a, b] k2 pt2) pos.line X.env = pure false) :
    StOk X W br (.Assign [.Tuple [.Name x px, .Name y py] kt pt] (.Tuple [a, b] k2 pt2) pos) fun S => (evMs true ds S).fl fun us S1 => setN br [i, j] us S1 :=
  ⟨(ps_asg (pe_tup row.pa) (pg_tup (n := 2) hc (pgs_cons (pg_name hN hi hx hfx) (pgs_cons (pg_name hN hj hy hfy) pgs_nil rfl) rfl) rfl rfl) hs hw).weak fun D σ H h => by
    have h2 := asgN_lay (is := [i, j]) h
    obtain ⟨S, Hf, Φ, Fs, R, o⟩ := h2
    refine ⟨S, Hf, Φ, Fs, R, o.imp fun r S1 Hf1 H1 Fs1 _ R1 k1 o1 vs F row off => ?_⟩
    obtain ⟨hl, q⟩ := o1 vs F row off
    match vs, hl, q with
    | [v, w], _, q => exact ⟨by show 2 ≤ sizeLine; decide, fun p hp => ⟨p, [v, w], rfl, .inl (.inl upd_same), rfl, v, [w], rfl, w, [], rfl, rfl, q p _ hp⟩⟩⟩
end
end Tk
end
section
set_option linter.all false
set_option maxRecDepth 100000
set_option maxHeartbeats 4000000
namespace Tk
open PySem PySem.Spec PyProof.Rows L2
section
variable {T : Tab} {X : Cx} {W : WX} {g : G} {N : List Str} {sc : Scope} {vi : List Nat} {gs ow : List Str} {n : Nat} {br : List Nat} {o a b e : Expr} {es nms : List Expr} {α β ε ρ : E} {εs : List E} {pos : Pos} {i j : Nat} {x y : Str}
theorem r_methV {c m : Str} {apos : Pos} {np : Nat} {pl : Sem Bool} (C : Cxt X W N sc vi gs ow n) (A : Al T X.prog X.w X.K X.mg X.base n g) (h : Snd X W o (den g ρ)) (k : Nat) (hk : T.mes[k]? = some (c, m, np)) (k2 : Nat) (hk2 : T.cls[k2]? = some c) (row : RowOk X W false (e :: es) (dens g εs))
    (hp : (den g ρ).k = .plain := by rfl)
    (ht : eval (.Call (.Attribute o m apos) (e :: es) [] pos) X.env = (do
      let ov ← eval o X.env
      standAt apos.atName
      let (f, first) ← holding [ov] (getMethod ov m pl)
      callWith pos f first (backTo pos (starEach (e :: es) X.env)) (backToKw pos (keywordEach [] X.env))) := by rfl)
    (hst : starEach (e :: es) X.env = (false, eval e X.env) :: starEach es X.env := by rfl) (hpl : (backTo pos (starEach es X.env)).any (·.1) = false := by rfl) :
    Snd X W (.Call (.Attribute o m apos) (e :: es) [] pos) (den g (.meth c m ρ εs)) := by
  obtain ⟨⟨f, fd, ps, F, hm, hb⟩, hn⟩ := A.me k c m np hk
  exact snd_methV h hp (A.st.cl k2 c hk2) hm F C.room' hb hn C.tk row hst hpl (fun _ => rfl) ht
def FsE (X : Cx) (g : G) (nms : List Expr) (fs : List Str) : Prop := ∃ as, FsOk X g nms fs as
theorem f_nil : FsE X g [] [] := ⟨[], .nil⟩
theorem f_cons {fs : List Str} {p0 : Pos} {np : Nat} (C : Cxt X W N sc vi gs ow n) (A : Al T X.prog X.w X.K X.mg X.base n g) (G1 : Gl X x ∧ (x == ("__debug__" : Str)) = false) (k : Nat) (hk : T.fns[k]? = some (x, np)) (r : FsE X g nms fs)
    (hst : starEach (.Name x p0 :: nms) X.env = (false, eval (.Name x p0) X.env) :: starEach nms X.env := by rfl) : FsE X g (.Name x p0 :: nms) (x :: fs) := by
  obtain ⟨⟨f, fd, ps, F, hm, hkp, hb⟩, hn⟩ := A.fn k x np hk
  obtain ⟨as, r⟩ := r
  exact ⟨f :: as, .cons (pe_glob G1.1 hm rfl G1.2) hst ⟨_, fd, ps, F, C.room', hkp, hb⟩ hn r⟩
theorem r_tcall {fs : List Str} {lp sp : Pos} (C : Cxt X W N sc vi gs ow n) (hF : FsE X g nms fs) (hl : fs.length ≤ 100) (hx : Snd X W a (den g α)) (row : RowOk X W false (e :: es) (dens g εs)) (hpi : PlainIx a := by exact fun _ _ => rfl)
    (ht : eval (.Call (.Subscript (.List nms lp) a sp) (e :: es) [] pos) X.env = (do callWith pos (← eval (.Subscript (.List nms lp) a sp) X.env) [] (backTo pos (starEach (e :: es) X.env)) (backToKw pos (keywordEach [] X.env))) := by rfl)
    (hst : starEach (e :: es) X.env = (false, eval e X.env) :: starEach es X.env := by rfl) (hpl : (backTo pos (starEach es X.env)).any (·.1) = false := by rfl) :
    Snd X W (.Call (.Subscript (.List nms lp) a sp) (e :: es) [] pos) (den g (.tcall fs α εs)) := by
  obtain ⟨as, hF⟩ := hF
  exact snd_tcall hF (by rw [← hF.len]; exact hl) hx hpi C.tk row ht hst hpl fun _ => rfl
theorem r_revL {k : Nat} {p1 p2 p3 : Pos} (ha : Snd X W a (den g α)) : Snd X W (.Subscript a (.Slice none none (some (.UnaryOp .USub (.Constant (.int 1) k p1) p2)) p3) pos) (den g (.prim .lrev [α])) :=
  have hv := (pe_revL (k := k) (p1 := p1) (p2 := p2) (p3 := p3) (pos := pos) (ha.q (allP [den g α]) P.lrev.keeps)).weak fun σ H Q h => by
    obtain ⟨S, Hf, Φ, Fs, R, o⟩ := one_prim (g := g) (p := .lrev) h
    refine ⟨S, Hf, Φ, Fs, R, o.imp fun d S1 Hf1 H1 Fs1 _ R1 k1 o1 v pk => ?_⟩
    obtain ⟨Hf2, a, d2, e2, p2, sm, q⟩ := (o1 v pk).one
    have sm : sLrev [a] = some d2 := sm
    unfold sLrev at sm
    split at sm <;> cases sm
    rename_i ds he
    cases he
    obtain ⟨ad, vs, rfl, gt, r⟩ := pk_lstT e2 p2
    exact ⟨ad, vs, rfl, .inl (.inl gt), fun p hp => q _ _ _ _ (New.lst e2 hp (fzs_rev r))⟩
  snd_of hv (nv_one ha) (pt_of hv fun _ => rfl)
theorem swsM2 {px py pt pt2 : Pos} {kt k2 : Nat} {env : Env} (hx : env.scope.names.lookup x = some .local) (hy : env.scope.names.lookup y = some .cell) : swappedStores [.Tuple [.Name x px, .Name y py] kt pt] (.Tuple [a, b] k2 pt2) env = pure none := by
  have kx : env.kindOf x = some .local := hx
  have ky : env.kindOf y = some .cell := hy
  have kc : ((some NameKind.cell : Option NameKind) == some NameKind.local) = false := by decide
  have kl : ((some NameKind.local : Option NameKind) == some NameKind.local) = true := by decide
  unfold swappedStores
  simp only [List.length_cons, List.length_nil, List.filterMap_cons, List.filterMap_nil, kx, ky, kc, kl, beq_self_eq_true, Bool.and_self, if_true, List.head?_cons, Option.map_some, Option.getD_some, Expr.pos, Bool.false_and, Bool.false_eq_true, if_false]
  split
  · rfl
  · split
    · rfl
    · rfl
theorem swsN2 {px py pt pt2 : Pos} {kt k2 : Nat} {env : Env} (hx : env.scope.names.lookup x = some .cell) (hy : env.scope.names.lookup y = some .local) : swappedStores [.Tuple [.Name x px, .Name y py] kt pt] (.Tuple [a, b] k2 pt2) env = pure none := by
  have kx : env.kindOf x = some .cell := hx
  have ky : env.kindOf y = some .local := hy
  have kc : ((some NameKind.cell : Option NameKind) == some NameKind.local) = false := by decide
  have kl : ((some NameKind.local : Option NameKind) == some NameKind.local) = true := by decide
  rcases Bool.eq_false_or_eq_true (py.line == px.line) with hp | hp
  · unfold swappedStores
    simp only [List.length_cons, List.length_nil, List.filterMap_cons, List.filterMap_nil, kx, ky, kc, kl, beq_self_eq_true, Bool.and_self, if_true, hp, Bool.true_and, Bool.and_true, Bool.and_false, List.head?_cons, Option.map_some, Option.getD_some, Expr.pos, Bool.false_and, Bool.false_eq_true, if_false]
    split
    · rfl
    · split
      · rfl
      · rfl
  · unfold swappedStores
    simp only [List.length_cons, List.length_nil, List.filterMap_cons, List.filterMap_nil, kx, ky, kc, kl, beq_self_eq_true, Bool.and_self, if_true, hp, Bool.true_and, Bool.and_true, Bool.and_false, List.head?_cons, Option.map_some, Option.getD_some, Expr.pos, Bool.false_and, Bool.false_eq_true, if_false]
    split
    · rfl
    · split
      · rfl
      · rfl
theorem s_asgU2 {px py pt pt2 : Pos} {kt k2 : Nat} {εs : List E} (C : Cxt X W N sc vi gs ow n) (hi : N[i]? = some x) (hj : N[j]? = some y) (kx : Nat) (hkx : ow[kx]? = some x) (ky : Nat) (hky : ow[ky]? = some y) (row : RowOk X W true [a, b] (dens g εs)) (hw : swappedStores [.Tuple [.Name x px, .Name y py] kt pt] (.Tuple [a, b] k2 pt2) X.env = pure none) :
    StOk X W br (.Assign [.Tuple [.Name x px, .Name y py] kt pt] (.Tuple [a, b] k2 pt2) pos) (dS g br (.asgN [i, j] εs)) := by
  have e1 := C.hN
  have e2 := C.hsc
  subst e1 e2
  have qx := C.fn x (List.mem_of_getElem? hkx)
  have qy := C.fn y (List.mem_of_getElem? hky)
  exact st_asgU2 C.calm C.nd hi hj qx.1 qx.2 qy.1 qy.2 row hw rfl
end
end Tk
end
section
set_option linter.all false
set_option maxRecDepth 100000
set_option maxHeartbeats 4000000
namespace Tk
open PySem PySem.Spec PyProof.Rows L2 L2H
theorem swsA2 {o1 o2 a b : Expr} {f1 f2 : Str} {p1 p2 pt pt2 : Pos} {kt k2 : Nat} {env : Env} : swappedStores [.Tuple [.Attribute o1 f1 p1, .Attribute o2 f2 p2] kt pt] (.Tuple [a, b] k2 pt2) env = pure none := by
  unfold swappedStores
  simp only [List.length_cons, List.length_nil, List.filterMap_cons, List.filterMap_nil]
  split
  · rfl
  · split
    · rfl
    · rfl
/-- one test of the judging def -/
theorem pe_flag1 {Y : Cx} {a : Addr} {oe : Obj} {k0 c x : Str} {b : Bool} {i : Nat} {p1 p2 p3 pos : Pos} {N : List Str} {sc : Scope} (hN : Y.N = N) (hsc : Y.env.scope = sc) (hi : N[i]? = some x) (hv : visB sc x = true) (C : ExcC Y.K (He.ga Y.K k0)) (hz : Zc (.ref (He.ga Y.K k0)) none oe) (hf : ∃ vs, oe.data = .fields vs) (hp : (a, oe) ∈ Y.pn)
    (hk : PySem.W.kitOne Y.K (.ref (He.ga Y.K k0)) (.ref (He.ga Y.K c)) = some b) (hgi : glB sc "isinstance" = true) (hmi : Y.mg "isinstance" = none) (hgc : glB sc c = true) (hmc : Y.mg c = some (.ref (He.ga Y.K c))) : PE Y (.Call (.Name "isinstance" p1) [.Name x p2, .Name c p3] [] pos) (tFlag a i b) := by
  have gl : ∀ {x}, glB sc x = true → Gl Y x ∧ (x == ("__debug__" : Str)) = false := fun {x} q => by
    unfold glB at q
    obtain ⟨q1, q2⟩ := Bool.and_eq_true_iff.mp q
    refine ⟨?_, by simpa using q2⟩
    show Y.env.scope.names.lookup x = _
    rw [hsc]
    split at q1
    · rename_i e; exact e
    · cases q1
  unfold visB at hv
  obtain ⟨q1, q2⟩ := Bool.and_eq_true_iff.mp hv
  obtain ⟨q2, q3⟩ := Bool.and_eq_true_iff.mp q2
  have hvis : Vis Y.env.scope x := by
    rw [hsc]
    split at q1
    · rename_i e; exact .inl e
    · rename_i e; exact .inr (.inl e)
    · rename_i e; exact .inr (.inr e)
    · cases q1
  exact (pe_callB (call_isP C hz hf hp) (gl hgi).1 hmi boot_isinstance (pa_cons (pe_var (by rw [hN]; exact hi) hvis (by simpa using q2) (by simpa using q3)) (pa_cons (pe_glob (v := .ref (He.ga Y.K c)) (gl hgc).1 hmc rfl (gl hgc).2) pa_nil rfl) rfl) (by decide) (by decide) rfl rfl).weak fun σ H Q h =>
    ⟨.ref a, h.1, ⟨.ref (He.ga Y.K c), .ref (He.ga Y.K c), b, rfl, fun u r => r, hk, h.2⟩⟩
theorem pss_flags {Y : Cx} {a : Addr} {es : List Expr} {bs : List Bool} {pos pos2 : Pos} (h : Flags Y a 0 es bs) (hl : bs.length ≤ 100) : PSs Y [.Return (some (.List es pos)) pos2] fun D σ H => σ[0]? = some (some (.ref a)) ∧ ∀ p, H p = none → D.rt (.ref p) (upd H p (.lst (bs.map V.bl))) :=
  pss_one ((ps_ret (pe_lst (pa_flags h))).weak fun D σ H q => ⟨q.1, by rw [List.length_map]; have : sizeLine = 16777216 := sizeLine_eq; omega, q.2⟩)
/-! ### a def of the text -/
structure Pkg (T : Tab) (K : PySem.W.Frag) (dd : He.DefD) (ps N : List Str) (d : Def) (vi : List Nat) (gs ow : List Str) : Prop where
  fn : ∃ fd, FunD K dd.name dd.qual dd.params dd.body dd.scope [] [] (He.fAd K dd.at_) fd ∧ Binds K fd ps []
  sc : FnScope N ps dd.scope
  np : d.np = ps.length
  ns : d.ns = N.length
  le : d.np ≤ d.ns
  vis : (vi.all fun i => match N[i]? with | some x => visB dd.scope x | none => false) = true
  gls : gs.all (glB dd.scope) = true
  loc : ow.all (locB dd.scope) = true
  body : ∀ {X : Cx} {W : WX} {n : Nat} {g : G}, Cxt X W N dd.scope vi gs ow n → Al T X.prog X.w X.K X.mg X.base n g → PassesOwn (model X.prog X.w) X.A X.env X.xe → X.stack = X.env :: X.outer ∧ X.env.frame = some X.env.locals → StsOk X W d.br dd.body (dS g d.br d.body)
theorem gl_fn {tab : List (Str × Def)} {sup : Str → List Str} {w9 m : Nat} {key : Str} {d : Def} (h : lookT key tab = some d) (ts : List OT) : (gl tab sup w9 (m + 1)).fn key ts = runD (gl tab sup w9 m) d ts := by
  show (match lookT key tab with | some d => runD (gl tab sup w9 m) d ts | none => .bad) = _
  rw [h]
theorem runD_len {g : G} {d : Def} {ts : List OT} (h : runD g d ts ≠ .bad) : ts.length = d.np := by
  unfold runD at h
  by_cases e : ts.length = d.np
  · exact e
  · rw [if_neg e] at h
    exact absurd rfl h
section
variable {T : Tab} {P : Program} {w : World} {K : PySem.W.Frag} {mg : Str → Option Value} {base : Heap} {dd : He.DefD} {ps N : List Str} {d : Def} {vi : List Nat} {gs ow : List Str} {tab : List (Str × Def)} {sup : Str → List Str} {w9 m n : Nat} {key : Str}
theorem Pkg.step (p : Pkg T K dd ps N d vi gs ow) (h : lookT key tab = some d) (A : Al T P w K mg base n (gl tab sup w9 m)) : (∃ fd, FnOk P w K mg base (L2.CX P w) (n + 2) (He.fAd K dd.at_) fd ps (spOf K (gl tab sup w9 (m + 1)) key ps.length) ∧ PySem.W.keepIn K (.ref (He.fAd K dd.at_)) = true ∧ Binds K fd ps []) ∧ ∀ ts, (gl tab sup w9 (m + 1)).fn key ts ≠ .bad → ts.length = ps.length := by
  obtain ⟨fd, F, hb⟩ := p.fn
  refine ⟨⟨fd, ?_, F.kp, hb⟩, fun ts ht => by rw [gl_fn h] at ht; rw [runD_len ht, p.np]⟩
  refine fn_ok (k := n + 1) F p.sc (gl_fn h) p.np p.ns p.le fun cdv A0 outer s H E hr => p.body ⟨rfl, rfl, p.sc.nd, ?_, hr, rfl, p.vis, p.gls, fun x hx => ⟨?_, .inl rfl⟩⟩ A ?_ ⟨rfl, rfl⟩
  · exact takes_of rfl rfl rfl rfl
  · have q := List.all_eq_true.mp p.loc x hx
    unfold locB at q
    show Loc dd.scope x
    split at q
    · rename_i e; exact .inl e
    · rename_i e; exact .inr e
    · cases q
  · exact passes_of rfl
theorem Pkg.zero (p : Pkg T K dd ps N d vi gs ow) : (∃ fd, FnOk P w K mg base (L2.CX P w) n (He.fAd K dd.at_) fd ps (spOf K (gl tab sup w9 0) key ps.length) ∧ PySem.W.keepIn K (.ref (He.fAd K dd.at_)) = true ∧ Binds K fd ps []) ∧ ∀ ts, (gl tab sup w9 0).fn key ts ≠ .bad → ts.length = ps.length := by
  obtain ⟨fd, F, hb⟩ := p.fn
  exact ⟨⟨fd, ⟨fun vs H Q E h => h.1, fun A outer s H args us vs Q E _ _ _ _ ⟨_, _, _, _, _, _, h⟩ => h.elim⟩, F.kp, hb⟩, fun ts ht => absurd rfl ht⟩
end
end Tk
end
section
set_option linter.all false
set_option maxRecDepth 100000
set_option maxHeartbeats 4000000
/-! What the head must tell; the promises of all defs, by the depth. -/
namespace Tk
open PySem PySem.Spec PyProof.Rows L2
def supOf : List (Str × List Str) → Str → List Str
  | [], _ => []
  | (k, v) :: r, x => if k = x then v else supOf r x
theorem supOf_mem : ∀ {l : List (Str × List Str)} {x : Str}, (supOf l x).isEmpty = false → (x, supOf l x) ∈ l
  | [], x, h => by cases h
  | (k, v) :: r, x, h => by
    by_cases e : k = x
    · have e1 : supOf ((k, v) :: r) x = v := if_pos e
      rw [e1, ← e]
      exact List.mem_cons_self
    · have e1 : supOf ((k, v) :: r) x = supOf r x := if_neg e
      rw [e1] at h ⊢
      exact List.mem_cons_of_mem _ (supOf_mem h)
def excB (K : PySem.W.Frag) (D : Addr) : Bool :=
  He.eqO (PySem.W.findIn K (.ref D) "__getattribute__") (some (some (.builtin "BaseException.__getattribute__"))) && (He.eqO (PySem.W.findIn K (.ref D) "__getattr__") (some none) && (decide (PySem.W.subIn K (.ref D) (.type "BaseException") = some true) && (PySem.W.hasDictIn K D &&
    (He.eqO (PySem.W.findIn K (.ref D) "__class__") (some (some (.builtin "object.__class__"))) && (He.eqO (PySem.W.specialIn K (.builtin "object.__class__") "__get__") (some (some (.builtin "getset_descriptor.__get__"))) && (decide (PySem.W.takesIn K (.builtin "object.__class__") = some true) && decide (PySem.W.mroIn K D (.type "object") = some true)))))))
theorem excB_ok {K : PySem.W.Frag} {D : Addr} (h : excB K D = true) : ExcC K D := by
  obtain ⟨h1, h⟩ := He.ba h
  obtain ⟨h2, h⟩ := He.ba h
  obtain ⟨h3, h⟩ := He.ba h
  obtain ⟨h4, h⟩ := He.ba h
  obtain ⟨h5, h⟩ := He.ba h
  obtain ⟨h6, h⟩ := He.ba h
  obtain ⟨h7, h8⟩ := He.ba h
  exact ⟨He.eqO_ok h1, He.eqO_ok h2, of_decide_eq_true h3, h4, He.eqO_ok h5, He.eqO_ok h6, of_decide_eq_true h7, of_decide_eq_true h8⟩
def exsB (T : Tab) (sl : List (Str × List Str)) (K : PySem.W.Frag) : Bool := sl.all fun q => excB K (He.ga K q.1) && T.ecs.all fun c => decide (PySem.W.kitOne K (.ref (He.ga K q.1)) (.ref (He.ga K c)) = some (q.2.contains c)) && decide (PySem.W.exmOne K (.ref (He.ga K q.1)) (.ref (He.ga K c)) = some (q.2.contains c))
def factB (T : Tab) (sl : List (Str × List Str)) (K : PySem.W.Frag) : Bool :=
  (T.bns.all fun x => (He.Fa.free x).ok K) && ((T.cis.all fun p => (He.Fa.int p.1 p.2).ok K) && ((T.xcs.all fun c => (He.Fa.glo c).ok K && (He.Fa.exc c).ok K) && ((T.cls.all fun c => (He.Fa.cls c).ok K) && ((T.nas.all fun p => (He.Fa.noat p.1 p.2).ok K) &&
    ((T.fns.all fun p => (He.Fa.glo p.1).ok K) && ((T.mes.all fun p => (He.Fa.meth p.1 p.2.1).ok K) && ((T.nes.all fun p => (He.Fa.mkr p.1).ok K && (He.Fa.glo p.1).ok K) && ((He.Fa.glo T.flf).ok K && ((T.ecs.all fun c => (He.Fa.glo c).ok K) && exsB T sl K)))))))))
structure Facts (T : Tab) (sl : List (Str × List Str)) (K : PySem.W.Frag) : Prop where
  bn : ∀ x, x ∈ T.bns → (He.Fa.free x).ok K = true
  ci : ∀ p, p ∈ T.cis → (He.Fa.int p.1 p.2).ok K = true
  xc : ∀ c, c ∈ T.xcs → (He.Fa.glo c).ok K = true ∧ (He.Fa.exc c).ok K = true
  cl : ∀ c, c ∈ T.cls → (He.Fa.cls c).ok K = true
  na : ∀ p, p ∈ T.nas → (He.Fa.noat p.1 p.2).ok K = true
  fn : ∀ p, p ∈ T.fns → (He.Fa.glo p.1).ok K = true
  me : ∀ p, p ∈ T.mes → (He.Fa.meth p.1 p.2.1).ok K = true
  ne : ∀ p, p ∈ T.nes → (He.Fa.mkr p.1).ok K = true ∧ (He.Fa.glo p.1).ok K = true
  fl : (He.Fa.glo T.flf).ok K = true
  ec : ∀ c, c ∈ T.ecs → (He.Fa.glo c).ok K = true
  ex : exsB T sl K = true
theorem facts_of {T : Tab} {sl : List (Str × List Str)} {K : PySem.W.Frag} (h : factB T sl K = true) : Facts T sl K := by
  obtain ⟨h1, h⟩ := He.ba h
  obtain ⟨h2, h⟩ := He.ba h
  obtain ⟨h3, h⟩ := He.ba h
  obtain ⟨h4, h⟩ := He.ba h
  obtain ⟨h5, h⟩ := He.ba h
  obtain ⟨h6, h⟩ := He.ba h
  obtain ⟨h7, h⟩ := He.ba h
  obtain ⟨h8, h⟩ := He.ba h
  obtain ⟨h9, h⟩ := He.ba h
  obtain ⟨h10, h11⟩ := He.ba h
  exact ⟨List.all_eq_true.mp h1, List.all_eq_true.mp h2, fun c hc => He.ba (List.all_eq_true.mp h3 c hc), List.all_eq_true.mp h4, List.all_eq_true.mp h5, List.all_eq_true.mp h6, List.all_eq_true.mp h7, fun c hc => He.ba (List.all_eq_true.mp h8 c hc), h9, List.all_eq_true.mp h10, h11⟩
section
variable {T : Tab} {sl : List (Str × List Str)} {K : PySem.W.Frag}
theorem exF_of (h : exsB T sl K = true) : ExF K (supOf sl) T.ecs := by
  have key : ∀ k, (supOf sl k).isEmpty = false → excB K (He.ga K k) = true ∧ ∀ c, c ∈ T.ecs → PySem.W.kitOne K (.ref (He.ga K k)) (.ref (He.ga K c)) = some ((supOf sl k).contains c) ∧ PySem.W.exmOne K (.ref (He.ga K k)) (.ref (He.ga K c)) = some ((supOf sl k).contains c) := fun k hk => by
    obtain ⟨q1, q2⟩ := He.ba (List.all_eq_true.mp h _ (supOf_mem hk))
    exact ⟨q1, fun c hc => let z := He.ba (List.all_eq_true.mp q2 c hc); ⟨of_decide_eq_true z.1, of_decide_eq_true z.2⟩⟩
  exact ⟨fun k hk => excB_ok (key k hk).1, fun k hk c hc => ((key k hk).2 c hc).1, fun k hk c hc => ((key k hk).2 c hc).2⟩
theorem sta_of {h : Heap} {mg : Str → Option Value} {P : Program} {w : World} {base : Heap} (KX : K.In h) (G : h.Ns mainGlobals mg) (F : Facts T sl K) (fl : FlagDef P w K mg base (supOf sl) T.flf T.fls) : Sta T P w K mg base (supOf sl) where
  bn := fun i x e => He.free_ok KX G (F.bn x (List.mem_of_getElem? e))
  ci := fun i x k e => He.int_ok KX G (F.ci (x, k) (List.mem_of_getElem? e))
  xc := fun i c e => by
    obtain ⟨q1, q2⟩ := F.xc c (List.mem_of_getElem? e)
    obtain ⟨z1, z2, z3, z4⟩ := He.exc_ok q2
    exact ⟨He.glo_ok KX G q1, z1, z2, z3, z4⟩
  cl := fun i c e => He.cls_ok (F.cl c (List.mem_of_getElem? e))
  na := fun i c f e => He.noat_ok (F.na (c, f) (List.mem_of_getElem? e))
  ex := exF_of F.ex
  fl := fl
end
/-! ### all defs -/
section
variable {T : Tab} {P : Program} {w : World} {K : PySem.W.Frag} {mg : Str → Option Value} {base : Heap} {tab : List (Str × Def)} {sl : List (Str × List Str)} {w9 : Nat}
def HasD (T : Tab) (K : PySem.W.Frag) (tab : List (Str × Def)) (key : Str) (at_ : Str × Option Str) (np : Nat) : Prop := ∃ (dd : He.DefD) (ps N : List Str) (d : Def) (vi : List Nat) (gs ow : List Str), Pkg T K dd ps N d vi gs ow ∧ lookT key tab = some d ∧ dd.at_ = at_ ∧ ps.length = np
structure Defs (T : Tab) (K : PySem.W.Frag) (tab : List (Str × Def)) : Prop where
  fn : ∀ p, p ∈ T.fns → HasD T K tab p.1 (p.1, none) p.2
  me : ∀ p, p ∈ T.mes → HasD T K tab (methName p.1 p.2.1) (p.1, some p.2.1) p.2.2
  ne : ∀ p, p ∈ T.nes → HasD T K tab (methName p.1 initName) (p.1, some "__init__") p.2
theorem gl_sup {sup : Str → List Str} : ∀ m, (gl tab sup w9 m).sup = sup
  | 0 => rfl
  | _ + 1 => rfl
theorem hasD_zero {key : Str} {at_ : Str × Option Str} {np n : Nat} (h : HasD T K tab key at_ np) : (∃ fd ps, FnOk P w K mg base (L2.CX P w) n (He.fAd K at_) fd ps (spOf K (gl tab (supOf sl) w9 0) key np) ∧ PySem.W.keepIn K (.ref (He.fAd K at_)) = true ∧ Binds K fd ps []) ∧ ∀ ts, (gl tab (supOf sl) w9 0).fn key ts ≠ .bad → ts.length = np := by
  obtain ⟨dd, ps, N, d, vi, gs, ow, p, _, rfl, rfl⟩ := h
  obtain ⟨⟨fd, z1, z2, z3⟩, z4⟩ := p.zero (P := P) (w := w) (mg := mg) (base := base) (n := n) (tab := tab) (sup := supOf sl) (w9 := w9) (key := key)
  exact ⟨⟨fd, ps, z1, z2, z3⟩, z4⟩
theorem hasD_step {key : Str} {at_ : Str × Option Str} {np n m : Nat} (h : HasD T K tab key at_ np) (A : Al T P w K mg base n (gl tab (supOf sl) w9 m)) : (∃ fd ps, FnOk P w K mg base (L2.CX P w) (n + 2) (He.fAd K at_) fd ps (spOf K (gl tab (supOf sl) w9 (m + 1)) key np) ∧ PySem.W.keepIn K (.ref (He.fAd K at_)) = true ∧ Binds K fd ps []) ∧
    ∀ ts, (gl tab (supOf sl) w9 (m + 1)).fn key ts ≠ .bad → ts.length = np := by
  obtain ⟨dd, ps, N, d, vi, gs, ow, p, e, rfl, rfl⟩ := h
  obtain ⟨⟨fd, z1, z2, z3⟩, z4⟩ := p.step e A
  exact ⟨⟨fd, ps, z1, z2, z3⟩, z4⟩
theorem al_of {h : Heap} {n : Nat} {g : G} (KX : K.In h) (Gn : h.Ns mainGlobals mg) (F : Facts T sl K) (st : Sta T P w K mg base g.sup)
    (H : ∀ key at_ np, HasD T K tab key at_ np → (∃ fd ps, FnOk P w K mg base (L2.CX P w) n (He.fAd K at_) fd ps (spOf K g key np) ∧ PySem.W.keepIn K (.ref (He.fAd K at_)) = true ∧ Binds K fd ps []) ∧ ∀ ts, g.fn key ts ≠ .bad → ts.length = np) (D : Defs T K tab) : Al T P w K mg base n g where
  st := st
  fn := fun i x np e => by
    have q := List.mem_of_getElem? e
    obtain ⟨⟨fd, ps, z1, z2, z3⟩, z4⟩ := H _ _ _ (D.fn _ q)
    exact ⟨⟨_, fd, ps, z1, He.glo_ok KX Gn (F.fn _ q), z2, z3⟩, z4⟩
  me := fun i c m np e => by
    have q := List.mem_of_getElem? e
    obtain ⟨⟨fd, ps, z1, z2, z3⟩, z4⟩ := H _ _ _ (D.me _ q)
    exact ⟨⟨_, fd, ps, z1, He.meth_ok (F.me _ q), z3⟩, z4⟩
  ne := fun i c np e => by
    have q := List.mem_of_getElem? e
    obtain ⟨⟨fd, ps, z1, z2, z3⟩, z4⟩ := H _ _ _ (D.ne _ q)
    exact ⟨⟨_, fd, ps, z1, He.mkr_ok (F.ne _ q).1, z3⟩, z4, He.glo_ok KX Gn (F.ne _ q).2⟩
theorem al_all {h : Heap} (KX : K.In h) (Gn : h.Ns mainGlobals mg) (F : Facts T sl K) (st : Sta T P w K mg base (supOf sl)) (D : Defs T K tab) : ∀ m, Al T P w K mg base (2 * m) (gl tab (supOf sl) w9 m)
  | 0 => al_of KX Gn F (by rw [gl_sup]; exact st) (fun key at_ np h => hasD_zero h) D
  | m + 1 => al_of KX Gn F (by rw [gl_sup]; exact st) (fun key at_ np h => hasD_step h (al_all KX Gn F st D m)) D
theorem Pkg.stepF {dd : He.DefD} {ps N : List Str} {d : Def} {vi : List Nat} {gs ow : List Str} {sup : Str → List Str} {m n : Nat} {key : Str} {fd : FuncData} (p : Pkg T K dd ps N d vi gs ow) (F : FunD K dd.name dd.qual dd.params dd.body dd.scope [] [] (He.fAd K dd.at_) fd) (h : lookT key tab = some d) (A : Al T P w K mg base n (gl tab sup w9 m)) :
    FnOk P w K mg base (L2.CX P w) (n + 2) (He.fAd K dd.at_) fd ps (spOf K (gl tab sup w9 (m + 1)) key ps.length) := by
  refine fn_ok (k := n + 1) F p.sc (gl_fn h) p.np p.ns p.le fun cdv A0 outer s H E hr => p.body ⟨rfl, rfl, p.sc.nd, ?_, hr, rfl, p.vis, p.gls, fun x hx => ⟨?_, .inl rfl⟩⟩ A ?_ ⟨rfl, rfl⟩
  · exact takes_of rfl rfl rfl rfl
  · have q := List.all_eq_true.mp p.loc x hx
    unfold locB at q
    show Loc dd.scope x
    split at q
    · rename_i e; exact .inl e
    · rename_i e; exact .inr e
    · cases q
  · exact passes_of rfl
theorem law_sp {g : G} {is : List Int} {ps : List (Option OT)} {a : Addr} {H : Hp} (sq : SqL K H a (is.map V.int)) (e : g.fn "law" [.leaf (.scr is)] = .ok (.leaf (.bl true)) ps) (E : XK) : spOf K g "law" 1 [.ref a] H (fun v _ => v = .bl true) E := by
  refine ⟨rfl, H, fun _ => False, [.leaf (.scr is)], fun _ => False, ⟨Same.refl _, .cons (F := fun _ => False) (G := fun _ => False) (.leaf (.scr sq)) .nil (fun _ z => z) (fun _ z => z) fun _ _ z => z, fun _ z => z.elim, fun _ z => z.elim⟩, ?_⟩
  rw [e]
  intro v Hf' H' F B _ ow _
  cases ow with
  | leaf h => cases h; rfl
end
/-- what a callee lets out, the program and the world aside -/
def CXw : CXT := fun _ _ _ E _ _ => ∃ cls d H', E cls d H'
theorem fn_cxw {P : Program} {w : World} {K : PySem.W.Frag} {mg : Str → Option Value} {base : Heap} {k : Nat} {f : Addr} {fd : FuncData} {ps : List Str} {sp : L2.Sp} (F : FnOk P w K mg base (L2.CX P w) k f fd ps sp) : FnOk P w K mg base CXw k f fd ps sp :=
  ⟨F.len, fun A outer s H args us vs Q E hr he hb hv hs => codeAny_mono (F.run A outer s H args us vs Q E hr he hb hv hs) fun r s' h => by
    cases r with
    | ok fl => cases fl <;> exact h
    | error e =>
      obtain ⟨_, _, H', cls, d, _, _, _, _, _, _, _, z⟩ := h
      exact ⟨cls, d, H', z⟩⟩
/-! ### the hook -/
def obsX (T : Tab) (sl : List (Str × List Str)) (fn : List He.DefD) (K : PySem.W.Frag) : He.AlD := (factB T sl K && fn.all fun d => d.ok K, fn.map fun d => He.fnW K d.at_)
def SaysX (T : Tab) (sl : List (Str × List Str)) (fn : List He.DefD) (K : PySem.W.Frag) : Prop := obsX T sl fn K = He.valD fn
def obsXG (T : Tab) (sl : List (Str × List Str)) (n : Nat) (fn : List He.DefD) (g : Addr → Option Obj) : He.AlD := obsX T sl fn (He.frG g (He.asD g n))
def hookX (T : Tab) (sl : List (Str × List Str)) (n : Nat) (fn : List He.DefD) : PySem.W.Hook where
  α := He.AlD
  obs := fun s => obsXG T sl n fn s.heap.get?
  val := fun _ => He.valD fn
  says := fun _ h => ∃ K : PySem.W.Frag, K.In h ∧ SaysX T sl fn K
  of := fun _ _ e => ⟨_, He.frG_in, e⟩
  keeps := fun _ _ _ ⟨K, KX, c⟩ k => ⟨K, PySem.W.Frag.In.keeps KX k, c⟩
theorem obsXG_eq {T : Tab} {sl : List (Str × List Str)} {n : Nat} {fn : List He.DefD} {g : Addr → Option Obj} {s : Shared} (h : ∀ a, g a = s.heap.get? a) : obsXG T sl n fn g = (hookX T sl n fn).obs s := by
  rw [show g = s.heap.get? from funext h]
  rfl
section
variable {T : Tab} {sl : List (Str × List Str)} {fn : List He.DefD} {K : PySem.W.Frag}
theorem SaysX.facts (c : SaysX T sl fn K) : Facts T sl K := facts_of (He.ba (show (factB T sl K && fn.all fun d => d.ok K) = true from congrArg Prod.fst c)).1
theorem SaysX.fund (c : SaysX T sl fn K) (i : Nat) {d : He.DefD} (h : fn[i]? = some d) : ∃ fd, FunD K d.name d.qual d.params d.body d.scope (d.dvs K) (d.kws K) (He.fAd K d.at_) fd := by
  have q := (He.ba (show (factB T sl K && fn.all fun d => d.ok K) = true from congrArg Prod.fst c)).2
  have e : (fn.map fun d => He.fnW K d.at_)[i]? = (fn.map He.DefD.val)[i]? := by rw [show fn.map (fun d => He.fnW K d.at_) = fn.map He.DefD.val from congrArg Prod.snd c]
  rw [List.getElem?_map, List.getElem?_map, h] at e
  exact He.DefD.funD (Option.some.inj e) (List.all_eq_true.mp q d (List.mem_of_getElem? h))
end
end Tk
end
section
set_option linter.all false
set_option maxRecDepth 100000
set_option maxHeartbeats 0
namespace K02
open PySem PySem.Spec PyProof.Rows L2 Tk
def top (i : Nat) : Stmt := PySem.Challenge.pw_tokenward_k02_whole_turned_nets_and_neig.main.body.getD i (.Pass ⟨0, 0, 0, 0⟩)
def mem (i j : Nat) : Stmt := match top i with
  | .ClassDef _ _ _ b _ _ _ _ _ _ _ => b.getD j (.Pass ⟨0, 0, 0, 0⟩)
  | _ => .Pass ⟨0, 0, 0, 0⟩
def tb : Tab := { fns := ("is_integer", 1) :: ("is_name", 1) :: ("are_ascending", 1) :: ("is_within", 3) :: ("are_names", 1) :: ("is_arc", 3) :: ("is_net", 1) :: ("check_net", 1) :: ("is_marking_by", 2) :: ("is_marking", 2) :: ("check_marked", 2) :: ("check_step", 2) :: ("check_known", 2) :: ("_law_take", 2) :: ("_law_same", 2) :: ("_law_names_of", 3) :: ("_law_pick", 2) :: ("_law_arc", 3) :: ("_law_taken", 2) :: ("_law_put_by", 2) :: ("turned", 1) :: ("goals_of", 2) :: ("sources_of", 2) :: ("_law_draws", 1) :: ("_law_net", 3) :: ("_law_told", 3) :: ("_law_marking", 2) :: ("_law_after", 3) :: ("end_of", 3) :: ("is_run", 3) :: ("steps_at", 2) :: ("law", 1) :: [], mes := ("Moves", "able", 2) :: ("Moves", "end", 3) :: ("Moves", "can", 3) :: ("Moves", "after", 3) :: [], nes := ("Moves", 2) :: [], bns := ["isinstance", "int", "bool", "zip", "all", "str", "len", "tuple", "max", "any", "sorted", "abs", "range", "list", "reversed", "dict", "sum"], cis := ("MOST_SIGNS", 12) :: ("MOST_MANY", 9) :: ("MOST_NAMES", 20) :: ("MOST_TOKENS", 1000000) :: [], xcs := ["TokenError", "NotRight", "NotThere", "NoAnswer", "TooLarge"], cls := ["Moves"], nas := ("Moves", "places") :: ("Moves", "steps") :: ("Moves", "taken") :: ("Moves", "put") :: ("Moves", "changes") :: [], ecs := ["TokenError", "NotRight", "NotThere", "NoAnswer", "TooLarge", "Malformed"], flf := "_law_flags", fls := ["NotRight", "NotThere", "NoAnswer", "TooLarge", "Malformed"] }
def d_is_integer : Def := ⟨1, 1, [], (.ret (.and_ [(.prim (.isinst ["int"]) [(.pl 0 [])]), (.not_ (.prim (.isinst ["bool"]) [(.pl 0 [])]))]))⟩
def dd_is_integer : He.DefD := ⟨("is_integer", none), "is_integer", "is_integer", defArgs (top 8), defBody (top 8), defScope (top 8), [], []⟩
theorem b_is_integer {X : Cx} {W : WX} {n : Nat} {g : G} (C : Cxt X W ["value"] dd_is_integer.scope [0] ["isinstance", "int", "bool"] ["value"] n) (A : Al tb X.prog X.w X.K X.mg X.base n g) (hp : PassesOwn (model X.prog X.w) X.A X.env X.xe) (hfr : X.stack = X.env :: X.outer ∧ X.env.frame = some X.env.locals) : StsOk X W [] dd_is_integer.body (dS g [] d_is_integer.body) :=
  (s_one (s_ret (r_and (r_isi C A (C.gl 0 rfl) 0 rfl (C.gl 1 rfl) 1 rfl rfl boot_int (r_nm (C.nm rfl (by decide)))) (.cons (r_not (r_isi C A (C.gl 0 rfl) 0 rfl (C.gl 2 rfl) 2 rfl rfl boot_bool (r_nm (C.nm rfl (by decide))))) .nil))))
theorem p_is_integer {K : PySem.W.Frag} (F : ∃ fd, FunD K dd_is_integer.name dd_is_integer.qual dd_is_integer.params dd_is_integer.body dd_is_integer.scope [] [] (He.fAd K dd_is_integer.at_) fd) : Pkg tb K dd_is_integer ["value"] ["value"] d_is_integer [0] ["isinstance", "int", "bool"] ["value"] where
  fn := by
    obtain ⟨fd, F⟩ := F
    exact ⟨fd, F, F.bindsN fun _ _ _ _ _ _ us hl => match us, hl with | [_], _ => rfl⟩
  sc := ⟨rfl, rfl, rfl, by decide +kernel, rfl, by decide +kernel, by decide +kernel⟩
  np := rfl
  ns := rfl
  le := by decide
  vis := by kernel_rfl
  gls := by kernel_rfl
  loc := by kernel_rfl
  body := fun C A hp hfr => b_is_integer C A hp hfr
def d_is_within : Def := ⟨3, 3, [], (.ret (.and_ [(.call "is_integer" [(.pl 0 [])]), (.chain .le .le (.pl 1 []) (.pl 0 []) (.pl 2 []))]))⟩
def dd_is_within : He.DefD := ⟨("is_within", none), "is_within", "is_within", defArgs (top 9), defBody (top 9), defScope (top 9), [], []⟩
theorem b_is_within {X : Cx} {W : WX} {n : Nat} {g : G} (C : Cxt X W ["value", "low", "high"] dd_is_within.scope [0, 1, 2] ["is_integer"] ["value", "low", "high"] n) (A : Al tb X.prog X.w X.K X.mg X.base n g) (hp : PassesOwn (model X.prog X.w) X.A X.env X.xe) (hfr : X.stack = X.env :: X.outer ∧ X.env.frame = some X.env.locals) : StsOk X W [] dd_is_within.body (dS g [] d_is_within.body) :=
  (s_one (s_ret (r_and (r_call C A (C.gl 0 rfl) 0 rfl (w_val (r_nm (C.nm rfl (by decide))) w_nil)) (.cons (r_chain (q_le C.un) (q_le C.un) bl_le (r_nm (C.nm rfl (by decide))) (r_nm (C.nm rfl (by decide))) (r_nm (C.nm rfl (by decide)))) .nil))))
theorem p_is_within {K : PySem.W.Frag} (F : ∃ fd, FunD K dd_is_within.name dd_is_within.qual dd_is_within.params dd_is_within.body dd_is_within.scope [] [] (He.fAd K dd_is_within.at_) fd) : Pkg tb K dd_is_within ["value", "low", "high"] ["value", "low", "high"] d_is_within [0, 1, 2] ["is_integer"] ["value", "low", "high"] where
  fn := by
    obtain ⟨fd, F⟩ := F
    exact ⟨fd, F, F.bindsN fun _ _ _ _ _ _ us hl => match us, hl with | [_, _, _], _ => rfl⟩
  sc := ⟨rfl, rfl, rfl, by decide +kernel, rfl, by decide +kernel, by decide +kernel⟩
  np := rfl
  ns := rfl
  le := by decide
  vis := by kernel_rfl
  gls := by kernel_rfl
  loc := by kernel_rfl
  body := fun C A hp hfr => b_is_within C A hp hfr
def e_are_ascending_1 : E := .lcomp false [1, 2] (.prim .lt [(.pl 1 []), (.pl 2 [])]) [.mk (.tup [(.nm 1), (.nm 2)]) (.zip [(.pl 0 []), (.prim (.slc true false) [(.pl 0 []), (.cst (.int 1))])]) []]
theorem e_are_ascending_1_x {g : G} : (den g e_are_ascending_1).p = true ∧ (den g e_are_ascending_1).k = .plain ∧ (∀ fl S, (den g e_are_ascending_1).o fl S = ((den g e_are_ascending_1).v S).frz) ∧ e_are_ascending_1.pure = true ∧ e_are_ascending_1.isTup = false ∧ ∀ S, (den g e_are_ascending_1).t S = ((den g e_are_ascending_1).v S).frz.bind fun d S1 => .opt S1 d.truth := ⟨rfl, rfl, fun _ _ => rfl, rfl, rfl, fun _ => rfl⟩
def d_are_ascending : Def := ⟨1, 3, [], (.ret (.prim .all [e_are_ascending_1]))⟩
def dd_are_ascending : He.DefD := ⟨("are_ascending", none), "are_ascending", "are_ascending", defArgs (top 10), defBody (top 10), defScope (top 10), [], []⟩
theorem b_are_ascending {X : Cx} {W : WX} {n : Nat} {g : G} (C : Cxt X W ["values", "one", "other"] dd_are_ascending.scope [0] ["zip", "all"] ["values"] n) (A : Al tb X.prog X.w X.K X.mg X.base n g) (hp : PassesOwn (model X.prog X.w) X.A X.env X.xe) (hfr : X.stack = X.env :: X.outer ∧ X.env.frame = some X.env.locals) : StsOk X W [] dd_are_ascending.body (dS g [] d_are_ascending.body) :=
  (s_one (s_ret (r_b1 C A (C.gl 1 rfl) 4 rfl (q_all C.calm) boot_all (r_lcomp (gt := gTup X.K 2 (gCons (gName 1) (gCons (gName 2) gNil))) C [("one", 1), ("other", 2)] [1, 2] [] (by kernel_rfl) (by kernel_rfl) (by kernel_rfl) (by kernel_rfl) (by kernel_rfl) (i_zip C A (C.gl 0 rfl) 3 rfl (r_nm (C.nm rfl (by decide))) (r_slT (r_nm (C.nm rfl (by decide))) r_int) (fun _ => ⟨rfl, rfl⟩)) (fun _ => ⟨rfl, rfl, rfl⟩) (fun _ _ _ _ _ C1 => ⟨(t_tup C1 (t_cons (t_nm (x := "one") C1 rfl 0 rfl) (t_cons (t_nm (x := "other") C1 rfl 1 rfl) t_nil))), ts0, (r_cmp (q_lt C1.un) bl_lt (r_nm (C1.nm rfl (by decide))) (r_nm (C1.nm rfl (by decide))))⟩)))))
theorem p_are_ascending {K : PySem.W.Frag} (F : ∃ fd, FunD K dd_are_ascending.name dd_are_ascending.qual dd_are_ascending.params dd_are_ascending.body dd_are_ascending.scope [] [] (He.fAd K dd_are_ascending.at_) fd) : Pkg tb K dd_are_ascending ["values"] ["values", "one", "other"] d_are_ascending [0] ["zip", "all"] ["values"] where
  fn := by
    obtain ⟨fd, F⟩ := F
    exact ⟨fd, F, F.bindsN fun _ _ _ _ _ _ us hl => match us, hl with | [_], _ => rfl⟩
  sc := ⟨rfl, rfl, rfl, by decide +kernel, rfl, by decide +kernel, by decide +kernel⟩
  np := rfl
  ns := rfl
  le := by decide
  vis := by kernel_rfl
  gls := by kernel_rfl
  loc := by kernel_rfl
  body := fun C A hp hfr => b_are_ascending C A hp hfr
def e_is_name_1 : E := .lcomp false [1] (.or_ [(.chain .le .le (.cst (.str "a")) (.pl 1 []) (.cst (.str "z"))), (.chain .le .le (.cst (.str "0")) (.pl 1 []) (.cst (.str "9")))]) [.mk (.nm 1) (.seq (.pl 0 [])) []]
theorem e_is_name_1_x {g : G} : (den g e_is_name_1).p = true ∧ (den g e_is_name_1).k = .plain ∧ (∀ fl S, (den g e_is_name_1).o fl S = ((den g e_is_name_1).v S).frz) ∧ e_is_name_1.pure = true ∧ e_is_name_1.isTup = false ∧ ∀ S, (den g e_is_name_1).t S = ((den g e_is_name_1).v S).frz.bind fun d S1 => .opt S1 d.truth := ⟨rfl, rfl, fun _ _ => rfl, rfl, rfl, fun _ => rfl⟩
def d_is_name : Def := ⟨1, 2, [], (.seq (.ite (.or_ [(.not_ (.prim (.isinst ["str"]) [(.pl 0 [])])), (.not_ (.chain .le .le (.cst (.int 1)) (.prim .len [(.pl 0 [])]) (.cst (.int 12)))), (.not_ (.chain .le .le (.cst (.str "a")) (.prim .idx [(.pl 0 []), (.cst (.int 0))]) (.cst (.str "z"))))]) (.ret (.cst (.bl false))) .skip) (.ret (.prim .all [e_is_name_1])))⟩
def dd_is_name : He.DefD := ⟨("is_name", none), "is_name", "is_name", defArgs (top 11), defBody (top 11), defScope (top 11), [], []⟩
theorem b_is_name {X : Cx} {W : WX} {n : Nat} {g : G} (C : Cxt X W ["value", "sign"] dd_is_name.scope [0] ["isinstance", "str", "len", "MOST_SIGNS", "all"] ["value"] n) (A : Al tb X.prog X.w X.K X.mg X.base n g) (hp : PassesOwn (model X.prog X.w) X.A X.env X.xe) (hfr : X.stack = X.env :: X.outer ∧ X.env.frame = some X.env.locals) : StsOk X W [] dd_is_name.body (dS g [] d_is_name.body) :=
  (s_cons (s_if (r_or (r_not (r_isi C A (C.gl 0 rfl) 0 rfl (C.gl 1 rfl) 5 rfl rfl boot_str (r_nm (C.nm rfl (by decide))))) (.cons (r_not (r_chain (q_le C.un) (q_le C.un) bl_le r_int (r_b1 C A (C.gl 2 rfl) 6 rfl q_len boot_len (r_nm (C.nm rfl (by decide)))) (r_gint C A (C.gl 3 rfl) 0 rfl))) (.cons (r_not (r_chain (q_le C.un) (q_le C.un) bl_le r_str (r_ix C (r_nm (C.nm rfl (by decide))) r_int) r_str)) .nil))) (s_one (s_ret r_bl)) s_nil) (s_one (s_ret (r_b1 C A (C.gl 4 rfl) 4 rfl (q_all C.calm) boot_all (r_lcomp (gt := gName 1) C [("sign", 1)] [1] [] (by kernel_rfl) (by kernel_rfl) (by kernel_rfl) (by kernel_rfl) (by kernel_rfl) (i_seq (r_nm (C.nm rfl (by decide))) (fun _ => rfl)) (fun _ => ⟨rfl, rfl, rfl⟩) (fun _ _ _ _ _ C1 => ⟨(t_nm (x := "sign") C1 rfl 0 rfl), ts0, (r_or (r_chain (q_le C1.un) (q_le C1.un) bl_le r_str (r_nm (C1.nm rfl (by decide))) r_str) (.cons (r_chain (q_le C1.un) (q_le C1.un) bl_le r_str (r_nm (C1.nm rfl (by decide))) r_str) .nil))⟩))))))
theorem p_is_name {K : PySem.W.Frag} (F : ∃ fd, FunD K dd_is_name.name dd_is_name.qual dd_is_name.params dd_is_name.body dd_is_name.scope [] [] (He.fAd K dd_is_name.at_) fd) : Pkg tb K dd_is_name ["value"] ["value", "sign"] d_is_name [0] ["isinstance", "str", "len", "MOST_SIGNS", "all"] ["value"] where
  fn := by
    obtain ⟨fd, F⟩ := F
    exact ⟨fd, F, F.bindsN fun _ _ _ _ _ _ us hl => match us, hl with | [_], _ => rfl⟩
  sc := ⟨rfl, rfl, rfl, by decide +kernel, rfl, by decide +kernel, by decide +kernel⟩
  np := rfl
  ns := rfl
  le := by decide
  vis := by kernel_rfl
  gls := by kernel_rfl
  loc := by kernel_rfl
  body := fun C A hp hfr => b_is_name C A hp hfr
def e_are_names_1 : E := .lcomp false [1] (.call "is_name" [(.pl 1 [])]) [.mk (.nm 1) (.seq (.pl 0 [])) []]
theorem e_are_names_1_x {g : G} : (den g e_are_names_1).p = false ∧ (den g e_are_names_1).k = .plain ∧ (∀ fl S, (den g e_are_names_1).o fl S = ((den g e_are_names_1).v S).frz) ∧ e_are_names_1.pure = false ∧ e_are_names_1.isTup = false ∧ ∀ S, (den g e_are_names_1).t S = ((den g e_are_names_1).v S).frz.bind fun d S1 => .opt S1 d.truth := ⟨rfl, rfl, fun _ _ => rfl, rfl, rfl, fun _ => rfl⟩
def d_are_names : Def := ⟨1, 2, [], (.ret (.and_ [(.prim (.isinst ["tuple"]) [(.pl 0 [])]), (.prim .all [e_are_names_1]), (.call "are_ascending" [(.pl 0 [])])]))⟩
def dd_are_names : He.DefD := ⟨("are_names", none), "are_names", "are_names", defArgs (top 12), defBody (top 12), defScope (top 12), [], []⟩
theorem b_are_names {X : Cx} {W : WX} {n : Nat} {g : G} (C : Cxt X W ["value", "one"] dd_are_names.scope [0] ["isinstance", "tuple", "all", "are_ascending"] ["value"] n) (A : Al tb X.prog X.w X.K X.mg X.base n g) (hp : PassesOwn (model X.prog X.w) X.A X.env X.xe) (hfr : X.stack = X.env :: X.outer ∧ X.env.frame = some X.env.locals) : StsOk X W [] dd_are_names.body (dS g [] d_are_names.body) :=
  (s_one (s_ret (r_and (r_isi C A (C.gl 0 rfl) 0 rfl (C.gl 1 rfl) 7 rfl rfl boot_tuple (r_nm (C.nm rfl (by decide)))) (.cons (r_b1 C A (C.gl 2 rfl) 4 rfl (q_all C.calm) boot_all (r_lcomp (gt := gName 1) C [("one", 1)] [1] ["is_name"] (by kernel_rfl) (by kernel_rfl) (by kernel_rfl) (by kernel_rfl) (by kernel_rfl) (i_seq (r_nm (C.nm rfl (by decide))) (fun h => Bool.noConfusion (show false = true from h))) (fun h => Bool.noConfusion (show false = true from h)) (fun _ _ _ _ _ C1 => ⟨(t_nm (x := "one") C1 rfl 0 rfl), ts0, (r_call C1 A (C1.gl 0 rfl) 1 rfl (w_val (r_nm (C1.nm rfl (by decide))) w_nil))⟩))) (.cons (r_call C A (C.gl 3 rfl) 2 rfl (w_val (r_nm (C.nm rfl (by decide))) w_nil)) .nil)))))
theorem p_are_names {K : PySem.W.Frag} (F : ∃ fd, FunD K dd_are_names.name dd_are_names.qual dd_are_names.params dd_are_names.body dd_are_names.scope [] [] (He.fAd K dd_are_names.at_) fd) : Pkg tb K dd_are_names ["value"] ["value", "one"] d_are_names [0] ["isinstance", "tuple", "all", "are_ascending"] ["value"] where
  fn := by
    obtain ⟨fd, F⟩ := F
    exact ⟨fd, F, F.bindsN fun _ _ _ _ _ _ us hl => match us, hl with | [_], _ => rfl⟩
  sc := ⟨rfl, rfl, rfl, by decide +kernel, rfl, by decide +kernel, by decide +kernel⟩
  np := rfl
  ns := rfl
  le := by decide
  vis := by kernel_rfl
  gls := by kernel_rfl
  loc := by kernel_rfl
  body := fun C A hp hfr => b_are_names C A hp hfr
def e_is_arc_1 : E := .lcomp false [3] (.prim (.isinst ["str"]) [(.pl 3 [])]) [.mk (.nm 3) (.seq (.prim (.slc false true) [(.pl 2 []), (.cst (.int 2))])) []]
theorem e_is_arc_1_x {g : G} : (den g e_is_arc_1).p = true ∧ (den g e_is_arc_1).k = .plain ∧ (∀ fl S, (den g e_is_arc_1).o fl S = ((den g e_is_arc_1).v S).frz) ∧ e_is_arc_1.pure = true ∧ e_is_arc_1.isTup = false ∧ ∀ S, (den g e_is_arc_1).t S = ((den g e_is_arc_1).v S).frz.bind fun d S1 => .opt S1 d.truth := ⟨rfl, rfl, fun _ _ => rfl, rfl, rfl, fun _ => rfl⟩
def d_is_arc : Def := ⟨3, 7, [], (.seq (.ite (.or_ [(.not_ (.prim (.isinst ["tuple"]) [(.pl 2 [])])), (.prim .ne [(.prim .len [(.pl 2 [])]), (.cst (.int 3))]), (.not_ (.prim .all [e_is_arc_1]))]) (.ret (.cst (.bl false))) .skip) (.seq (.asg (.tup [(.nm 4), (.nm 5), (.nm 6)]) (.pl 2 [])) (.seq (.ite (.not_ (.or_ [(.and_ [(.prim .in_ [(.pl 4 []), (.pl 0 [])]), (.prim .in_ [(.pl 5 []), (.pl 1 [])])]), (.and_ [(.prim .in_ [(.pl 4 []), (.pl 1 [])]), (.prim .in_ [(.pl 5 []), (.pl 0 [])])])])) (.ret (.cst (.bl false))) .skip) (.ret (.call "is_within" [(.pl 6 []), (.cst (.int 1)), (.cst (.int 9))])))))⟩
def dd_is_arc : He.DefD := ⟨("is_arc", none), "is_arc", "is_arc", defArgs (top 17), defBody (top 17), defScope (top 17), [], []⟩
theorem b_is_arc {X : Cx} {W : WX} {n : Nat} {g : G} (C : Cxt X W ["places", "steps", "value", "end", "one", "other", "many"] dd_is_arc.scope [2, 4, 0, 5, 1, 6] ["isinstance", "tuple", "len", "all", "MOST_MANY", "is_within"] ["places", "steps", "value", "one", "other", "many"] n) (A : Al tb X.prog X.w X.K X.mg X.base n g) (hp : PassesOwn (model X.prog X.w) X.A X.env X.xe) (hfr : X.stack = X.env :: X.outer ∧ X.env.frame = some X.env.locals) : StsOk X W [] dd_is_arc.body (dS g [] d_is_arc.body) :=
  (s_cons (s_if (r_or (r_not (r_isi C A (C.gl 0 rfl) 0 rfl (C.gl 1 rfl) 7 rfl rfl boot_tuple (r_nm (C.nm rfl (by decide))))) (.cons (r_cmp (q_ne C.un) bl_ne (r_b1 C A (C.gl 2 rfl) 6 rfl q_len boot_len (r_nm (C.nm rfl (by decide)))) r_int) (.cons (r_not (r_b1 C A (C.gl 3 rfl) 4 rfl (q_all C.calm) boot_all (r_lcomp (gt := gName 3) C [("end", 3)] [3] ["isinstance", "str"] (by kernel_rfl) (by kernel_rfl) (by kernel_rfl) (by kernel_rfl) (by kernel_rfl) (i_seq (r_slF (r_nm (C.nm rfl (by decide))) r_int) (fun _ => rfl)) (fun _ => ⟨rfl, rfl, rfl⟩) (fun _ _ _ _ _ C1 => ⟨(t_nm (x := "end") C1 rfl 0 rfl), ts0, (r_isi C1 A (C1.gl 0 rfl) 0 rfl (C1.gl 1 rfl) 5 rfl rfl boot_str (r_nm (C1.nm rfl (by decide))))⟩)))) .nil))) (s_one (s_ret r_bl)) s_nil) (s_cons (s_asgT (r_nm (C.nm rfl (by decide))) (t_tup C (t_cons (t_nm (x := "one") C rfl 3 rfl) (t_cons (t_nm (x := "other") C rfl 4 rfl) (t_cons (t_nm (x := "many") C rfl 5 rfl) t_nil)))) rfl) (s_cons (s_if (r_not (r_or (r_and (r_cmp (q_in C.un) bl_in (r_nm (C.nm rfl (by decide))) (r_nm (C.nm rfl (by decide)))) (.cons (r_cmp (q_in C.un) bl_in (r_nm (C.nm rfl (by decide))) (r_nm (C.nm rfl (by decide)))) .nil)) (.cons (r_and (r_cmp (q_in C.un) bl_in (r_nm (C.nm rfl (by decide))) (r_nm (C.nm rfl (by decide)))) (.cons (r_cmp (q_in C.un) bl_in (r_nm (C.nm rfl (by decide))) (r_nm (C.nm rfl (by decide)))) .nil)) .nil))) (s_one (s_ret r_bl)) s_nil) (s_one (s_ret (r_call C A (C.gl 5 rfl) 3 rfl (w_val (r_nm (C.nm rfl (by decide))) (w_val r_int (w_val (r_gint C A (C.gl 4 rfl) 1 rfl) w_nil)))))))))
theorem p_is_arc {K : PySem.W.Frag} (F : ∃ fd, FunD K dd_is_arc.name dd_is_arc.qual dd_is_arc.params dd_is_arc.body dd_is_arc.scope [] [] (He.fAd K dd_is_arc.at_) fd) : Pkg tb K dd_is_arc ["places", "steps", "value"] ["places", "steps", "value", "end", "one", "other", "many"] d_is_arc [2, 4, 0, 5, 1, 6] ["isinstance", "tuple", "len", "all", "MOST_MANY", "is_within"] ["places", "steps", "value", "one", "other", "many"] where
  fn := by
    obtain ⟨fd, F⟩ := F
    exact ⟨fd, F, F.bindsN fun _ _ _ _ _ _ us hl => match us, hl with | [_, _, _], _ => rfl⟩
  sc := ⟨rfl, rfl, rfl, by decide +kernel, rfl, by decide +kernel, by decide +kernel⟩
  np := rfl
  ns := rfl
  le := by decide
  vis := by kernel_rfl
  gls := by kernel_rfl
  loc := by kernel_rfl
  body := fun C A hp hfr => b_is_arc C A hp hfr
def e_is_net_1 : E := .lcomp false [4] (.prim .in_ [(.pl 4 []), (.pl 2 [])]) [.mk (.nm 4) (.seq (.pl 1 [])) []]
def e_is_net_2 : E := .lcomp false [5] (.call "is_arc" [(.pl 1 []), (.pl 2 []), (.pl 5 [])]) [.mk (.nm 5) (.seq (.pl 3 [])) []]
def e_is_net_3 : E := .lcomp false [6, 7] (.prim .lt [(.prim (.slc false true) [(.pl 6 []), (.cst (.int 2))]), (.prim (.slc false true) [(.pl 7 []), (.cst (.int 2))])]) [.mk (.tup [(.nm 6), (.nm 7)]) (.zip [(.pl 3 []), (.prim (.slc true false) [(.pl 3 []), (.cst (.int 1))])]) []]
theorem e_is_net_1_x {g : G} : (den g e_is_net_1).p = true ∧ (den g e_is_net_1).k = .plain ∧ (∀ fl S, (den g e_is_net_1).o fl S = ((den g e_is_net_1).v S).frz) ∧ e_is_net_1.pure = true ∧ e_is_net_1.isTup = false ∧ ∀ S, (den g e_is_net_1).t S = ((den g e_is_net_1).v S).frz.bind fun d S1 => .opt S1 d.truth := ⟨rfl, rfl, fun _ _ => rfl, rfl, rfl, fun _ => rfl⟩
theorem e_is_net_2_x {g : G} : (den g e_is_net_2).p = false ∧ (den g e_is_net_2).k = .plain ∧ (∀ fl S, (den g e_is_net_2).o fl S = ((den g e_is_net_2).v S).frz) ∧ e_is_net_2.pure = false ∧ e_is_net_2.isTup = false ∧ ∀ S, (den g e_is_net_2).t S = ((den g e_is_net_2).v S).frz.bind fun d S1 => .opt S1 d.truth := ⟨rfl, rfl, fun _ _ => rfl, rfl, rfl, fun _ => rfl⟩
theorem e_is_net_3_x {g : G} : (den g e_is_net_3).p = true ∧ (den g e_is_net_3).k = .plain ∧ (∀ fl S, (den g e_is_net_3).o fl S = ((den g e_is_net_3).v S).frz) ∧ e_is_net_3.pure = true ∧ e_is_net_3.isTup = false ∧ ∀ S, (den g e_is_net_3).t S = ((den g e_is_net_3).v S).frz.bind fun d S1 => .opt S1 d.truth := ⟨rfl, rfl, fun _ _ => rfl, rfl, rfl, fun _ => rfl⟩
def d_is_net : Def := ⟨1, 8, [], (.seq (.ite (.or_ [(.not_ (.prim (.isinst ["tuple"]) [(.pl 0 [])])), (.prim .ne [(.prim .len [(.pl 0 [])]), (.cst (.int 3))]), (.not_ (.call "are_names" [(.prim .idx [(.pl 0 []), (.cst (.int 0))])])), (.not_ (.call "are_names" [(.prim .idx [(.pl 0 []), (.cst (.int 1))])]))]) (.ret (.cst (.bl false))) .skip) (.seq (.asg (.tup [(.nm 1), (.nm 2), (.nm 3)]) (.pl 0 [])) (.seq (.ite (.or_ [(.prim .gt [(.prim .max [(.prim .len [(.pl 1 [])]), (.prim .len [(.pl 2 [])])]), (.cst (.int 20))]), (.prim .any [e_is_net_1])]) (.ret (.cst (.bl false))) .skip) (.seq (.ite (.or_ [(.not_ (.prim (.isinst ["tuple"]) [(.pl 3 [])])), (.not_ (.prim .all [e_is_net_2]))]) (.ret (.cst (.bl false))) .skip) (.ret (.prim .all [e_is_net_3]))))))⟩
def dd_is_net : He.DefD := ⟨("is_net", none), "is_net", "is_net", defArgs (top 18), defBody (top 18), defScope (top 18), [], []⟩
theorem b_is_net {X : Cx} {W : WX} {n : Nat} {g : G} (C : Cxt X W ["value", "places", "steps", "arcs", "place", "arc", "one", "other"] dd_is_net.scope [0, 1, 2, 3] ["isinstance", "tuple", "len", "are_names", "max", "MOST_NAMES", "any", "all", "zip"] ["value", "places", "steps", "arcs"] n) (A : Al tb X.prog X.w X.K X.mg X.base n g) (hp : PassesOwn (model X.prog X.w) X.A X.env X.xe) (hfr : X.stack = X.env :: X.outer ∧ X.env.frame = some X.env.locals) : StsOk X W [] dd_is_net.body (dS g [] d_is_net.body) :=
  (s_cons (s_if (r_or (r_not (r_isi C A (C.gl 0 rfl) 0 rfl (C.gl 1 rfl) 7 rfl rfl boot_tuple (r_nm (C.nm rfl (by decide))))) (.cons (r_cmp (q_ne C.un) bl_ne (r_b1 C A (C.gl 2 rfl) 6 rfl q_len boot_len (r_nm (C.nm rfl (by decide)))) r_int) (.cons (r_not (r_call C A (C.gl 3 rfl) 4 rfl (w_val (r_ix C (r_nm (C.nm rfl (by decide))) r_int) w_nil))) (.cons (r_not (r_call C A (C.gl 3 rfl) 4 rfl (w_val (r_ix C (r_nm (C.nm rfl (by decide))) r_int) w_nil))) .nil)))) (s_one (s_ret r_bl)) s_nil) (s_cons (s_asgT (r_nm (C.nm rfl (by decide))) (t_tup C (t_cons (t_nm (x := "places") C rfl 1 rfl) (t_cons (t_nm (x := "steps") C rfl 2 rfl) (t_cons (t_nm (x := "arcs") C rfl 3 rfl) t_nil)))) rfl) (s_cons (s_if (r_or (r_cmp (q_gt C.un) bl_gt (r_b2 C A (C.gl 4 rfl) 8 rfl (q_max C.calm) boot_max (r_b1 C A (C.gl 2 rfl) 6 rfl q_len boot_len (r_nm (C.nm rfl (by decide)))) (r_b1 C A (C.gl 2 rfl) 6 rfl q_len boot_len (r_nm (C.nm rfl (by decide))))) (r_gint C A (C.gl 5 rfl) 2 rfl)) (.cons (r_b1 C A (C.gl 6 rfl) 9 rfl (q_any C.calm) boot_any (r_lcomp (gt := gName 4) C [("place", 4)] [4, 2] [] (by kernel_rfl) (by kernel_rfl) (by kernel_rfl) (by kernel_rfl) (by kernel_rfl) (i_seq (r_nm (C.nm rfl (by decide))) (fun _ => rfl)) (fun _ => ⟨rfl, rfl, rfl⟩) (fun _ _ _ _ _ C1 => ⟨(t_nm (x := "place") C1 rfl 0 rfl), ts0, (r_cmp (q_in C1.un) bl_in (r_nm (C1.nm rfl (by decide))) (r_nm (C1.nm rfl (by decide))))⟩))) .nil)) (s_one (s_ret r_bl)) s_nil) (s_cons (s_if (r_or (r_not (r_isi C A (C.gl 0 rfl) 0 rfl (C.gl 1 rfl) 7 rfl rfl boot_tuple (r_nm (C.nm rfl (by decide))))) (.cons (r_not (r_b1 C A (C.gl 7 rfl) 4 rfl (q_all C.calm) boot_all (r_lcomp (gt := gName 5) C [("arc", 5)] [5, 1, 2] ["is_arc"] (by kernel_rfl) (by kernel_rfl) (by kernel_rfl) (by kernel_rfl) (by kernel_rfl) (i_seq (r_nm (C.nm rfl (by decide))) (fun h => Bool.noConfusion (show false = true from h))) (fun h => Bool.noConfusion (show false = true from h)) (fun _ _ _ _ _ C2 => ⟨(t_nm (x := "arc") C2 rfl 0 rfl), ts0, (r_call C2 A (C2.gl 0 rfl) 5 rfl (w_val (r_nm (C2.nm rfl (by decide))) (w_val (r_nm (C2.nm rfl (by decide))) (w_val (r_nm (C2.nm rfl (by decide))) w_nil))))⟩)))) .nil)) (s_one (s_ret r_bl)) s_nil) (s_one (s_ret (r_b1 C A (C.gl 7 rfl) 4 rfl (q_all C.calm) boot_all (r_lcomp (gt := gTup X.K 2 (gCons (gName 6) (gCons (gName 7) gNil))) C [("one", 6), ("other", 7)] [6, 7] [] (by kernel_rfl) (by kernel_rfl) (by kernel_rfl) (by kernel_rfl) (by kernel_rfl) (i_zip C A (C.gl 8 rfl) 3 rfl (r_nm (C.nm rfl (by decide))) (r_slT (r_nm (C.nm rfl (by decide))) r_int) (fun _ => ⟨rfl, rfl⟩)) (fun _ => ⟨rfl, rfl, rfl⟩) (fun _ _ _ _ _ C3 => ⟨(t_tup C3 (t_cons (t_nm (x := "one") C3 rfl 0 rfl) (t_cons (t_nm (x := "other") C3 rfl 1 rfl) t_nil))), ts0, (r_cmp (q_lt C3.un) bl_lt (r_slF (r_nm (C3.nm rfl (by decide))) r_int) (r_slF (r_nm (C3.nm rfl (by decide))) r_int))⟩)))))))))
theorem p_is_net {K : PySem.W.Frag} (F : ∃ fd, FunD K dd_is_net.name dd_is_net.qual dd_is_net.params dd_is_net.body dd_is_net.scope [] [] (He.fAd K dd_is_net.at_) fd) : Pkg tb K dd_is_net ["value"] ["value", "places", "steps", "arcs", "place", "arc", "one", "other"] d_is_net [0, 1, 2, 3] ["isinstance", "tuple", "len", "are_names", "max", "MOST_NAMES", "any", "all", "zip"] ["value", "places", "steps", "arcs"] where
  fn := by
    obtain ⟨fd, F⟩ := F
    exact ⟨fd, F, F.bindsN fun _ _ _ _ _ _ us hl => match us, hl with | [_], _ => rfl⟩
  sc := ⟨rfl, rfl, rfl, by decide +kernel, rfl, by decide +kernel, by decide +kernel⟩
  np := rfl
  ns := rfl
  le := by decide
  vis := by kernel_rfl
  gls := by kernel_rfl
  loc := by kernel_rfl
  body := fun C A hp hfr => b_is_net C A hp hfr
def d_check_net : Def := ⟨1, 1, [], (.ite (.not_ (.call "is_net" [(.pl 0 [])])) (.raise "NotRight" [(.cst (.str "this is no net"))]) .skip)⟩
def dd_check_net : He.DefD := ⟨("check_net", none), "check_net", "check_net", defArgs (top 19), defBody (top 19), defScope (top 19), [], []⟩
theorem b_check_net {X : Cx} {W : WX} {n : Nat} {g : G} (C : Cxt X W ["net"] dd_check_net.scope [0] ["is_net", "NotRight"] ["net"] n) (A : Al tb X.prog X.w X.K X.mg X.base n g) (hp : PassesOwn (model X.prog X.w) X.A X.env X.xe) (hfr : X.stack = X.env :: X.outer ∧ X.env.frame = some X.env.locals) : StsOk X W [] dd_check_net.body (dS g [] d_check_net.body) :=
  (s_one (s_if (r_not (r_call C A (C.gl 0 rfl) 6 rfl (w_val (r_nm (C.nm rfl (by decide))) w_nil))) (s_one (s_raise C A (C.gl 1 rfl) 1 rfl)) s_nil))
theorem p_check_net {K : PySem.W.Frag} (F : ∃ fd, FunD K dd_check_net.name dd_check_net.qual dd_check_net.params dd_check_net.body dd_check_net.scope [] [] (He.fAd K dd_check_net.at_) fd) : Pkg tb K dd_check_net ["net"] ["net"] d_check_net [0] ["is_net", "NotRight"] ["net"] where
  fn := by
    obtain ⟨fd, F⟩ := F
    exact ⟨fd, F, F.bindsN fun _ _ _ _ _ _ us hl => match us, hl with | [_], _ => rfl⟩
  sc := ⟨rfl, rfl, rfl, by decide +kernel, rfl, by decide +kernel, by decide +kernel⟩
  np := rfl
  ns := rfl
  le := by decide
  vis := by kernel_rfl
  gls := by kernel_rfl
  loc := by kernel_rfl
  body := fun C A hp hfr => b_check_net C A hp hfr
def e_is_marking_by_1 : E := .lcomp false [2] (.call "is_within" [(.pl 2 []), (.cst (.int 0)), (.cst (.int 1000000))]) [.mk (.nm 2) (.seq (.pl 1 [])) []]
theorem e_is_marking_by_1_x {g : G} : (den g e_is_marking_by_1).p = false ∧ (den g e_is_marking_by_1).k = .plain ∧ (∀ fl S, (den g e_is_marking_by_1).o fl S = ((den g e_is_marking_by_1).v S).frz) ∧ e_is_marking_by_1.pure = false ∧ e_is_marking_by_1.isTup = false ∧ ∀ S, (den g e_is_marking_by_1).t S = ((den g e_is_marking_by_1).v S).frz.bind fun d S1 => .opt S1 d.truth := ⟨rfl, rfl, fun _ _ => rfl, rfl, rfl, fun _ => rfl⟩
def d_is_marking_by : Def := ⟨2, 3, [], (.seq (.ite (.or_ [(.not_ (.prim (.isinst ["tuple"]) [(.pl 1 [])])), (.prim .ne [(.prim .len [(.pl 1 [])]), (.prim .len [(.prim .idx [(.pl 0 []), (.cst (.int 0))])])])]) (.ret (.cst (.bl false))) .skip) (.ret (.prim .all [e_is_marking_by_1])))⟩
def dd_is_marking_by : He.DefD := ⟨("is_marking_by", none), "is_marking_by", "is_marking_by", defArgs (top 20), defBody (top 20), defScope (top 20), [], []⟩
theorem b_is_marking_by {X : Cx} {W : WX} {n : Nat} {g : G} (C : Cxt X W ["net", "value", "one"] dd_is_marking_by.scope [1, 0] ["isinstance", "tuple", "len", "all"] ["net", "value"] n) (A : Al tb X.prog X.w X.K X.mg X.base n g) (hp : PassesOwn (model X.prog X.w) X.A X.env X.xe) (hfr : X.stack = X.env :: X.outer ∧ X.env.frame = some X.env.locals) : StsOk X W [] dd_is_marking_by.body (dS g [] d_is_marking_by.body) :=
  (s_cons (s_if (r_or (r_not (r_isi C A (C.gl 0 rfl) 0 rfl (C.gl 1 rfl) 7 rfl rfl boot_tuple (r_nm (C.nm rfl (by decide))))) (.cons (r_cmp (q_ne C.un) bl_ne (r_b1 C A (C.gl 2 rfl) 6 rfl q_len boot_len (r_nm (C.nm rfl (by decide)))) (r_b1 C A (C.gl 2 rfl) 6 rfl q_len boot_len (r_ix C (r_nm (C.nm rfl (by decide))) r_int))) .nil)) (s_one (s_ret r_bl)) s_nil) (s_one (s_ret (r_b1 C A (C.gl 3 rfl) 4 rfl (q_all C.calm) boot_all (r_lcomp (gt := gName 2) C [("one", 2)] [2] ["MOST_TOKENS", "is_within"] (by kernel_rfl) (by kernel_rfl) (by kernel_rfl) (by kernel_rfl) (by kernel_rfl) (i_seq (r_nm (C.nm rfl (by decide))) (fun h => Bool.noConfusion (show false = true from h))) (fun h => Bool.noConfusion (show false = true from h)) (fun _ _ _ _ _ C1 => ⟨(t_nm (x := "one") C1 rfl 0 rfl), ts0, (r_call C1 A (C1.gl 1 rfl) 3 rfl (w_val (r_nm (C1.nm rfl (by decide))) (w_val r_int (w_val (r_gint C1 A (C1.gl 0 rfl) 3 rfl) w_nil))))⟩))))))
theorem p_is_marking_by {K : PySem.W.Frag} (F : ∃ fd, FunD K dd_is_marking_by.name dd_is_marking_by.qual dd_is_marking_by.params dd_is_marking_by.body dd_is_marking_by.scope [] [] (He.fAd K dd_is_marking_by.at_) fd) : Pkg tb K dd_is_marking_by ["net", "value"] ["net", "value", "one"] d_is_marking_by [1, 0] ["isinstance", "tuple", "len", "all"] ["net", "value"] where
  fn := by
    obtain ⟨fd, F⟩ := F
    exact ⟨fd, F, F.bindsN fun _ _ _ _ _ _ us hl => match us, hl with | [_, _], _ => rfl⟩
  sc := ⟨rfl, rfl, rfl, by decide +kernel, rfl, by decide +kernel, by decide +kernel⟩
  np := rfl
  ns := rfl
  le := by decide
  vis := by kernel_rfl
  gls := by kernel_rfl
  loc := by kernel_rfl
  body := fun C A hp hfr => b_is_marking_by C A hp hfr
def d_is_marking : Def := ⟨2, 2, [], (.seq (.ex (.call "check_net" [(.pl 0 [])])) (.ret (.call "is_marking_by" [(.pl 0 []), (.pl 1 [])])))⟩
def dd_is_marking : He.DefD := ⟨("is_marking", none), "is_marking", "is_marking", defArgs (top 21), defBody (top 21), defScope (top 21), [], []⟩
theorem b_is_marking {X : Cx} {W : WX} {n : Nat} {g : G} (C : Cxt X W ["net", "value"] dd_is_marking.scope [0, 1] ["check_net", "is_marking_by"] ["net", "value"] n) (A : Al tb X.prog X.w X.K X.mg X.base n g) (hp : PassesOwn (model X.prog X.w) X.A X.env X.xe) (hfr : X.stack = X.env :: X.outer ∧ X.env.frame = some X.env.locals) : StsOk X W [] dd_is_marking.body (dS g [] d_is_marking.body) :=
  (s_cons (s_ex (r_call C A (C.gl 0 rfl) 7 rfl (w_val (r_nm (C.nm rfl (by decide))) w_nil))) (s_one (s_ret (r_call C A (C.gl 1 rfl) 8 rfl (w_val (r_nm (C.nm rfl (by decide))) (w_val (r_nm (C.nm rfl (by decide))) w_nil))))))
theorem p_is_marking {K : PySem.W.Frag} (F : ∃ fd, FunD K dd_is_marking.name dd_is_marking.qual dd_is_marking.params dd_is_marking.body dd_is_marking.scope [] [] (He.fAd K dd_is_marking.at_) fd) : Pkg tb K dd_is_marking ["net", "value"] ["net", "value"] d_is_marking [0, 1] ["check_net", "is_marking_by"] ["net", "value"] where
  fn := by
    obtain ⟨fd, F⟩ := F
    exact ⟨fd, F, F.bindsN fun _ _ _ _ _ _ us hl => match us, hl with | [_, _], _ => rfl⟩
  sc := ⟨rfl, rfl, rfl, by decide +kernel, rfl, by decide +kernel, by decide +kernel⟩
  np := rfl
  ns := rfl
  le := by decide
  vis := by kernel_rfl
  gls := by kernel_rfl
  loc := by kernel_rfl
  body := fun C A hp hfr => b_is_marking C A hp hfr
def d_check_marked : Def := ⟨2, 2, [], (.ite (.not_ (.call "is_marking" [(.pl 0 []), (.pl 1 [])])) (.raise "NotRight" [(.cst (.str "this is no marking"))]) .skip)⟩
def dd_check_marked : He.DefD := ⟨("check_marked", none), "check_marked", "check_marked", defArgs (top 22), defBody (top 22), defScope (top 22), [], []⟩
theorem b_check_marked {X : Cx} {W : WX} {n : Nat} {g : G} (C : Cxt X W ["net", "marking"] dd_check_marked.scope [0, 1] ["is_marking", "NotRight"] ["net", "marking"] n) (A : Al tb X.prog X.w X.K X.mg X.base n g) (hp : PassesOwn (model X.prog X.w) X.A X.env X.xe) (hfr : X.stack = X.env :: X.outer ∧ X.env.frame = some X.env.locals) : StsOk X W [] dd_check_marked.body (dS g [] d_check_marked.body) :=
  (s_one (s_if (r_not (r_call C A (C.gl 0 rfl) 9 rfl (w_val (r_nm (C.nm rfl (by decide))) (w_val (r_nm (C.nm rfl (by decide))) w_nil)))) (s_one (s_raise C A (C.gl 1 rfl) 1 rfl)) s_nil))
theorem p_check_marked {K : PySem.W.Frag} (F : ∃ fd, FunD K dd_check_marked.name dd_check_marked.qual dd_check_marked.params dd_check_marked.body dd_check_marked.scope [] [] (He.fAd K dd_check_marked.at_) fd) : Pkg tb K dd_check_marked ["net", "marking"] ["net", "marking"] d_check_marked [0, 1] ["is_marking", "NotRight"] ["net", "marking"] where
  fn := by
    obtain ⟨fd, F⟩ := F
    exact ⟨fd, F, F.bindsN fun _ _ _ _ _ _ us hl => match us, hl with | [_, _], _ => rfl⟩
  sc := ⟨rfl, rfl, rfl, by decide +kernel, rfl, by decide +kernel, by decide +kernel⟩
  np := rfl
  ns := rfl
  le := by decide
  vis := by kernel_rfl
  gls := by kernel_rfl
  loc := by kernel_rfl
  body := fun C A hp hfr => b_check_marked C A hp hfr
def d_check_step : Def := ⟨2, 2, [], (.ite (.prim .nin [(.pl 1 []), (.prim .idx [(.pl 0 []), (.cst (.int 1))])]) (.raise "NotThere" [(.cst (.str "there is no such step"))]) .skip)⟩
def dd_check_step : He.DefD := ⟨("check_step", none), "check_step", "check_step", defArgs (top 23), defBody (top 23), defScope (top 23), [], []⟩
theorem b_check_step {X : Cx} {W : WX} {n : Nat} {g : G} (C : Cxt X W ["net", "step"] dd_check_step.scope [1, 0] ["NotThere"] ["net", "step"] n) (A : Al tb X.prog X.w X.K X.mg X.base n g) (hp : PassesOwn (model X.prog X.w) X.A X.env X.xe) (hfr : X.stack = X.env :: X.outer ∧ X.env.frame = some X.env.locals) : StsOk X W [] dd_check_step.body (dS g [] d_check_step.body) :=
  (s_one (s_if (r_cmp (q_nin C.un) bl_nin (r_nm (C.nm rfl (by decide))) (r_ix C (r_nm (C.nm rfl (by decide))) r_int)) (s_one (s_raise C A (C.gl 0 rfl) 2 rfl)) s_nil))
theorem p_check_step {K : PySem.W.Frag} (F : ∃ fd, FunD K dd_check_step.name dd_check_step.qual dd_check_step.params dd_check_step.body dd_check_step.scope [] [] (He.fAd K dd_check_step.at_) fd) : Pkg tb K dd_check_step ["net", "step"] ["net", "step"] d_check_step [1, 0] ["NotThere"] ["net", "step"] where
  fn := by
    obtain ⟨fd, F⟩ := F
    exact ⟨fd, F, F.bindsN fun _ _ _ _ _ _ us hl => match us, hl with | [_, _], _ => rfl⟩
  sc := ⟨rfl, rfl, rfl, by decide +kernel, rfl, by decide +kernel, by decide +kernel⟩
  np := rfl
  ns := rfl
  le := by decide
  vis := by kernel_rfl
  gls := by kernel_rfl
  loc := by kernel_rfl
  body := fun C A hp hfr => b_check_step C A hp hfr
def d_steps_at : Def := ⟨2, 2, [], (.seq (.ex (.call "check_marked" [(.pl 0 []), (.pl 1 [])])) (.ret (.meth "Moves" "able" (.new false "Moves" [(.pl 0 [])]) [(.pl 1 [])])))⟩
def dd_steps_at : He.DefD := ⟨("steps_at", none), "steps_at", "steps_at", defArgs (top 25), defBody (top 25), defScope (top 25), [], []⟩
theorem b_steps_at {X : Cx} {W : WX} {n : Nat} {g : G} (C : Cxt X W ["net", "marking"] dd_steps_at.scope [0, 1] ["check_marked", "Moves"] ["net", "marking"] n) (A : Al tb X.prog X.w X.K X.mg X.base n g) (hp : PassesOwn (model X.prog X.w) X.A X.env X.xe) (hfr : X.stack = X.env :: X.outer ∧ X.env.frame = some X.env.locals) : StsOk X W [] dd_steps_at.body (dS g [] d_steps_at.body) :=
  (s_cons (s_ex (r_call C A (C.gl 0 rfl) 10 rfl (w_val (r_nm (C.nm rfl (by decide))) (w_val (r_nm (C.nm rfl (by decide))) w_nil)))) (s_one (s_ret (r_methV C A (r_new C A (C.gl 1 rfl) 0 rfl 0 rfl (w_val (r_nm (C.nm rfl (by decide))) w_nil)) 0 rfl 0 rfl (w_val (r_nm (C.nm rfl (by decide))) w_nil)))))
theorem p_steps_at {K : PySem.W.Frag} (F : ∃ fd, FunD K dd_steps_at.name dd_steps_at.qual dd_steps_at.params dd_steps_at.body dd_steps_at.scope [] [] (He.fAd K dd_steps_at.at_) fd) : Pkg tb K dd_steps_at ["net", "marking"] ["net", "marking"] d_steps_at [0, 1] ["check_marked", "Moves"] ["net", "marking"] where
  fn := by
    obtain ⟨fd, F⟩ := F
    exact ⟨fd, F, F.bindsN fun _ _ _ _ _ _ us hl => match us, hl with | [_, _], _ => rfl⟩
  sc := ⟨rfl, rfl, rfl, by decide +kernel, rfl, by decide +kernel, by decide +kernel⟩
  np := rfl
  ns := rfl
  le := by decide
  vis := by kernel_rfl
  gls := by kernel_rfl
  loc := by kernel_rfl
  body := fun C A hp hfr => b_steps_at C A hp hfr
def d_is_run : Def := ⟨3, 3, [], (.seq (.ex (.call "check_marked" [(.pl 0 []), (.pl 1 [])])) (.ret (.prim .notN [(.meth "Moves" "end" (.new false "Moves" [(.pl 0 [])]) [(.pl 1 []), (.pl 2 [])])])))⟩
def dd_is_run : He.DefD := ⟨("is_run", none), "is_run", "is_run", defArgs (top 26), defBody (top 26), defScope (top 26), [], []⟩
theorem b_is_run {X : Cx} {W : WX} {n : Nat} {g : G} (C : Cxt X W ["net", "marking", "run"] dd_is_run.scope [0, 1, 2] ["check_marked", "Moves"] ["net", "marking", "run"] n) (A : Al tb X.prog X.w X.K X.mg X.base n g) (hp : PassesOwn (model X.prog X.w) X.A X.env X.xe) (hfr : X.stack = X.env :: X.outer ∧ X.env.frame = some X.env.locals) : StsOk X W [] dd_is_run.body (dS g [] d_is_run.body) :=
  (s_cons (s_ex (r_call C A (C.gl 0 rfl) 10 rfl (w_val (r_nm (C.nm rfl (by decide))) (w_val (r_nm (C.nm rfl (by decide))) w_nil)))) (s_one (s_ret (r_notN (r_methV C A (r_new C A (C.gl 1 rfl) 0 rfl 0 rfl (w_val (r_nm (C.nm rfl (by decide))) w_nil)) 1 rfl 0 rfl (w_val (r_nm (C.nm rfl (by decide))) (w_val (r_nm (C.nm rfl (by decide))) w_nil)))))))
theorem p_is_run {K : PySem.W.Frag} (F : ∃ fd, FunD K dd_is_run.name dd_is_run.qual dd_is_run.params dd_is_run.body dd_is_run.scope [] [] (He.fAd K dd_is_run.at_) fd) : Pkg tb K dd_is_run ["net", "marking", "run"] ["net", "marking", "run"] d_is_run [0, 1, 2] ["check_marked", "Moves"] ["net", "marking", "run"] where
  fn := by
    obtain ⟨fd, F⟩ := F
    exact ⟨fd, F, F.bindsN fun _ _ _ _ _ _ us hl => match us, hl with | [_, _, _], _ => rfl⟩
  sc := ⟨rfl, rfl, rfl, by decide +kernel, rfl, by decide +kernel, by decide +kernel⟩
  np := rfl
  ns := rfl
  le := by decide
  vis := by kernel_rfl
  gls := by kernel_rfl
  loc := by kernel_rfl
  body := fun C A hp hfr => b_is_run C A hp hfr
def b_end_of_1 : Tk.S := (.ex (.call "check_step" [(.pl 0 []), (.pl 3 [])]))
def l_end_of_1 : Tk.S := .for_ [3] (.nm 3) (.seq (.pl 2 [])) b_end_of_1
def d_end_of : Def := ⟨3, 5, [], (.seq (.ex (.call "check_marked" [(.pl 0 []), (.pl 1 [])])) (.seq l_end_of_1 (.seq (.asg (.nm 4) (.meth "Moves" "end" (.new false "Moves" [(.pl 0 [])]) [(.pl 1 []), (.pl 2 [])])) (.seq (.ite (.prim .isN [(.pl 4 [])]) (.raise "NoAnswer" [(.cst (.str "this is no run"))]) .skip) (.ret (.pl 4 []))))))⟩
def dd_end_of : He.DefD := ⟨("end_of", none), "end_of", "end_of", defArgs (top 27), defBody (top 27), defScope (top 27), [], []⟩
theorem b_end_of {X : Cx} {W : WX} {n : Nat} {g : G} (C : Cxt X W ["net", "marking", "run", "step", "found"] dd_end_of.scope [0, 1, 2, 3, 4] ["check_marked", "check_step", "Moves", "NoAnswer"] ["net", "marking", "run", "step", "found"] n) (A : Al tb X.prog X.w X.K X.mg X.base n g) (hp : PassesOwn (model X.prog X.w) X.A X.env X.xe) (hfr : X.stack = X.env :: X.outer ∧ X.env.frame = some X.env.locals) : StsOk X W [] dd_end_of.body (dS g [] d_end_of.body) :=
  (s_cons (s_ex (r_call C A (C.gl 0 rfl) 10 rfl (w_val (r_nm (C.nm rfl (by decide))) (w_val (r_nm (C.nm rfl (by decide))) w_nil)))) (s_cons (s_for C hp (i_seq (r_nm (C.nm rfl (by decide))) (fun h => Bool.noConfusion (show false = true from h))) (t_nm (x := "step") C rfl 3 rfl) (s_one (s_ex (r_call C A (C.gl 1 rfl) 11 rfl (w_val (r_nm (C.nm rfl (by decide))) (w_val (r_nm (C.nm rfl (by decide))) w_nil)))))) (s_cons (s_asg C rfl 4 rfl (r_methV C A (r_new C A (C.gl 2 rfl) 0 rfl 0 rfl (w_val (r_nm (C.nm rfl (by decide))) w_nil)) 1 rfl 0 rfl (w_val (r_nm (C.nm rfl (by decide))) (w_val (r_nm (C.nm rfl (by decide))) w_nil))) rfl) (s_cons (s_if (r_isN (r_nm (C.nm rfl (by decide)))) (s_one (s_raise C A (C.gl 3 rfl) 3 rfl)) s_nil) (s_one (s_retM (C.nm rfl (by decide))))))))
theorem p_end_of {K : PySem.W.Frag} (F : ∃ fd, FunD K dd_end_of.name dd_end_of.qual dd_end_of.params dd_end_of.body dd_end_of.scope [] [] (He.fAd K dd_end_of.at_) fd) : Pkg tb K dd_end_of ["net", "marking", "run"] ["net", "marking", "run", "step", "found"] d_end_of [0, 1, 2, 3, 4] ["check_marked", "check_step", "Moves", "NoAnswer"] ["net", "marking", "run", "step", "found"] where
  fn := by
    obtain ⟨fd, F⟩ := F
    exact ⟨fd, F, F.bindsN fun _ _ _ _ _ _ us hl => match us, hl with | [_, _, _], _ => rfl⟩
  sc := ⟨rfl, rfl, rfl, by decide +kernel, rfl, by decide +kernel, by decide +kernel⟩
  np := rfl
  ns := rfl
  le := by decide
  vis := by kernel_rfl
  gls := by kernel_rfl
  loc := by kernel_rfl
  body := fun C A hp hfr => b_end_of C A hp hfr
def e_turned_1 : E := .lcomp false [1, 2, 3] (.tup [(.pl 2 []), (.pl 1 []), (.pl 3 [])]) [.mk (.tup [(.nm 1), (.nm 2), (.nm 3)]) (.seq (.prim .idx [(.pl 0 []), (.cst (.int 2))])) []]
theorem e_turned_1_x {g : G} : (den g e_turned_1).p = true ∧ (den g e_turned_1).k = .plain ∧ (∀ fl S, (den g e_turned_1).o fl S = ((den g e_turned_1).v S).frz) ∧ e_turned_1.pure = true ∧ e_turned_1.isTup = false ∧ ∀ S, (den g e_turned_1).t S = ((den g e_turned_1).v S).frz.bind fun d S1 => .opt S1 d.truth := ⟨rfl, rfl, fun _ _ => rfl, rfl, rfl, fun _ => rfl⟩
def d_turned : Def := ⟨1, 4, [], (.seq (.ex (.call "check_net" [(.pl 0 [])])) (.ret (.tup [(.prim .idx [(.pl 0 []), (.cst (.int 0))]), (.prim .idx [(.pl 0 []), (.cst (.int 1))]), (.prim .tuple [(.prim .sorted [e_turned_1])])])))⟩
def dd_turned : He.DefD := ⟨("turned", none), "turned", "turned", defArgs (top 28), defBody (top 28), defScope (top 28), [], []⟩
theorem b_turned {X : Cx} {W : WX} {n : Nat} {g : G} (C : Cxt X W ["net", "one", "other", "many"] dd_turned.scope [0] ["check_net", "sorted", "tuple"] ["net"] n) (A : Al tb X.prog X.w X.K X.mg X.base n g) (hp : PassesOwn (model X.prog X.w) X.A X.env X.xe) (hfr : X.stack = X.env :: X.outer ∧ X.env.frame = some X.env.locals) : StsOk X W [] dd_turned.body (dS g [] d_turned.body) :=
  (s_cons (s_ex (r_call C A (C.gl 0 rfl) 7 rfl (w_val (r_nm (C.nm rfl (by decide))) w_nil))) (s_one (s_ret (r_tup (w_val (r_ix C (r_nm (C.nm rfl (by decide))) r_int) (w_val (r_ix C (r_nm (C.nm rfl (by decide))) r_int) (w_val (r_t1 C A (C.gl 2 rfl) 7 rfl q_tuple boot_tuple (r_b1 C A (C.gl 1 rfl) 10 rfl (q_sorted C.un) boot_sorted (r_lcomp (gt := gTup X.K 3 (gCons (gName 1) (gCons (gName 2) (gCons (gName 3) gNil)))) C [("one", 1), ("other", 2), ("many", 3)] [1, 2, 3] [] (by kernel_rfl) (by kernel_rfl) (by kernel_rfl) (by kernel_rfl) (by kernel_rfl) (i_seq (r_ix C (r_nm (C.nm rfl (by decide))) r_int) (fun _ => rfl)) (fun _ => ⟨rfl, rfl, rfl⟩) (fun _ _ _ _ _ C1 => ⟨(t_tup C1 (t_cons (t_nm (x := "one") C1 rfl 0 rfl) (t_cons (t_nm (x := "other") C1 rfl 1 rfl) (t_cons (t_nm (x := "many") C1 rfl 2 rfl) t_nil)))), ts0, (r_tup (w_val (r_nm (C1.nm rfl (by decide))) (w_val (r_nm (C1.nm rfl (by decide))) (w_val (r_nm (C1.nm rfl (by decide))) w_nil))))⟩)))) w_nil)))))))
theorem p_turned {K : PySem.W.Frag} (F : ∃ fd, FunD K dd_turned.name dd_turned.qual dd_turned.params dd_turned.body dd_turned.scope [] [] (He.fAd K dd_turned.at_) fd) : Pkg tb K dd_turned ["net"] ["net", "one", "other", "many"] d_turned [0] ["check_net", "sorted", "tuple"] ["net"] where
  fn := by
    obtain ⟨fd, F⟩ := F
    exact ⟨fd, F, F.bindsN fun _ _ _ _ _ _ us hl => match us, hl with | [_], _ => rfl⟩
  sc := ⟨rfl, rfl, rfl, by decide +kernel, rfl, by decide +kernel, by decide +kernel⟩
  np := rfl
  ns := rfl
  le := by decide
  vis := by kernel_rfl
  gls := by kernel_rfl
  loc := by kernel_rfl
  body := fun C A hp hfr => b_turned C A hp hfr
def d_check_known : Def := ⟨2, 2, [], (.ite (.and_ [(.prim .nin [(.pl 1 []), (.prim .idx [(.pl 0 []), (.cst (.int 0))])]), (.prim .nin [(.pl 1 []), (.prim .idx [(.pl 0 []), (.cst (.int 1))])])]) (.raise "NotThere" [(.cst (.str "there is no such place or step"))]) .skip)⟩
def dd_check_known : He.DefD := ⟨("check_known", none), "check_known", "check_known", defArgs (top 29), defBody (top 29), defScope (top 29), [], []⟩
theorem b_check_known {X : Cx} {W : WX} {n : Nat} {g : G} (C : Cxt X W ["net", "name"] dd_check_known.scope [1, 0] ["NotThere"] ["net", "name"] n) (A : Al tb X.prog X.w X.K X.mg X.base n g) (hp : PassesOwn (model X.prog X.w) X.A X.env X.xe) (hfr : X.stack = X.env :: X.outer ∧ X.env.frame = some X.env.locals) : StsOk X W [] dd_check_known.body (dS g [] d_check_known.body) :=
  (s_one (s_if (r_and (r_cmp (q_nin C.un) bl_nin (r_nm (C.nm rfl (by decide))) (r_ix C (r_nm (C.nm rfl (by decide))) r_int)) (.cons (r_cmp (q_nin C.un) bl_nin (r_nm (C.nm rfl (by decide))) (r_ix C (r_nm (C.nm rfl (by decide))) r_int)) .nil)) (s_one (s_raise C A (C.gl 0 rfl) 2 rfl)) s_nil))
theorem p_check_known {K : PySem.W.Frag} (F : ∃ fd, FunD K dd_check_known.name dd_check_known.qual dd_check_known.params dd_check_known.body dd_check_known.scope [] [] (He.fAd K dd_check_known.at_) fd) : Pkg tb K dd_check_known ["net", "name"] ["net", "name"] d_check_known [1, 0] ["NotThere"] ["net", "name"] where
  fn := by
    obtain ⟨fd, F⟩ := F
    exact ⟨fd, F, F.bindsN fun _ _ _ _ _ _ us hl => match us, hl with | [_, _], _ => rfl⟩
  sc := ⟨rfl, rfl, rfl, by decide +kernel, rfl, by decide +kernel, by decide +kernel⟩
  np := rfl
  ns := rfl
  le := by decide
  vis := by kernel_rfl
  gls := by kernel_rfl
  loc := by kernel_rfl
  body := fun C A hp hfr => b_check_known C A hp hfr
def e_sources_of_1 : E := .lcomp false [2, 3, 4] (.pl 2 []) [.mk (.tup [(.nm 2), (.nm 3), (.nm 4)]) (.seq (.prim .idx [(.pl 0 []), (.cst (.int 2))])) [(.prim .eq [(.pl 3 []), (.pl 1 [])])]]
theorem e_sources_of_1_x {g : G} : (den g e_sources_of_1).p = true ∧ (den g e_sources_of_1).k = .plain ∧ (∀ fl S, (den g e_sources_of_1).o fl S = ((den g e_sources_of_1).v S).frz) ∧ e_sources_of_1.pure = true ∧ e_sources_of_1.isTup = false ∧ ∀ S, (den g e_sources_of_1).t S = ((den g e_sources_of_1).v S).frz.bind fun d S1 => .opt S1 d.truth := ⟨rfl, rfl, fun _ _ => rfl, rfl, rfl, fun _ => rfl⟩
def d_sources_of : Def := ⟨2, 5, [], (.seq (.ex (.call "check_net" [(.pl 0 [])])) (.seq (.ex (.call "check_known" [(.pl 0 []), (.pl 1 [])])) (.ret (.prim .tuple [e_sources_of_1]))))⟩
def dd_sources_of : He.DefD := ⟨("sources_of", none), "sources_of", "sources_of", defArgs (top 30), defBody (top 30), defScope (top 30), [], []⟩
theorem b_sources_of {X : Cx} {W : WX} {n : Nat} {g : G} (C : Cxt X W ["net", "name", "one", "other", "_"] dd_sources_of.scope [0, 1] ["check_net", "check_known", "tuple"] ["net", "name"] n) (A : Al tb X.prog X.w X.K X.mg X.base n g) (hp : PassesOwn (model X.prog X.w) X.A X.env X.xe) (hfr : X.stack = X.env :: X.outer ∧ X.env.frame = some X.env.locals) : StsOk X W [] dd_sources_of.body (dS g [] d_sources_of.body) :=
  (s_cons (s_ex (r_call C A (C.gl 0 rfl) 7 rfl (w_val (r_nm (C.nm rfl (by decide))) w_nil))) (s_cons (s_ex (r_call C A (C.gl 1 rfl) 12 rfl (w_val (r_nm (C.nm rfl (by decide))) (w_val (r_nm (C.nm rfl (by decide))) w_nil)))) (s_one (s_ret (r_t1 C A (C.gl 2 rfl) 7 rfl q_tuple boot_tuple (r_lcomp (gt := gTup X.K 3 (gCons (gName 2) (gCons (gName 3) (gCons (gName 4) gNil)))) C [("one", 2), ("other", 3), ("_", 4)] [2, 3, 4, 1] [] (by kernel_rfl) (by kernel_rfl) (by kernel_rfl) (by kernel_rfl) (by kernel_rfl) (i_seq (r_ix C (r_nm (C.nm rfl (by decide))) r_int) (fun _ => rfl)) (fun _ => ⟨rfl, rfl, rfl⟩) (fun _ _ _ _ _ C1 => ⟨(t_tup C1 (t_cons (t_nm (x := "one") C1 rfl 0 rfl) (t_cons (t_nm (x := "other") C1 rfl 1 rfl) (t_cons (t_nm (x := "_") C1 rfl 2 rfl) t_nil)))), (ts1 (r_cmp (q_eq C1.un) bl_eq (r_nm (C1.nm rfl (by decide))) (r_nm (C1.nm rfl (by decide))))), (r_nm (C1.nm rfl (by decide)))⟩)))))))
theorem p_sources_of {K : PySem.W.Frag} (F : ∃ fd, FunD K dd_sources_of.name dd_sources_of.qual dd_sources_of.params dd_sources_of.body dd_sources_of.scope [] [] (He.fAd K dd_sources_of.at_) fd) : Pkg tb K dd_sources_of ["net", "name"] ["net", "name", "one", "other", "_"] d_sources_of [0, 1] ["check_net", "check_known", "tuple"] ["net", "name"] where
  fn := by
    obtain ⟨fd, F⟩ := F
    exact ⟨fd, F, F.bindsN fun _ _ _ _ _ _ us hl => match us, hl with | [_, _], _ => rfl⟩
  sc := ⟨rfl, rfl, rfl, by decide +kernel, rfl, by decide +kernel, by decide +kernel⟩
  np := rfl
  ns := rfl
  le := by decide
  vis := by kernel_rfl
  gls := by kernel_rfl
  loc := by kernel_rfl
  body := fun C A hp hfr => b_sources_of C A hp hfr
def e_goals_of_1 : E := .lcomp false [2, 3, 4] (.pl 3 []) [.mk (.tup [(.nm 2), (.nm 3), (.nm 4)]) (.seq (.prim .idx [(.pl 0 []), (.cst (.int 2))])) [(.prim .eq [(.pl 2 []), (.pl 1 [])])]]
theorem e_goals_of_1_x {g : G} : (den g e_goals_of_1).p = true ∧ (den g e_goals_of_1).k = .plain ∧ (∀ fl S, (den g e_goals_of_1).o fl S = ((den g e_goals_of_1).v S).frz) ∧ e_goals_of_1.pure = true ∧ e_goals_of_1.isTup = false ∧ ∀ S, (den g e_goals_of_1).t S = ((den g e_goals_of_1).v S).frz.bind fun d S1 => .opt S1 d.truth := ⟨rfl, rfl, fun _ _ => rfl, rfl, rfl, fun _ => rfl⟩
def d_goals_of : Def := ⟨2, 5, [], (.seq (.ex (.call "check_net" [(.pl 0 [])])) (.seq (.ex (.call "check_known" [(.pl 0 []), (.pl 1 [])])) (.ret (.prim .tuple [e_goals_of_1]))))⟩
def dd_goals_of : He.DefD := ⟨("goals_of", none), "goals_of", "goals_of", defArgs (top 31), defBody (top 31), defScope (top 31), [], []⟩
theorem b_goals_of {X : Cx} {W : WX} {n : Nat} {g : G} (C : Cxt X W ["net", "name", "one", "other", "_"] dd_goals_of.scope [0, 1] ["check_net", "check_known", "tuple"] ["net", "name"] n) (A : Al tb X.prog X.w X.K X.mg X.base n g) (hp : PassesOwn (model X.prog X.w) X.A X.env X.xe) (hfr : X.stack = X.env :: X.outer ∧ X.env.frame = some X.env.locals) : StsOk X W [] dd_goals_of.body (dS g [] d_goals_of.body) :=
  (s_cons (s_ex (r_call C A (C.gl 0 rfl) 7 rfl (w_val (r_nm (C.nm rfl (by decide))) w_nil))) (s_cons (s_ex (r_call C A (C.gl 1 rfl) 12 rfl (w_val (r_nm (C.nm rfl (by decide))) (w_val (r_nm (C.nm rfl (by decide))) w_nil)))) (s_one (s_ret (r_t1 C A (C.gl 2 rfl) 7 rfl q_tuple boot_tuple (r_lcomp (gt := gTup X.K 3 (gCons (gName 2) (gCons (gName 3) (gCons (gName 4) gNil)))) C [("one", 2), ("other", 3), ("_", 4)] [2, 3, 4, 1] [] (by kernel_rfl) (by kernel_rfl) (by kernel_rfl) (by kernel_rfl) (by kernel_rfl) (i_seq (r_ix C (r_nm (C.nm rfl (by decide))) r_int) (fun _ => rfl)) (fun _ => ⟨rfl, rfl, rfl⟩) (fun _ _ _ _ _ C1 => ⟨(t_tup C1 (t_cons (t_nm (x := "one") C1 rfl 0 rfl) (t_cons (t_nm (x := "other") C1 rfl 1 rfl) (t_cons (t_nm (x := "_") C1 rfl 2 rfl) t_nil)))), (ts1 (r_cmp (q_eq C1.un) bl_eq (r_nm (C1.nm rfl (by decide))) (r_nm (C1.nm rfl (by decide))))), (r_nm (C1.nm rfl (by decide)))⟩)))))))
theorem p_goals_of {K : PySem.W.Frag} (F : ∃ fd, FunD K dd_goals_of.name dd_goals_of.qual dd_goals_of.params dd_goals_of.body dd_goals_of.scope [] [] (He.fAd K dd_goals_of.at_) fd) : Pkg tb K dd_goals_of ["net", "name"] ["net", "name", "one", "other", "_"] d_goals_of [0, 1] ["check_net", "check_known", "tuple"] ["net", "name"] where
  fn := by
    obtain ⟨fd, F⟩ := F
    exact ⟨fd, F, F.bindsN fun _ _ _ _ _ _ us hl => match us, hl with | [_, _], _ => rfl⟩
  sc := ⟨rfl, rfl, rfl, by decide +kernel, rfl, by decide +kernel, by decide +kernel⟩
  np := rfl
  ns := rfl
  le := by decide
  vis := by kernel_rfl
  gls := by kernel_rfl
  loc := by kernel_rfl
  body := fun C A hp hfr => b_goals_of C A hp hfr
def b_law_draws_1 : Tk.S := (.ite (.prim .gt [(.pl 4 []), (.cst (.int 0))]) (.seq (.ex (.mut .append false 1 [] [(.prim .mod [(.prim .int [(.pl 4 [])]), (.cst (.int 997))])])) (.asg (.nm 4) (.prim .fdiv [(.pl 4 []), (.cst (.int 997))]))) .skip)
def l_law_draws_1 : Tk.S := .for_ [5] (.nm 5) (.range [(.cst (.int 60))]) b_law_draws_1
def b_law_draws_2 : Tk.S := (.seq (.asg (.nm 4) (.prim .abs [(.prim .int [(.pl 3 [])])])) (.seq (.asg (.nm 2) (.prim .mod [(.prim .int [(.prim .add [(.prim .add [(.prim .mul [(.pl 2 []), (.cst (.int 48271))]), (.pl 4 [])]), (.cst (.int 1))])]), (.cst (.int 2147483647))])) (.seq (.ite (.prim .lt [(.pl 4 []), (.prim .pow [(.cst (.int 10)), (.cst (.int 18))])]) (.seq (.ex (.mut .append false 1 [] [(.prim .mod [(.prim .int [(.pl 4 [])]), (.cst (.int 997))])])) (.seq (.ex (.mut .append false 1 [] [(.prim .mod [(.prim .int [(.pl 2 [])]), (.cst (.int 65521))])])) (.asg (.nm 4) (.cst (.int 0))))) .skip) l_law_draws_1)))
def l_law_draws_2 : Tk.S := .for_ [3, 4, 5] (.nm 3) (.seq (.pl 0 [])) b_law_draws_2
def b_law_draws_3 : Tk.S := (.seq (.asg (.nm 2) (.prim .mod [(.prim .int [(.prim .add [(.prim .mul [(.pl 2 []), (.cst (.int 48271))]), (.cst (.int 69621))])]), (.cst (.int 2147483647))])) (.ex (.mut .append false 1 [] [(.prim .fdiv [(.pl 2 []), (.cst (.int 5))])])))
def l_law_draws_3 : Tk.S := .for_ [5] (.nm 5) (.range [(.cst (.int 900))]) b_law_draws_3
def d_law_draws : Def := ⟨1, 6, [], (.seq (.asg (.nm 1) (.lst false [])) (.seq (.asg (.nm 2) (.cst (.int 11))) (.seq l_law_draws_2 (.seq l_law_draws_3 (.ret (.prim .lrev [(.pl 1 [])]))))))⟩
def dd_law_draws : He.DefD := ⟨("_law_draws", none), "_law_draws", "_law_draws", defArgs (top 33), defBody (top 33), defScope (top 33), [], []⟩
theorem b_law_draws {X : Cx} {W : WX} {n : Nat} {g : G} (C : Cxt X W ["script", "draws", "seed", "cell", "number", "k"] dd_law_draws.scope [0, 3, 2, 4, 1] ["int", "abs", "range", "list", "reversed"] ["script", "draws", "seed", "cell", "number", "k"] n) (A : Al tb X.prog X.w X.K X.mg X.base n g) (hp : PassesOwn (model X.prog X.w) X.A X.env X.xe) (hfr : X.stack = X.env :: X.outer ∧ X.env.frame = some X.env.locals) : StsOk X W [] dd_law_draws.body (dS g [] d_law_draws.body) :=
  (s_cons (s_asg C rfl 1 rfl (r_lst w_nil) rfl) (s_cons (s_asg C rfl 2 rfl r_int rfl) (s_cons (s_for C hp (i_seq (r_nm (C.nm rfl (by decide))) (fun h => Bool.noConfusion (show false = true from h))) (t_nm (x := "cell") C rfl 3 rfl) (s_cons (s_asg C rfl 4 rfl (r_b1 C A (C.gl 1 rfl) 11 rfl q_abs boot_abs (r_t1 C A (C.gl 0 rfl) 1 rfl q_int boot_int (r_nm (C.nm rfl (by decide))))) rfl) (s_cons (s_asg C rfl 2 rfl (r_bin q_mod (r_t1 C A (C.gl 0 rfl) 1 rfl q_int boot_int (r_bin q_add (r_bin q_add (r_bin q_mul (r_nm (C.nm rfl (by decide))) r_int) (r_nm (C.nm rfl (by decide)))) r_int)) r_int) rfl) (s_cons (s_if (r_cmp (q_lt C.un) bl_lt (r_nm (C.nm rfl (by decide))) (r_bin q_pow r_int r_int)) (s_cons (s_ex (r_app (C.nm rfl (by decide)) (w_val (r_bin q_mod (r_t1 C A (C.gl 0 rfl) 1 rfl q_int boot_int (r_nm (C.nm rfl (by decide)))) r_int) w_nil))) (s_cons (s_ex (r_app (C.nm rfl (by decide)) (w_val (r_bin q_mod (r_t1 C A (C.gl 0 rfl) 1 rfl q_int boot_int (r_nm (C.nm rfl (by decide)))) r_int) w_nil))) (s_one (s_asg C rfl 4 rfl r_int rfl)))) s_nil) (s_one (s_for C hp (i_range C A (C.gl 2 rfl) 12 rfl r_int) (t_nm (x := "k") C rfl 5 rfl) (s_one (s_if (r_cmp (q_gt C.un) bl_gt (r_nm (C.nm rfl (by decide))) r_int) (s_cons (s_ex (r_app (C.nm rfl (by decide)) (w_val (r_bin q_mod (r_t1 C A (C.gl 0 rfl) 1 rfl q_int boot_int (r_nm (C.nm rfl (by decide)))) r_int) w_nil))) (s_one (s_asg C rfl 4 rfl (r_bin q_fdiv (r_nm (C.nm rfl (by decide))) r_int) rfl))) s_nil)))))))) (s_cons (s_for C hp (i_range C A (C.gl 2 rfl) 12 rfl r_int) (t_nm (x := "k") C rfl 5 rfl) (s_cons (s_asg C rfl 2 rfl (r_bin q_mod (r_t1 C A (C.gl 0 rfl) 1 rfl q_int boot_int (r_bin q_add (r_bin q_mul (r_nm (C.nm rfl (by decide))) r_int) r_int)) r_int) rfl) (s_one (s_ex (r_app (C.nm rfl (by decide)) (w_val (r_bin q_fdiv (r_nm (C.nm rfl (by decide))) r_int) w_nil)))))) (s_one (s_ret (r_lrev C A (C.gl 3 rfl) 13 rfl (C.gl 4 rfl) 14 rfl (r_nm (C.nm rfl (by decide))))))))))
theorem p_law_draws {K : PySem.W.Frag} (F : ∃ fd, FunD K dd_law_draws.name dd_law_draws.qual dd_law_draws.params dd_law_draws.body dd_law_draws.scope [] [] (He.fAd K dd_law_draws.at_) fd) : Pkg tb K dd_law_draws ["script"] ["script", "draws", "seed", "cell", "number", "k"] d_law_draws [0, 3, 2, 4, 1] ["int", "abs", "range", "list", "reversed"] ["script", "draws", "seed", "cell", "number", "k"] where
  fn := by
    obtain ⟨fd, F⟩ := F
    exact ⟨fd, F, F.bindsN fun _ _ _ _ _ _ us hl => match us, hl with | [_], _ => rfl⟩
  sc := ⟨rfl, rfl, rfl, by decide +kernel, rfl, by decide +kernel, by decide +kernel⟩
  np := rfl
  ns := rfl
  le := by decide
  vis := by kernel_rfl
  gls := by kernel_rfl
  loc := by kernel_rfl
  body := fun C A hp hfr => b_law_draws C A hp hfr
def d_law_take : Def := ⟨2, 2, [0], (.seq (.ite (.prim .eq [(.prim .len [(.pl 0 [])]), (.cst (.int 0))]) (.ret (.cst (.int 0))) .skip) (.ret (.prim .mod [(.prim .int [(.mut .pop0 false 0 [] [])]), (.pl 1 [])])))⟩
def dd_law_take : He.DefD := ⟨("_law_take", none), "_law_take", "_law_take", defArgs (top 34), defBody (top 34), defScope (top 34), [], []⟩
theorem b_law_take {X : Cx} {W : WX} {n : Nat} {g : G} (C : Cxt X W ["draws", "bound"] dd_law_take.scope [0, 1] ["len", "int"] ["draws", "bound"] n) (A : Al tb X.prog X.w X.K X.mg X.base n g) (hp : PassesOwn (model X.prog X.w) X.A X.env X.xe) (hfr : X.stack = X.env :: X.outer ∧ X.env.frame = some X.env.locals) : StsOk X W [0] dd_law_take.body (dS g [0] d_law_take.body) :=
  (s_cons (s_if (r_cmp (q_eq C.un) bl_eq (r_b1 C A (C.gl 0 rfl) 6 rfl q_len boot_len (r_nm (C.nm rfl (by decide)))) r_int) (s_one (s_ret r_int)) s_nil) (s_one (s_ret (r_bin q_mod (r_t1 C A (C.gl 1 rfl) 1 rfl q_int boot_int (r_pop (C.nm rfl (by decide)))) (r_nm (C.nm rfl (by decide)))))))
theorem p_law_take {K : PySem.W.Frag} (F : ∃ fd, FunD K dd_law_take.name dd_law_take.qual dd_law_take.params dd_law_take.body dd_law_take.scope [] [] (He.fAd K dd_law_take.at_) fd) : Pkg tb K dd_law_take ["draws", "bound"] ["draws", "bound"] d_law_take [0, 1] ["len", "int"] ["draws", "bound"] where
  fn := by
    obtain ⟨fd, F⟩ := F
    exact ⟨fd, F, F.bindsN fun _ _ _ _ _ _ us hl => match us, hl with | [_, _], _ => rfl⟩
  sc := ⟨rfl, rfl, rfl, by decide +kernel, rfl, by decide +kernel, by decide +kernel⟩
  np := rfl
  ns := rfl
  le := by decide
  vis := by kernel_rfl
  gls := by kernel_rfl
  loc := by kernel_rfl
  body := fun C A hp hfr => b_law_take C A hp hfr
def d_law_pick : Def := ⟨2, 2, [0], (.ret (.prim .idx [(.pl 1 []), (.call "_law_take" [(.bor 0 []), (.prim .len [(.pl 1 [])])])]))⟩
def dd_law_pick : He.DefD := ⟨("_law_pick", none), "_law_pick", "_law_pick", defArgs (top 35), defBody (top 35), defScope (top 35), [], []⟩
theorem b_law_pick {X : Cx} {W : WX} {n : Nat} {g : G} (C : Cxt X W ["draws", "some"] dd_law_pick.scope [1, 0] ["len", "_law_take"] ["draws", "some"] n) (A : Al tb X.prog X.w X.K X.mg X.base n g) (hp : PassesOwn (model X.prog X.w) X.A X.env X.xe) (hfr : X.stack = X.env :: X.outer ∧ X.env.frame = some X.env.locals) : StsOk X W [0] dd_law_pick.body (dS g [0] d_law_pick.body) :=
  (s_one (s_ret (r_ix C (r_nm (C.nm rfl (by decide))) (r_call C A (C.gl 1 rfl) 13 rfl (w_bor (C.nm rfl (by decide)) (w_val (r_b1 C A (C.gl 0 rfl) 6 rfl q_len boot_len (r_nm (C.nm rfl (by decide)))) w_nil))))))
theorem p_law_pick {K : PySem.W.Frag} (F : ∃ fd, FunD K dd_law_pick.name dd_law_pick.qual dd_law_pick.params dd_law_pick.body dd_law_pick.scope [] [] (He.fAd K dd_law_pick.at_) fd) : Pkg tb K dd_law_pick ["draws", "some"] ["draws", "some"] d_law_pick [1, 0] ["len", "_law_take"] ["draws", "some"] where
  fn := by
    obtain ⟨fd, F⟩ := F
    exact ⟨fd, F, F.bindsN fun _ _ _ _ _ _ us hl => match us, hl with | [_, _], _ => rfl⟩
  sc := ⟨rfl, rfl, rfl, by decide +kernel, rfl, by decide +kernel, by decide +kernel⟩
  np := rfl
  ns := rfl
  le := by decide
  vis := by kernel_rfl
  gls := by kernel_rfl
  loc := by kernel_rfl
  body := fun C A hp hfr => b_law_pick C A hp hfr
def b_law_same_1 : Tk.S := (.ite (.not_ (.call "_law_same" [(.prim .idx [(.pl 0 []), (.pl 2 [])]), (.prim .idx [(.pl 1 []), (.pl 2 [])])])) (.ret (.cst (.bl false))) .skip)
def l_law_same_1 : Tk.S := .for_ [2] (.nm 2) (.range [(.prim .len [(.pl 1 [])])]) b_law_same_1
def e_law_same_1 : E := .lcomp false [3] (.pl 3 []) [.mk (.nm 3) (.seq (.pl 1 [])) [(.or_ [(.prim .nin [(.pl 3 []), (.pl 0 [])]), (.not_ (.call "_law_same" [(.prim .idx [(.pl 0 []), (.pl 3 [])]), (.prim .idx [(.pl 1 []), (.pl 3 [])])]))])]]
theorem e_law_same_1_x {g : G} : (den g e_law_same_1).p = false ∧ (den g e_law_same_1).k = .plain ∧ (∀ fl S, (den g e_law_same_1).o fl S = ((den g e_law_same_1).v S).frz) ∧ e_law_same_1.pure = false ∧ e_law_same_1.isTup = false ∧ ∀ S, (den g e_law_same_1).t S = ((den g e_law_same_1).v S).frz.bind fun d S1 => .opt S1 d.truth := ⟨rfl, rfl, fun _ _ => rfl, rfl, rfl, fun _ => rfl⟩
def d_law_same : Def := ⟨2, 4, [], (.seq (.ite (.prim .isN [(.pl 1 [])]) (.ret (.prim .isN [(.pl 0 [])])) .skip) (.seq (.ite (.or_ [(.prim (.isinst ["tuple"]) [(.pl 1 [])]), (.prim (.isinst ["list"]) [(.pl 1 [])])]) (.seq (.ite (.or_ [(.prim .ne [(.prim (.isinst ["tuple"]) [(.pl 1 [])]), (.prim (.isinst ["tuple"]) [(.pl 0 [])])]), (.prim .ne [(.prim (.isinst ["list"]) [(.pl 1 [])]), (.prim (.isinst ["list"]) [(.pl 0 [])])])]) (.ret (.cst (.bl false))) .skip) (.seq (.ite (.prim .ne [(.prim .len [(.pl 0 [])]), (.prim .len [(.pl 1 [])])]) (.ret (.cst (.bl false))) .skip) (.seq l_law_same_1 (.ret (.cst (.bl true)))))) .skip) (.seq (.ite (.prim (.isinst ["dict"]) [(.pl 1 [])]) (.seq (.ite (.or_ [(.not_ (.prim (.isinst ["dict"]) [(.pl 0 [])])), (.prim .ne [(.prim .len [(.pl 0 [])]), (.prim .len [(.pl 1 [])])])]) (.ret (.cst (.bl false))) .skip) (.ret (.prim .eq [e_law_same_1, (.lst false [])]))) .skip) (.seq (.ite (.prim .ne [(.prim (.isinst ["bool"]) [(.pl 1 [])]), (.prim (.isinst ["bool"]) [(.pl 0 [])])]) (.ret (.cst (.bl false))) .skip) (.seq (.ite (.or_ [(.prim .ne [(.prim (.isinst ["int"]) [(.pl 1 [])]), (.prim (.isinst ["int"]) [(.pl 0 [])])]), (.prim .ne [(.prim (.isinst ["str"]) [(.pl 1 [])]), (.prim (.isinst ["str"]) [(.pl 0 [])])])]) (.ret (.cst (.bl false))) .skip) (.ret (.prim .eq [(.pl 0 []), (.pl 1 [])])))))))⟩
def dd_law_same : He.DefD := ⟨("_law_same", none), "_law_same", "_law_same", defArgs (top 36), defBody (top 36), defScope (top 36), [], []⟩
theorem b_law_same {X : Cx} {W : WX} {n : Nat} {g : G} (C : Cxt X W ["actual", "due", "k", "key"] dd_law_same.scope [1, 0, 2] ["isinstance", "tuple", "list", "len", "range", "_law_same", "dict", "bool", "int", "str"] ["actual", "due", "k"] n) (A : Al tb X.prog X.w X.K X.mg X.base n g) (hp : PassesOwn (model X.prog X.w) X.A X.env X.xe) (hfr : X.stack = X.env :: X.outer ∧ X.env.frame = some X.env.locals) : StsOk X W [] dd_law_same.body (dS g [] d_law_same.body) :=
  (s_cons (s_if (r_isN (r_nm (C.nm rfl (by decide)))) (s_one (s_ret (r_isN (r_nm (C.nm rfl (by decide)))))) s_nil) (s_cons (s_if (r_or (r_isi C A (C.gl 0 rfl) 0 rfl (C.gl 1 rfl) 7 rfl rfl boot_tuple (r_nm (C.nm rfl (by decide)))) (.cons (r_isi C A (C.gl 0 rfl) 0 rfl (C.gl 2 rfl) 13 rfl rfl boot_list (r_nm (C.nm rfl (by decide)))) .nil)) (s_cons (s_if (r_or (r_cmp (q_ne C.un) bl_ne (r_isi C A (C.gl 0 rfl) 0 rfl (C.gl 1 rfl) 7 rfl rfl boot_tuple (r_nm (C.nm rfl (by decide)))) (r_isi C A (C.gl 0 rfl) 0 rfl (C.gl 1 rfl) 7 rfl rfl boot_tuple (r_nm (C.nm rfl (by decide))))) (.cons (r_cmp (q_ne C.un) bl_ne (r_isi C A (C.gl 0 rfl) 0 rfl (C.gl 2 rfl) 13 rfl rfl boot_list (r_nm (C.nm rfl (by decide)))) (r_isi C A (C.gl 0 rfl) 0 rfl (C.gl 2 rfl) 13 rfl rfl boot_list (r_nm (C.nm rfl (by decide))))) .nil)) (s_one (s_ret r_bl)) s_nil) (s_cons (s_if (r_cmp (q_ne C.un) bl_ne (r_b1 C A (C.gl 3 rfl) 6 rfl q_len boot_len (r_nm (C.nm rfl (by decide)))) (r_b1 C A (C.gl 3 rfl) 6 rfl q_len boot_len (r_nm (C.nm rfl (by decide))))) (s_one (s_ret r_bl)) s_nil) (s_cons (s_for C hp (i_range C A (C.gl 4 rfl) 12 rfl (r_b1 C A (C.gl 3 rfl) 6 rfl q_len boot_len (r_nm (C.nm rfl (by decide))))) (t_nm (x := "k") C rfl 2 rfl) (s_one (s_if (r_not (r_call C A (C.gl 5 rfl) 14 rfl (w_val (r_ix C (r_nm (C.nm rfl (by decide))) (r_nm (C.nm rfl (by decide)))) (w_val (r_ix C (r_nm (C.nm rfl (by decide))) (r_nm (C.nm rfl (by decide)))) w_nil)))) (s_one (s_ret r_bl)) s_nil))) (s_one (s_ret r_bl))))) s_nil) (s_cons (s_if (r_isi C A (C.gl 0 rfl) 0 rfl (C.gl 6 rfl) 15 rfl rfl boot_dict (r_nm (C.nm rfl (by decide)))) (s_cons (s_if (r_or (r_not (r_isi C A (C.gl 0 rfl) 0 rfl (C.gl 6 rfl) 15 rfl rfl boot_dict (r_nm (C.nm rfl (by decide))))) (.cons (r_cmp (q_ne C.un) bl_ne (r_b1 C A (C.gl 3 rfl) 6 rfl q_len boot_len (r_nm (C.nm rfl (by decide)))) (r_b1 C A (C.gl 3 rfl) 6 rfl q_len boot_len (r_nm (C.nm rfl (by decide))))) .nil)) (s_one (s_ret r_bl)) s_nil) (s_one (s_ret (r_cmp (q_eq C.un) bl_eq (r_lcomp (gt := gName 3) C [("key", 3)] [3, 0, 1] ["_law_same"] (by kernel_rfl) (by kernel_rfl) (by kernel_rfl) (by kernel_rfl) (by kernel_rfl) (i_seq (r_nm (C.nm rfl (by decide))) (fun h => Bool.noConfusion (show false = true from h))) (fun h => Bool.noConfusion (show false = true from h)) (fun _ _ _ _ _ C1 => ⟨(t_nm (x := "key") C1 rfl 0 rfl), (ts1 (r_or (r_cmp (q_nin C1.un) bl_nin (r_nm (C1.nm rfl (by decide))) (r_nm (C1.nm rfl (by decide)))) (.cons (r_not (r_call C1 A (C1.gl 0 rfl) 14 rfl (w_val (r_ix C1 (r_nm (C1.nm rfl (by decide))) (r_nm (C1.nm rfl (by decide)))) (w_val (r_ix C1 (r_nm (C1.nm rfl (by decide))) (r_nm (C1.nm rfl (by decide)))) w_nil)))) .nil))), (r_nm (C1.nm rfl (by decide)))⟩)) (r_lst w_nil))))) s_nil) (s_cons (s_if (r_cmp (q_ne C.un) bl_ne (r_isi C A (C.gl 0 rfl) 0 rfl (C.gl 7 rfl) 2 rfl rfl boot_bool (r_nm (C.nm rfl (by decide)))) (r_isi C A (C.gl 0 rfl) 0 rfl (C.gl 7 rfl) 2 rfl rfl boot_bool (r_nm (C.nm rfl (by decide))))) (s_one (s_ret r_bl)) s_nil) (s_cons (s_if (r_or (r_cmp (q_ne C.un) bl_ne (r_isi C A (C.gl 0 rfl) 0 rfl (C.gl 8 rfl) 1 rfl rfl boot_int (r_nm (C.nm rfl (by decide)))) (r_isi C A (C.gl 0 rfl) 0 rfl (C.gl 8 rfl) 1 rfl rfl boot_int (r_nm (C.nm rfl (by decide))))) (.cons (r_cmp (q_ne C.un) bl_ne (r_isi C A (C.gl 0 rfl) 0 rfl (C.gl 9 rfl) 5 rfl rfl boot_str (r_nm (C.nm rfl (by decide)))) (r_isi C A (C.gl 0 rfl) 0 rfl (C.gl 9 rfl) 5 rfl rfl boot_str (r_nm (C.nm rfl (by decide))))) .nil)) (s_one (s_ret r_bl)) s_nil) (s_one (s_ret (r_cmp (q_eq C.un) bl_eq (r_nm (C.nm rfl (by decide))) (r_nm (C.nm rfl (by decide)))))))))))
theorem p_law_same {K : PySem.W.Frag} (F : ∃ fd, FunD K dd_law_same.name dd_law_same.qual dd_law_same.params dd_law_same.body dd_law_same.scope [] [] (He.fAd K dd_law_same.at_) fd) : Pkg tb K dd_law_same ["actual", "due"] ["actual", "due", "k", "key"] d_law_same [1, 0, 2] ["isinstance", "tuple", "list", "len", "range", "_law_same", "dict", "bool", "int", "str"] ["actual", "due", "k"] where
  fn := by
    obtain ⟨fd, F⟩ := F
    exact ⟨fd, F, F.bindsN fun _ _ _ _ _ _ us hl => match us, hl with | [_, _], _ => rfl⟩
  sc := ⟨rfl, rfl, rfl, by decide +kernel, rfl, by decide +kernel, by decide +kernel⟩
  np := rfl
  ns := rfl
  le := by decide
  vis := by kernel_rfl
  gls := by kernel_rfl
  loc := by kernel_rfl
  body := fun C A hp hfr => b_law_same C A hp hfr
def b_law_names_of_1 : Tk.S := (.ite (.prim .gt [(.prim .len [(.pl 3 [])]), (.pl 2 [])]) (.ex (.mut .popAt false 3 [] [(.call "_law_take" [(.bor 0 []), (.prim .len [(.pl 3 [])])])])) .skip)
def l_law_names_of_1 : Tk.S := .for_ [4] (.nm 4) (.range [(.prim .len [(.pl 1 [])])]) b_law_names_of_1
def d_law_names_of : Def := ⟨3, 5, [0], (.seq (.asg (.nm 3) (.prim .list [(.pl 1 [])])) (.seq l_law_names_of_1 (.ret (.prim .tuple [(.pl 3 [])]))))⟩
def dd_law_names_of : He.DefD := ⟨("_law_names_of", none), "_law_names_of", "_law_names_of", defArgs (top 38), defBody (top 38), defScope (top 38), [], []⟩
theorem b_law_names_of {X : Cx} {W : WX} {n : Nat} {g : G} (C : Cxt X W ["draws", "some", "many", "found", "turn"] dd_law_names_of.scope [1, 3, 2, 0] ["list", "len", "range", "_law_take", "tuple"] ["draws", "some", "many", "found", "turn"] n) (A : Al tb X.prog X.w X.K X.mg X.base n g) (hp : PassesOwn (model X.prog X.w) X.A X.env X.xe) (hfr : X.stack = X.env :: X.outer ∧ X.env.frame = some X.env.locals) : StsOk X W [0] dd_law_names_of.body (dS g [0] d_law_names_of.body) :=
  (s_cons (s_asg C rfl 3 rfl (r_t1 C A (C.gl 0 rfl) 13 rfl q_list boot_list (r_nm (C.nm rfl (by decide)))) rfl) (s_cons (s_for C hp (i_range C A (C.gl 2 rfl) 12 rfl (r_b1 C A (C.gl 1 rfl) 6 rfl q_len boot_len (r_nm (C.nm rfl (by decide))))) (t_nm (x := "turn") C rfl 4 rfl) (s_one (s_if (r_cmp (q_gt C.un) bl_gt (r_b1 C A (C.gl 1 rfl) 6 rfl q_len boot_len (r_nm (C.nm rfl (by decide)))) (r_nm (C.nm rfl (by decide)))) (s_one (s_ex (r_popAt (C.nm rfl (by decide)) (w_val (r_call C A (C.gl 3 rfl) 13 rfl (w_bor (C.nm rfl (by decide)) (w_val (r_b1 C A (C.gl 1 rfl) 6 rfl q_len boot_len (r_nm (C.nm rfl (by decide)))) w_nil))) w_nil)))) s_nil))) (s_one (s_ret (r_t1 C A (C.gl 4 rfl) 7 rfl q_tuple boot_tuple (r_nm (C.nm rfl (by decide))))))))
theorem p_law_names_of {K : PySem.W.Frag} (F : ∃ fd, FunD K dd_law_names_of.name dd_law_names_of.qual dd_law_names_of.params dd_law_names_of.body dd_law_names_of.scope [] [] (He.fAd K dd_law_names_of.at_) fd) : Pkg tb K dd_law_names_of ["draws", "some", "many"] ["draws", "some", "many", "found", "turn"] d_law_names_of [1, 3, 2, 0] ["list", "len", "range", "_law_take", "tuple"] ["draws", "some", "many", "found", "turn"] where
  fn := by
    obtain ⟨fd, F⟩ := F
    exact ⟨fd, F, F.bindsN fun _ _ _ _ _ _ us hl => match us, hl with | [_, _, _], _ => rfl⟩
  sc := ⟨rfl, rfl, rfl, by decide +kernel, rfl, by decide +kernel, by decide +kernel⟩
  np := rfl
  ns := rfl
  le := by decide
  vis := by kernel_rfl
  gls := by kernel_rfl
  loc := by kernel_rfl
  body := fun C A hp hfr => b_law_names_of C A hp hfr
def b_law_net_1 : Tk.S := (.seq (.ite (.prim .lt [(.call "_law_take" [(.bor 0 []), (.cst (.int 6))]), (.pl 6 [])]) (.ex (.mut .append false 5 [] [(.tup [(.pl 8 []), (.pl 9 []), (.call "_law_pick" [(.bor 0 []), (.pl 7 [])])])])) .skip) (.ite (.prim .lt [(.call "_law_take" [(.bor 0 []), (.cst (.int 6))]), (.pl 6 [])]) (.ex (.mut .append false 5 [] [(.tup [(.pl 9 []), (.pl 8 []), (.call "_law_pick" [(.bor 0 []), (.pl 7 [])])])])) .skip))
def l_law_net_1 : Tk.S := .for_ [9] (.nm 9) (.seq (.pl 4 [])) b_law_net_1
def b_law_net_2 : Tk.S := l_law_net_1
def l_law_net_2 : Tk.S := .for_ [8, 9] (.nm 8) (.seq (.pl 3 [])) b_law_net_2
def d_law_net : Def := ⟨3, 10, [0], (.seq (.asg (.nm 3) (.call "_law_names_of" [(.bor 0 []), (.lst false [(.cst (.str "a")), (.cst (.str "abcdefghijkl")), (.cst (.str "b1")), (.cst (.str "c")), (.cst (.str "free")), (.cst (.str "p")), (.cst (.str "p1")), (.cst (.str "q")), (.cst (.str "zz"))]), (.call "_law_take" [(.bor 0 []), (.prim .add [(.pl 1 []), (.cst (.int 1))])])])) (.seq (.asg (.nm 4) (.call "_law_names_of" [(.bor 0 []), (.lst false [(.cst (.str "d")), (.cst (.str "e2")), (.cst (.str "f")), (.cst (.str "go")), (.cst (.str "t")), (.cst (.str "t1")), (.cst (.str "u")), (.cst (.str "y9"))]), (.call "_law_take" [(.bor 0 []), (.prim .add [(.pl 2 []), (.cst (.int 1))])])])) (.seq (.asgN [5, 6] [(.lst false []), (.call "_law_pick" [(.bor 0 []), (.lst false [(.cst (.int 1)), (.cst (.int 2)), (.cst (.int 3))])])]) (.seq (.asg (.nm 7) (.call "_law_pick" [(.bor 0 []), (.lst false [(.lst false [(.cst (.int 1))]), (.lst false [(.cst (.int 1)), (.cst (.int 1)), (.cst (.int 1)), (.cst (.int 2))]), (.lst false [(.cst (.int 1)), (.cst (.int 2)), (.cst (.int 3)), (.cst (.int 9))])])])) (.seq l_law_net_2 (.ret (.tup [(.pl 3 []), (.pl 4 []), (.prim .tuple [(.prim .sorted [(.pl 5 [])])])])))))))⟩
def dd_law_net : He.DefD := ⟨("_law_net", none), "_law_net", "_law_net", defArgs (top 39), defBody (top 39), defScope (top 39), [], []⟩
theorem b_law_net {X : Cx} {W : WX} {n : Nat} {g : G} (C : Cxt X W ["draws", "many", "count", "places", "steps", "arcs", "thick", "much", "place", "step"] dd_law_net.scope [0, 1, 2, 3, 4, 6, 5, 8, 9, 7] ["_law_take", "_law_names_of", "_law_pick", "sorted", "tuple"] ["draws", "many", "count", "places", "steps", "arcs", "thick", "much", "place", "step"] n) (A : Al tb X.prog X.w X.K X.mg X.base n g) (hp : PassesOwn (model X.prog X.w) X.A X.env X.xe) (hfr : X.stack = X.env :: X.outer ∧ X.env.frame = some X.env.locals) : StsOk X W [0] dd_law_net.body (dS g [0] d_law_net.body) :=
  (s_cons (s_asg C rfl 3 rfl (r_call C A (C.gl 1 rfl) 15 rfl (w_bor (C.nm rfl (by decide)) (w_val (r_lst (w_val r_str (w_val r_str (w_val r_str (w_val r_str (w_val r_str (w_val r_str (w_val r_str (w_val r_str (w_val r_str w_nil)))))))))) (w_val (r_call C A (C.gl 0 rfl) 13 rfl (w_bor (C.nm rfl (by decide)) (w_val (r_bin q_add (r_nm (C.nm rfl (by decide))) r_int) w_nil))) w_nil)))) rfl) (s_cons (s_asg C rfl 4 rfl (r_call C A (C.gl 1 rfl) 15 rfl (w_bor (C.nm rfl (by decide)) (w_val (r_lst (w_val r_str (w_val r_str (w_val r_str (w_val r_str (w_val r_str (w_val r_str (w_val r_str (w_val r_str w_nil))))))))) (w_val (r_call C A (C.gl 0 rfl) 13 rfl (w_bor (C.nm rfl (by decide)) (w_val (r_bin q_add (r_nm (C.nm rfl (by decide))) r_int) w_nil))) w_nil)))) rfl) (s_cons (s_asg2 C (by kernel_rfl) rfl rfl (by decide) (by kernel_rfl) (by kernel_rfl) (by kernel_rfl) rfl (w_val (r_lst w_nil) (w_val (r_call C A (C.gl 2 rfl) 16 rfl (w_bor (C.nm rfl (by decide)) (w_val (r_lst (w_val r_int (w_val r_int (w_val r_int w_nil)))) w_nil))) w_nil))) (s_cons (s_asg C rfl 7 rfl (r_call C A (C.gl 2 rfl) 16 rfl (w_bor (C.nm rfl (by decide)) (w_val (r_lst (w_val (r_lst (w_val r_int w_nil)) (w_val (r_lst (w_val r_int (w_val r_int (w_val r_int (w_val r_int w_nil))))) (w_val (r_lst (w_val r_int (w_val r_int (w_val r_int (w_val r_int w_nil))))) w_nil)))) w_nil))) rfl) (s_cons (s_for C hp (i_seq (r_nm (C.nm rfl (by decide))) (fun h => Bool.noConfusion (show false = true from h))) (t_nm (x := "place") C rfl 8 rfl) (s_one (s_for C hp (i_seq (r_nm (C.nm rfl (by decide))) (fun h => Bool.noConfusion (show false = true from h))) (t_nm (x := "step") C rfl 9 rfl) (s_cons (s_if (r_cmp (q_lt C.un) bl_lt (r_call C A (C.gl 0 rfl) 13 rfl (w_bor (C.nm rfl (by decide)) (w_val r_int w_nil))) (r_nm (C.nm rfl (by decide)))) (s_one (s_ex (r_app (C.nm rfl (by decide)) (w_val (r_tup (w_val (r_nm (C.nm rfl (by decide))) (w_val (r_nm (C.nm rfl (by decide))) (w_val (r_call C A (C.gl 2 rfl) 16 rfl (w_bor (C.nm rfl (by decide)) (w_val (r_nm (C.nm rfl (by decide))) w_nil))) w_nil)))) w_nil)))) s_nil) (s_one (s_if (r_cmp (q_lt C.un) bl_lt (r_call C A (C.gl 0 rfl) 13 rfl (w_bor (C.nm rfl (by decide)) (w_val r_int w_nil))) (r_nm (C.nm rfl (by decide)))) (s_one (s_ex (r_app (C.nm rfl (by decide)) (w_val (r_tup (w_val (r_nm (C.nm rfl (by decide))) (w_val (r_nm (C.nm rfl (by decide))) (w_val (r_call C A (C.gl 2 rfl) 16 rfl (w_bor (C.nm rfl (by decide)) (w_val (r_nm (C.nm rfl (by decide))) w_nil))) w_nil)))) w_nil)))) s_nil)))))) (s_one (s_ret (r_tup (w_val (r_nm (C.nm rfl (by decide))) (w_val (r_nm (C.nm rfl (by decide))) (w_val (r_t1 C A (C.gl 4 rfl) 7 rfl q_tuple boot_tuple (r_b1 C A (C.gl 3 rfl) 10 rfl (q_sorted C.un) boot_sorted (r_nm (C.nm rfl (by decide))))) w_nil)))))))))))
theorem p_law_net {K : PySem.W.Frag} (F : ∃ fd, FunD K dd_law_net.name dd_law_net.qual dd_law_net.params dd_law_net.body dd_law_net.scope [] [] (He.fAd K dd_law_net.at_) fd) : Pkg tb K dd_law_net ["draws", "many", "count"] ["draws", "many", "count", "places", "steps", "arcs", "thick", "much", "place", "step"] d_law_net [0, 1, 2, 3, 4, 6, 5, 8, 9, 7] ["_law_take", "_law_names_of", "_law_pick", "sorted", "tuple"] ["draws", "many", "count", "places", "steps", "arcs", "thick", "much", "place", "step"] where
  fn := by
    obtain ⟨fd, F⟩ := F
    exact ⟨fd, F, F.bindsN fun _ _ _ _ _ _ us hl => match us, hl with | [_, _, _], _ => rfl⟩
  sc := ⟨rfl, rfl, rfl, by decide +kernel, rfl, by decide +kernel, by decide +kernel⟩
  np := rfl
  ns := rfl
  le := by decide
  vis := by kernel_rfl
  gls := by kernel_rfl
  loc := by kernel_rfl
  body := fun C A hp hfr => b_law_net C A hp hfr
def e_law_marking_1 : E := .lcomp false [2] (.call "_law_pick" [(.bor 0 []), (.lst false [(.cst (.int 0)), (.cst (.int 0)), (.cst (.int 1)), (.cst (.int 1)), (.cst (.int 2)), (.call "_law_take" [(.bor 0 []), (.cst (.int 12))])])]) [.mk (.nm 2) (.seq (.prim .idx [(.pl 1 []), (.cst (.int 0))])) []]
theorem e_law_marking_1_x {g : G} : (den g e_law_marking_1).p = false ∧ (den g e_law_marking_1).k = .plain ∧ (∀ fl S, (den g e_law_marking_1).o fl S = ((den g e_law_marking_1).v S).frz) ∧ e_law_marking_1.pure = false ∧ e_law_marking_1.isTup = false ∧ ∀ S, (den g e_law_marking_1).t S = ((den g e_law_marking_1).v S).frz.bind fun d S1 => .opt S1 d.truth := ⟨rfl, rfl, fun _ _ => rfl, rfl, rfl, fun _ => rfl⟩
def d_law_marking : Def := ⟨2, 3, [0], (.ret (.prim .tuple [e_law_marking_1]))⟩
def dd_law_marking : He.DefD := ⟨("_law_marking", none), "_law_marking", "_law_marking", defArgs (top 40), defBody (top 40), defScope (top 40), [], []⟩
theorem b_law_marking {X : Cx} {W : WX} {n : Nat} {g : G} (C : Cxt X W ["draws", "net", "place"] dd_law_marking.scope [1, 0] ["tuple"] ["draws", "net"] n) (A : Al tb X.prog X.w X.K X.mg X.base n g) (hp : PassesOwn (model X.prog X.w) X.A X.env X.xe) (hfr : X.stack = X.env :: X.outer ∧ X.env.frame = some X.env.locals) : StsOk X W [0] dd_law_marking.body (dS g [0] d_law_marking.body) :=
  (s_one (s_ret (r_t1 C A (C.gl 0 rfl) 7 rfl q_tuple boot_tuple (r_lcomp (gt := gName 2) C [("place", 2)] [2, 0] ["_law_take", "_law_pick"] (by kernel_rfl) (by kernel_rfl) (by kernel_rfl) (by kernel_rfl) (by kernel_rfl) (i_seq (r_ix C (r_nm (C.nm rfl (by decide))) r_int) (fun h => Bool.noConfusion (show false = true from h))) (fun h => Bool.noConfusion (show false = true from h)) (fun _ _ _ _ _ C1 => ⟨(t_nm (x := "place") C1 rfl 0 rfl), ts0, (r_call C1 A (C1.gl 1 rfl) 16 rfl (w_bor (C1.nm rfl (by decide)) (w_val (r_lst (w_val r_int (w_val r_int (w_val r_int (w_val r_int (w_val r_int (w_val (r_call C1 A (C1.gl 0 rfl) 13 rfl (w_bor (C1.nm rfl (by decide)) (w_val r_int w_nil))) w_nil))))))) w_nil)))⟩)))))
theorem p_law_marking {K : PySem.W.Frag} (F : ∃ fd, FunD K dd_law_marking.name dd_law_marking.qual dd_law_marking.params dd_law_marking.body dd_law_marking.scope [] [] (He.fAd K dd_law_marking.at_) fd) : Pkg tb K dd_law_marking ["draws", "net"] ["draws", "net", "place"] d_law_marking [1, 0] ["tuple"] ["draws", "net"] where
  fn := by
    obtain ⟨fd, F⟩ := F
    exact ⟨fd, F, F.bindsN fun _ _ _ _ _ _ us hl => match us, hl with | [_, _], _ => rfl⟩
  sc := ⟨rfl, rfl, rfl, by decide +kernel, rfl, by decide +kernel, by decide +kernel⟩
  np := rfl
  ns := rfl
  le := by decide
  vis := by kernel_rfl
  gls := by kernel_rfl
  loc := by kernel_rfl
  body := fun C A hp hfr => b_law_marking C A hp hfr
def e_law_arc_1 : E := .lcomp false [3, 4, 5] (.pl 5 []) [.mk (.tup [(.nm 3), (.nm 4), (.nm 5)]) (.seq (.prim .idx [(.pl 0 []), (.cst (.int 2))])) [(.and_ [(.prim .eq [(.pl 3 []), (.pl 1 [])]), (.prim .eq [(.pl 4 []), (.pl 2 [])])])]]
theorem e_law_arc_1_x {g : G} : (den g e_law_arc_1).p = true ∧ (den g e_law_arc_1).k = .plain ∧ (∀ fl S, (den g e_law_arc_1).o fl S = ((den g e_law_arc_1).v S).frz) ∧ e_law_arc_1.pure = true ∧ e_law_arc_1.isTup = false ∧ ∀ S, (den g e_law_arc_1).t S = ((den g e_law_arc_1).v S).frz.bind fun d S1 => .opt S1 d.truth := ⟨rfl, rfl, fun _ _ => rfl, rfl, rfl, fun _ => rfl⟩
def d_law_arc : Def := ⟨3, 6, [], (.ret (.prim .sum [e_law_arc_1]))⟩
def dd_law_arc : He.DefD := ⟨("_law_arc", none), "_law_arc", "_law_arc", defArgs (top 41), defBody (top 41), defScope (top 41), [], []⟩
theorem b_law_arc {X : Cx} {W : WX} {n : Nat} {g : G} (C : Cxt X W ["net", "one", "other", "a", "b", "many"] dd_law_arc.scope [0, 1, 2] ["sum"] ["net", "one", "other"] n) (A : Al tb X.prog X.w X.K X.mg X.base n g) (hp : PassesOwn (model X.prog X.w) X.A X.env X.xe) (hfr : X.stack = X.env :: X.outer ∧ X.env.frame = some X.env.locals) : StsOk X W [] dd_law_arc.body (dS g [] d_law_arc.body) :=
  (s_one (s_ret (r_b1 C A (C.gl 0 rfl) 16 rfl (q_sum C.calm) boot_sum (r_lcomp (gt := gTup X.K 3 (gCons (gName 3) (gCons (gName 4) (gCons (gName 5) gNil)))) C [("a", 3), ("b", 4), ("many", 5)] [3, 4, 5, 1, 2] [] (by kernel_rfl) (by kernel_rfl) (by kernel_rfl) (by kernel_rfl) (by kernel_rfl) (i_seq (r_ix C (r_nm (C.nm rfl (by decide))) r_int) (fun _ => rfl)) (fun _ => ⟨rfl, rfl, rfl⟩) (fun _ _ _ _ _ C1 => ⟨(t_tup C1 (t_cons (t_nm (x := "a") C1 rfl 0 rfl) (t_cons (t_nm (x := "b") C1 rfl 1 rfl) (t_cons (t_nm (x := "many") C1 rfl 2 rfl) t_nil)))), (ts1 (r_and (r_cmp (q_eq C1.un) bl_eq (r_nm (C1.nm rfl (by decide))) (r_nm (C1.nm rfl (by decide)))) (.cons (r_cmp (q_eq C1.un) bl_eq (r_nm (C1.nm rfl (by decide))) (r_nm (C1.nm rfl (by decide)))) .nil))), (r_nm (C1.nm rfl (by decide)))⟩)))))
theorem p_law_arc {K : PySem.W.Frag} (F : ∃ fd, FunD K dd_law_arc.name dd_law_arc.qual dd_law_arc.params dd_law_arc.body dd_law_arc.scope [] [] (He.fAd K dd_law_arc.at_) fd) : Pkg tb K dd_law_arc ["net", "one", "other"] ["net", "one", "other", "a", "b", "many"] d_law_arc [0, 1, 2] ["sum"] ["net", "one", "other"] where
  fn := by
    obtain ⟨fd, F⟩ := F
    exact ⟨fd, F, F.bindsN fun _ _ _ _ _ _ us hl => match us, hl with | [_, _, _], _ => rfl⟩
  sc := ⟨rfl, rfl, rfl, by decide +kernel, rfl, by decide +kernel, by decide +kernel⟩
  np := rfl
  ns := rfl
  le := by decide
  vis := by kernel_rfl
  gls := by kernel_rfl
  loc := by kernel_rfl
  body := fun C A hp hfr => b_law_arc C A hp hfr
def e_law_taken_1 : E := .lcomp false [2] (.call "_law_arc" [(.pl 0 []), (.pl 2 []), (.pl 1 [])]) [.mk (.nm 2) (.seq (.prim .idx [(.pl 0 []), (.cst (.int 0))])) []]
theorem e_law_taken_1_x {g : G} : (den g e_law_taken_1).p = false ∧ (den g e_law_taken_1).k = .plain ∧ (∀ fl S, (den g e_law_taken_1).o fl S = ((den g e_law_taken_1).v S).frz) ∧ e_law_taken_1.pure = false ∧ e_law_taken_1.isTup = false ∧ ∀ S, (den g e_law_taken_1).t S = ((den g e_law_taken_1).v S).frz.bind fun d S1 => .opt S1 d.truth := ⟨rfl, rfl, fun _ _ => rfl, rfl, rfl, fun _ => rfl⟩
def d_law_taken : Def := ⟨2, 3, [], (.ret (.prim .tuple [e_law_taken_1]))⟩
def dd_law_taken : He.DefD := ⟨("_law_taken", none), "_law_taken", "_law_taken", defArgs (top 42), defBody (top 42), defScope (top 42), [], []⟩
theorem b_law_taken {X : Cx} {W : WX} {n : Nat} {g : G} (C : Cxt X W ["net", "step", "place"] dd_law_taken.scope [0, 1] ["tuple"] ["net", "step"] n) (A : Al tb X.prog X.w X.K X.mg X.base n g) (hp : PassesOwn (model X.prog X.w) X.A X.env X.xe) (hfr : X.stack = X.env :: X.outer ∧ X.env.frame = some X.env.locals) : StsOk X W [] dd_law_taken.body (dS g [] d_law_taken.body) :=
  (s_one (s_ret (r_t1 C A (C.gl 0 rfl) 7 rfl q_tuple boot_tuple (r_lcomp (gt := gName 2) C [("place", 2)] [2, 0, 1] ["_law_arc"] (by kernel_rfl) (by kernel_rfl) (by kernel_rfl) (by kernel_rfl) (by kernel_rfl) (i_seq (r_ix C (r_nm (C.nm rfl (by decide))) r_int) (fun h => Bool.noConfusion (show false = true from h))) (fun h => Bool.noConfusion (show false = true from h)) (fun _ _ _ _ _ C1 => ⟨(t_nm (x := "place") C1 rfl 0 rfl), ts0, (r_call C1 A (C1.gl 0 rfl) 17 rfl (w_val (r_nm (C1.nm rfl (by decide))) (w_val (r_nm (C1.nm rfl (by decide))) (w_val (r_nm (C1.nm rfl (by decide))) w_nil))))⟩)))))
theorem p_law_taken {K : PySem.W.Frag} (F : ∃ fd, FunD K dd_law_taken.name dd_law_taken.qual dd_law_taken.params dd_law_taken.body dd_law_taken.scope [] [] (He.fAd K dd_law_taken.at_) fd) : Pkg tb K dd_law_taken ["net", "step"] ["net", "step", "place"] d_law_taken [0, 1] ["tuple"] ["net", "step"] where
  fn := by
    obtain ⟨fd, F⟩ := F
    exact ⟨fd, F, F.bindsN fun _ _ _ _ _ _ us hl => match us, hl with | [_, _], _ => rfl⟩
  sc := ⟨rfl, rfl, rfl, by decide +kernel, rfl, by decide +kernel, by decide +kernel⟩
  np := rfl
  ns := rfl
  le := by decide
  vis := by kernel_rfl
  gls := by kernel_rfl
  loc := by kernel_rfl
  body := fun C A hp hfr => b_law_taken C A hp hfr
def e_law_put_by_1 : E := .lcomp false [2] (.call "_law_arc" [(.pl 0 []), (.pl 1 []), (.pl 2 [])]) [.mk (.nm 2) (.seq (.prim .idx [(.pl 0 []), (.cst (.int 0))])) []]
theorem e_law_put_by_1_x {g : G} : (den g e_law_put_by_1).p = false ∧ (den g e_law_put_by_1).k = .plain ∧ (∀ fl S, (den g e_law_put_by_1).o fl S = ((den g e_law_put_by_1).v S).frz) ∧ e_law_put_by_1.pure = false ∧ e_law_put_by_1.isTup = false ∧ ∀ S, (den g e_law_put_by_1).t S = ((den g e_law_put_by_1).v S).frz.bind fun d S1 => .opt S1 d.truth := ⟨rfl, rfl, fun _ _ => rfl, rfl, rfl, fun _ => rfl⟩
def d_law_put_by : Def := ⟨2, 3, [], (.ret (.prim .tuple [e_law_put_by_1]))⟩
def dd_law_put_by : He.DefD := ⟨("_law_put_by", none), "_law_put_by", "_law_put_by", defArgs (top 43), defBody (top 43), defScope (top 43), [], []⟩
theorem b_law_put_by {X : Cx} {W : WX} {n : Nat} {g : G} (C : Cxt X W ["net", "step", "place"] dd_law_put_by.scope [0, 1] ["tuple"] ["net", "step"] n) (A : Al tb X.prog X.w X.K X.mg X.base n g) (hp : PassesOwn (model X.prog X.w) X.A X.env X.xe) (hfr : X.stack = X.env :: X.outer ∧ X.env.frame = some X.env.locals) : StsOk X W [] dd_law_put_by.body (dS g [] d_law_put_by.body) :=
  (s_one (s_ret (r_t1 C A (C.gl 0 rfl) 7 rfl q_tuple boot_tuple (r_lcomp (gt := gName 2) C [("place", 2)] [2, 0, 1] ["_law_arc"] (by kernel_rfl) (by kernel_rfl) (by kernel_rfl) (by kernel_rfl) (by kernel_rfl) (i_seq (r_ix C (r_nm (C.nm rfl (by decide))) r_int) (fun h => Bool.noConfusion (show false = true from h))) (fun h => Bool.noConfusion (show false = true from h)) (fun _ _ _ _ _ C1 => ⟨(t_nm (x := "place") C1 rfl 0 rfl), ts0, (r_call C1 A (C1.gl 0 rfl) 17 rfl (w_val (r_nm (C1.nm rfl (by decide))) (w_val (r_nm (C1.nm rfl (by decide))) (w_val (r_nm (C1.nm rfl (by decide))) w_nil))))⟩)))))
theorem p_law_put_by {K : PySem.W.Frag} (F : ∃ fd, FunD K dd_law_put_by.name dd_law_put_by.qual dd_law_put_by.params dd_law_put_by.body dd_law_put_by.scope [] [] (He.fAd K dd_law_put_by.at_) fd) : Pkg tb K dd_law_put_by ["net", "step"] ["net", "step", "place"] d_law_put_by [0, 1] ["tuple"] ["net", "step"] where
  fn := by
    obtain ⟨fd, F⟩ := F
    exact ⟨fd, F, F.bindsN fun _ _ _ _ _ _ us hl => match us, hl with | [_, _], _ => rfl⟩
  sc := ⟨rfl, rfl, rfl, by decide +kernel, rfl, by decide +kernel, by decide +kernel⟩
  np := rfl
  ns := rfl
  le := by decide
  vis := by kernel_rfl
  gls := by kernel_rfl
  loc := by kernel_rfl
  body := fun C A hp hfr => b_law_put_by C A hp hfr
def e_law_after_1 : E := .lcomp false [5] (.pl 5 []) [.mk (.nm 5) (.range [(.prim .len [(.pl 1 [])])]) [(.prim .lt [(.prim .idx [(.pl 1 []), (.pl 5 [])]), (.prim .idx [(.pl 3 []), (.pl 5 [])])])]]
def e_law_after_2 : E := .lcomp false [5] (.prim .add [(.prim .sub [(.prim .idx [(.pl 1 []), (.pl 5 [])]), (.prim .idx [(.pl 3 []), (.pl 5 [])])]), (.prim .idx [(.pl 4 []), (.pl 5 [])])]) [.mk (.nm 5) (.range [(.prim .len [(.pl 1 [])])]) []]
theorem e_law_after_1_x {g : G} : (den g e_law_after_1).p = true ∧ (den g e_law_after_1).k = .plain ∧ (∀ fl S, (den g e_law_after_1).o fl S = ((den g e_law_after_1).v S).frz) ∧ e_law_after_1.pure = true ∧ e_law_after_1.isTup = false ∧ ∀ S, (den g e_law_after_1).t S = ((den g e_law_after_1).v S).frz.bind fun d S1 => .opt S1 d.truth := ⟨rfl, rfl, fun _ _ => rfl, rfl, rfl, fun _ => rfl⟩
theorem e_law_after_2_x {g : G} : (den g e_law_after_2).p = true ∧ (den g e_law_after_2).k = .plain ∧ (∀ fl S, (den g e_law_after_2).o fl S = ((den g e_law_after_2).v S).frz) ∧ e_law_after_2.pure = true ∧ e_law_after_2.isTup = false ∧ ∀ S, (den g e_law_after_2).t S = ((den g e_law_after_2).v S).frz.bind fun d S1 => .opt S1 d.truth := ⟨rfl, rfl, fun _ _ => rfl, rfl, rfl, fun _ => rfl⟩
def d_law_after : Def := ⟨3, 6, [], (.seq (.asg (.tup [(.nm 3), (.nm 4)]) (.tup [(.call "_law_taken" [(.pl 0 []), (.pl 2 [])]), (.call "_law_put_by" [(.pl 0 []), (.pl 2 [])])])) (.seq (.ite (.prim .ne [e_law_after_1, (.lst false [])]) (.ret (.cst .non)) .skip) (.ret (.prim .tuple [e_law_after_2]))))⟩
def dd_law_after : He.DefD := ⟨("_law_after", none), "_law_after", "_law_after", defArgs (top 44), defBody (top 44), defScope (top 44), [], []⟩
theorem b_law_after {X : Cx} {W : WX} {n : Nat} {g : G} (C : Cxt X W ["net", "marking", "step", "taken", "put", "k"] dd_law_after.scope [0, 2, 1, 3, 4] ["_law_taken", "_law_put_by", "len", "range", "tuple"] ["net", "marking", "step", "taken", "put"] n) (A : Al tb X.prog X.w X.K X.mg X.base n g) (hp : PassesOwn (model X.prog X.w) X.A X.env X.xe) (hfr : X.stack = X.env :: X.outer ∧ X.env.frame = some X.env.locals) : StsOk X W [] dd_law_after.body (dS g [] d_law_after.body) :=
  (s_cons (s_asgT (r_tup (w_val (r_call C A (C.gl 0 rfl) 18 rfl (w_val (r_nm (C.nm rfl (by decide))) (w_val (r_nm (C.nm rfl (by decide))) w_nil))) (w_val (r_call C A (C.gl 1 rfl) 19 rfl (w_val (r_nm (C.nm rfl (by decide))) (w_val (r_nm (C.nm rfl (by decide))) w_nil))) w_nil))) (t_tup C (t_cons (t_nm (x := "taken") C rfl 3 rfl) (t_cons (t_nm (x := "put") C rfl 4 rfl) t_nil))) (swsC2 (by rw [C.hsc]; kernel_rfl) (by rw [C.hsc]; kernel_rfl))) (s_cons (s_if (r_cmp (q_ne C.un) bl_ne (r_lcomp (gt := gName 5) C [("k", 5)] [5, 1, 3] [] (by kernel_rfl) (by kernel_rfl) (by kernel_rfl) (by kernel_rfl) (by kernel_rfl) (i_range C A (C.gl 3 rfl) 12 rfl (r_b1 C A (C.gl 2 rfl) 6 rfl q_len boot_len (r_nm (C.nm rfl (by decide))))) (fun _ => ⟨rfl, rfl, rfl⟩) (fun _ _ _ _ _ C1 => ⟨(t_nm (x := "k") C1 rfl 0 rfl), (ts1 (r_cmp (q_lt C1.un) bl_lt (r_ix C1 (r_nm (C1.nm rfl (by decide))) (r_nm (C1.nm rfl (by decide)))) (r_ix C1 (r_nm (C1.nm rfl (by decide))) (r_nm (C1.nm rfl (by decide)))))), (r_nm (C1.nm rfl (by decide)))⟩)) (r_lst w_nil)) (s_one (s_ret r_non)) s_nil) (s_one (s_ret (r_t1 C A (C.gl 4 rfl) 7 rfl q_tuple boot_tuple (r_lcomp (gt := gName 5) C [("k", 5)] [5, 1, 3, 4] [] (by kernel_rfl) (by kernel_rfl) (by kernel_rfl) (by kernel_rfl) (by kernel_rfl) (i_range C A (C.gl 3 rfl) 12 rfl (r_b1 C A (C.gl 2 rfl) 6 rfl q_len boot_len (r_nm (C.nm rfl (by decide))))) (fun _ => ⟨rfl, rfl, rfl⟩) (fun _ _ _ _ _ C2 => ⟨(t_nm (x := "k") C2 rfl 0 rfl), ts0, (r_bin q_add (r_bin q_sub (r_ix C2 (r_nm (C2.nm rfl (by decide))) (r_nm (C2.nm rfl (by decide)))) (r_ix C2 (r_nm (C2.nm rfl (by decide))) (r_nm (C2.nm rfl (by decide))))) (r_ix C2 (r_nm (C2.nm rfl (by decide))) (r_nm (C2.nm rfl (by decide)))))⟩)))))))
theorem p_law_after {K : PySem.W.Frag} (F : ∃ fd, FunD K dd_law_after.name dd_law_after.qual dd_law_after.params dd_law_after.body dd_law_after.scope [] [] (He.fAd K dd_law_after.at_) fd) : Pkg tb K dd_law_after ["net", "marking", "step"] ["net", "marking", "step", "taken", "put", "k"] d_law_after [0, 2, 1, 3, 4] ["_law_taken", "_law_put_by", "len", "range", "tuple"] ["net", "marking", "step", "taken", "put"] where
  fn := by
    obtain ⟨fd, F⟩ := F
    exact ⟨fd, F, F.bindsN fun _ _ _ _ _ _ us hl => match us, hl with | [_, _, _], _ => rfl⟩
  sc := ⟨rfl, rfl, rfl, by decide +kernel, rfl, by decide +kernel, by decide +kernel⟩
  np := rfl
  ns := rfl
  le := by decide
  vis := by kernel_rfl
  gls := by kernel_rfl
  loc := by kernel_rfl
  body := fun C A hp hfr => b_law_after C A hp hfr
def d_law_told : Def := ⟨3, 4, [], (.tryF (.seq (.ite (.prim .eq [(.pl 0 []), (.cst (.int 2))]) (.ret (.call "turned" [(.pl 1 [])])) .skip) (.ret (.tcall ["sources_of", "goals_of"] (.pl 0 []) [(.pl 1 []), (.pl 2 [])]))) "TokenError" 3 ["NotRight", "NotThere", "NoAnswer", "TooLarge", "Malformed"])⟩
def dd_law_told : He.DefD := ⟨("_law_told", none), "_law_told", "_law_told", defArgs (top 45), defBody (top 45), defScope (top 45), [], []⟩
theorem b_law_told {X : Cx} {W : WX} {n : Nat} {g : G} (C : Cxt X W ["which", "net", "name", "e"] dd_law_told.scope [3, 0, 1, 2] ["TokenError", "_law_flags", "turned", "goals_of", "sources_of"] ["which", "net", "name", "e"] n) (A : Al tb X.prog X.w X.K X.mg X.base n g) (hp : PassesOwn (model X.prog X.w) X.A X.env X.xe) (hfr : X.stack = X.env :: X.outer ∧ X.env.frame = some X.env.locals) : StsOk X W [] dd_law_told.body (dS g [] d_law_told.body) :=
  (s_one (s_tryF (T := tb) C A hfr (C.nm rfl (by decide)) (by kernel_rfl) 0 rfl 0 rfl (C.gl 0 rfl) (C.gl 1 rfl) (fun _ _ _ C hp => (s_cons (s_if (r_cmp (q_eq C.un) bl_eq (r_nm (C.nm rfl (by decide))) r_int) (s_one (s_ret (r_call C A (C.gl 2 rfl) 20 rfl (w_val (r_nm (C.nm rfl (by decide))) w_nil)))) s_nil) (s_one (s_ret (r_tcall C (f_cons C A (C.gl 4 rfl) 22 rfl (f_cons C A (C.gl 3 rfl) 21 rfl f_nil)) (by decide) (r_nm (C.nm rfl (by decide))) (w_val (r_nm (C.nm rfl (by decide))) (w_val (r_nm (C.nm rfl (by decide))) w_nil)))))))))
theorem p_law_told {K : PySem.W.Frag} (F : ∃ fd, FunD K dd_law_told.name dd_law_told.qual dd_law_told.params dd_law_told.body dd_law_told.scope [] [] (He.fAd K dd_law_told.at_) fd) : Pkg tb K dd_law_told ["which", "net", "name"] ["which", "net", "name", "e"] d_law_told [3, 0, 1, 2] ["TokenError", "_law_flags", "turned", "goals_of", "sources_of"] ["which", "net", "name", "e"] where
  fn := by
    obtain ⟨fd, F⟩ := F
    exact ⟨fd, F, F.bindsN fun _ _ _ _ _ _ us hl => match us, hl with | [_, _, _], _ => rfl⟩
  sc := ⟨rfl, rfl, rfl, by decide +kernel, rfl, by decide +kernel, by decide +kernel⟩
  np := rfl
  ns := rfl
  le := by decide
  vis := by kernel_rfl
  gls := by kernel_rfl
  loc := by kernel_rfl
  body := fun C A hp hfr => b_law_told C A hp hfr
def e_law_1 : E := .lcomp false [20, 21, 22] (.tup [(.pl 21 []), (.pl 20 []), (.pl 22 [])]) [.mk (.tup [(.nm 20), (.nm 21), (.nm 22)]) (.seq (.prim .idx [(.pl 3 []), (.cst (.int 2))])) []]
def e_law_2 : E := .lcomp false [20, 21, 22] (.pl 20 []) [.mk (.tup [(.nm 20), (.nm 21), (.nm 22)]) (.seq (.prim .idx [(.pl 3 []), (.cst (.int 2))])) [(.prim .eq [(.pl 21 []), (.pl 5 [])])]]
def e_law_3 : E := .lcomp false [20, 21, 22] (.pl 21 []) [.mk (.tup [(.nm 20), (.nm 21), (.nm 22)]) (.seq (.prim .idx [(.pl 3 []), (.cst (.int 2))])) [(.prim .eq [(.pl 20 []), (.pl 5 [])])]]
def b_law_1 : Tk.S := (.seq (.asg (.nm 8) (.lst false [(.prim .tuple [(.prim .sorted [e_law_2])]), (.prim .tuple [(.prim .sorted [e_law_3])])])) (.ite (.not_ (.call "_law_same" [(.lst false [(.call "_law_told" [(.cst (.int 0)), (.pl 3 []), (.pl 5 [])]), (.call "_law_told" [(.cst (.int 1)), (.pl 3 []), (.pl 5 [])]), (.call "_law_told" [(.cst (.int 0)), (.pl 4 []), (.pl 5 [])])]), (.prim .add [(.pl 8 []), (.prim (.slc true false) [(.pl 8 []), (.cst (.int 1))])])])) (.ret (.cst (.bl false))) .skip))
def l_law_1 : Tk.S := .for_ [5, 8, 20, 21, 22] (.nm 5) (.seq (.prim .add [(.prim .idx [(.pl 3 []), (.cst (.int 0))]), (.prim .idx [(.pl 3 []), (.cst (.int 1))])])) b_law_1
def e_law_4 : E := .lcomp false [17] (.call "_law_take" [(.bor 1 []), (.cst (.int 3))]) [.mk (.nm 17) (.seq (.prim .idx [(.pl 3 []), (.cst (.int 0))])) []]
def e_law_5 : E := .lcomp false [11] (.pl 11 []) [.mk (.nm 11) (.seq (.prim .idx [(.pl 3 []), (.cst (.int 1))])) [(.prim .notN [(.call "_law_after" [(.pl 3 []), (.pl 13 []), (.pl 11 [])])])]]
def b_law_2 : Tk.S := (.seq (.asg (.nm 14) e_law_5) (.seq (.ite (.prim .eq [(.pl 14 []), (.lst false [])]) .brk .skip) (.seq (.ex (.mut .append false 12 [] [(.call "_law_pick" [(.bor 1 []), (.pl 14 [])])])) (.asg (.nm 13) (.call "_law_after" [(.pl 3 []), (.pl 13 []), (.prim .idx [(.pl 12 []), (.prim .sub [(.prim .len [(.pl 12 [])]), (.cst (.int 1))])])])))))
def l_law_2 : Tk.S := .for_ [11, 14] (.nm 11) (.range [(.call "_law_take" [(.bor 1 []), (.cst (.int 9))])]) b_law_2
def e_law_6 : E := .lcomp false [19] (.prim .add [(.prim .idx [(.pl 9 []), (.pl 19 [])]), (.prim .idx [(.pl 10 []), (.pl 19 [])])]) [.mk (.nm 19) (.range [(.prim .len [(.pl 10 [])])]) []]
def e_law_7 : E := .lcomp false [19] (.prim .add [(.prim .idx [(.pl 13 []), (.pl 19 [])]), (.prim .idx [(.pl 10 []), (.pl 19 [])])]) [.mk (.nm 19) (.range [(.prim .len [(.pl 10 [])])]) []]
def e_law_8 : E := .lcomp false [11] (.pl 11 []) [.mk (.nm 11) (.seq (.call "steps_at" [(.pl 3 []), (.pl 9 [])])) [(.prim .nin [(.pl 11 []), (.call "steps_at" [(.pl 3 []), (.pl 15 [])])])]]
def b_law_3 : Tk.S := (.seq (.asg (.nm 9) (.call "_law_marking" [(.bor 1 []), (.pl 3 [])])) (.seq (.asg (.nm 10) (.prim .tuple [e_law_4])) (.seq (.asgN [12, 13] [(.lst false []), (.pl 9 [])]) (.seq l_law_2 (.seq (.asgN [15, 16] [(.prim .tuple [e_law_6]), (.prim .tuple [e_law_7])]) (.seq (.ite (.not_ (.call "_law_same" [(.lst false [(.call "end_of" [(.pl 3 []), (.pl 9 []), (.pl 12 [])]), (.call "end_of" [(.pl 4 []), (.pl 13 []), (.prim .lrev [(.pl 12 [])])]), (.call "end_of" [(.pl 3 []), (.pl 15 []), (.pl 12 [])]), (.call "is_run" [(.pl 4 []), (.pl 16 []), (.prim .lrev [(.pl 12 [])])])]), (.lst false [(.pl 13 []), (.pl 9 []), (.pl 16 []), (.cst (.bl true))])])) (.ret (.cst (.bl false))) .skip) (.ite (.prim .ne [e_law_8, (.lst false [])]) (.ret (.cst (.bl false))) .skip)))))))
def l_law_3 : Tk.S := .for_ [6, 9, 10, 11, 12, 13, 14, 15, 16, 17, 19] (.nm 6) (.range [(.cst (.int 3))]) b_law_3
def e_law_9 : E := .lcomp false [18] (.call "_law_told" [(.pl 18 []), (.pl 7 []), (.cst (.str "q0"))]) [.mk (.nm 18) (.range [(.cst (.int 3))]) []]
def b_law_4 : Tk.S := (.seq (.asg (.nm 3) (.call "_law_net" [(.bor 1 []), (.cst (.int 6)), (.cst (.int 5))])) (.seq (.asg (.nm 4) (.tup [(.prim .idx [(.pl 3 []), (.cst (.int 0))]), (.prim .idx [(.pl 3 []), (.cst (.int 1))]), (.prim .tuple [(.prim .sorted [e_law_1])])])) (.seq (.ite (.not_ (.call "_law_same" [(.lst false [(.call "_law_told" [(.cst (.int 2)), (.pl 3 []), (.cst (.int 0))]), (.call "_law_told" [(.cst (.int 2)), (.pl 4 []), (.cst (.int 0))])]), (.lst false [(.pl 4 []), (.pl 3 [])])])) (.ret (.cst (.bl false))) .skip) (.seq l_law_1 (.seq l_law_3 (.seq (.ite (.not_ (.call "_law_same" [(.lst false [(.call "_law_told" [(.cst (.int 0)), (.pl 3 []), (.cst (.str "q0"))]), (.call "_law_told" [(.cst (.int 1)), (.pl 3 []), (.cst (.str ""))])]), (.prim .mul [(.lst false [(.lst false [(.cst (.bl false)), (.cst (.bl true)), (.cst (.bl false)), (.cst (.bl false)), (.cst (.bl false))])]), (.cst (.int 2))])])) (.ret (.cst (.bl false))) .skip) (.seq (.asg (.nm 7) (.call "_law_pick" [(.bor 1 []), (.lst false [(.cst .non), (.tup []), (.tup [(.tup [(.cst (.str "a"))]), (.tup [(.cst (.str "a"))]), (.tup [])]), (.tup [(.tup [(.cst (.str "b")), (.cst (.str "a"))]), (.tup []), (.tup [])]), (.tup [(.tup [(.cst (.str "a"))]), (.tup [(.cst (.str "t"))]), (.tup [(.tup [(.cst (.str "a")), (.cst (.str "t")), (.cst (.int 10))])])]), (.tup [(.tup [(.cst (.str "a"))]), (.tup [(.cst (.str "t"))]), (.tup [(.tup [(.cst (.str "a")), (.cst (.str "t")), (.cst (.int 1))]), (.tup [(.cst (.str "a")), (.cst (.str "t")), (.cst (.int 2))])])])])])) (.ite (.not_ (.call "_law_same" [e_law_9, (.prim .mul [(.lst false [(.lst false [(.cst (.bl true)), (.cst (.bl false)), (.cst (.bl false)), (.cst (.bl false)), (.cst (.bl false))])]), (.cst (.int 3))])])) (.ret (.cst (.bl false))) .skip))))))))
def l_law_4 : Tk.S := .for_ [2, 3, 4, 5, 6, 7, 8, 9, 10, 11, 12, 13, 14, 15, 16, 17, 18, 19, 20, 21, 22] (.nm 2) (.range [(.cst (.int 4))]) b_law_4
theorem e_law_1_x {g : G} : (den g e_law_1).p = true ∧ (den g e_law_1).k = .plain ∧ (∀ fl S, (den g e_law_1).o fl S = ((den g e_law_1).v S).frz) ∧ e_law_1.pure = true ∧ e_law_1.isTup = false ∧ ∀ S, (den g e_law_1).t S = ((den g e_law_1).v S).frz.bind fun d S1 => .opt S1 d.truth := ⟨rfl, rfl, fun _ _ => rfl, rfl, rfl, fun _ => rfl⟩
theorem e_law_2_x {g : G} : (den g e_law_2).p = true ∧ (den g e_law_2).k = .plain ∧ (∀ fl S, (den g e_law_2).o fl S = ((den g e_law_2).v S).frz) ∧ e_law_2.pure = true ∧ e_law_2.isTup = false ∧ ∀ S, (den g e_law_2).t S = ((den g e_law_2).v S).frz.bind fun d S1 => .opt S1 d.truth := ⟨rfl, rfl, fun _ _ => rfl, rfl, rfl, fun _ => rfl⟩
theorem e_law_3_x {g : G} : (den g e_law_3).p = true ∧ (den g e_law_3).k = .plain ∧ (∀ fl S, (den g e_law_3).o fl S = ((den g e_law_3).v S).frz) ∧ e_law_3.pure = true ∧ e_law_3.isTup = false ∧ ∀ S, (den g e_law_3).t S = ((den g e_law_3).v S).frz.bind fun d S1 => .opt S1 d.truth := ⟨rfl, rfl, fun _ _ => rfl, rfl, rfl, fun _ => rfl⟩
theorem e_law_4_x {g : G} : (den g e_law_4).p = false ∧ (den g e_law_4).k = .plain ∧ (∀ fl S, (den g e_law_4).o fl S = ((den g e_law_4).v S).frz) ∧ e_law_4.pure = false ∧ e_law_4.isTup = false ∧ ∀ S, (den g e_law_4).t S = ((den g e_law_4).v S).frz.bind fun d S1 => .opt S1 d.truth := ⟨rfl, rfl, fun _ _ => rfl, rfl, rfl, fun _ => rfl⟩
theorem e_law_5_x {g : G} : (den g e_law_5).p = false ∧ (den g e_law_5).k = .plain ∧ (∀ fl S, (den g e_law_5).o fl S = ((den g e_law_5).v S).frz) ∧ e_law_5.pure = false ∧ e_law_5.isTup = false ∧ ∀ S, (den g e_law_5).t S = ((den g e_law_5).v S).frz.bind fun d S1 => .opt S1 d.truth := ⟨rfl, rfl, fun _ _ => rfl, rfl, rfl, fun _ => rfl⟩
theorem e_law_6_x {g : G} : (den g e_law_6).p = true ∧ (den g e_law_6).k = .plain ∧ (∀ fl S, (den g e_law_6).o fl S = ((den g e_law_6).v S).frz) ∧ e_law_6.pure = true ∧ e_law_6.isTup = false ∧ ∀ S, (den g e_law_6).t S = ((den g e_law_6).v S).frz.bind fun d S1 => .opt S1 d.truth := ⟨rfl, rfl, fun _ _ => rfl, rfl, rfl, fun _ => rfl⟩
theorem e_law_7_x {g : G} : (den g e_law_7).p = true ∧ (den g e_law_7).k = .plain ∧ (∀ fl S, (den g e_law_7).o fl S = ((den g e_law_7).v S).frz) ∧ e_law_7.pure = true ∧ e_law_7.isTup = false ∧ ∀ S, (den g e_law_7).t S = ((den g e_law_7).v S).frz.bind fun d S1 => .opt S1 d.truth := ⟨rfl, rfl, fun _ _ => rfl, rfl, rfl, fun _ => rfl⟩
theorem e_law_8_x {g : G} : (den g e_law_8).p = false ∧ (den g e_law_8).k = .plain ∧ (∀ fl S, (den g e_law_8).o fl S = ((den g e_law_8).v S).frz) ∧ e_law_8.pure = false ∧ e_law_8.isTup = false ∧ ∀ S, (den g e_law_8).t S = ((den g e_law_8).v S).frz.bind fun d S1 => .opt S1 d.truth := ⟨rfl, rfl, fun _ _ => rfl, rfl, rfl, fun _ => rfl⟩
theorem e_law_9_x {g : G} : (den g e_law_9).p = false ∧ (den g e_law_9).k = .plain ∧ (∀ fl S, (den g e_law_9).o fl S = ((den g e_law_9).v S).frz) ∧ e_law_9.pure = false ∧ e_law_9.isTup = false ∧ ∀ S, (den g e_law_9).t S = ((den g e_law_9).v S).frz.bind fun d S1 => .opt S1 d.truth := ⟨rfl, rfl, fun _ _ => rfl, rfl, rfl, fun _ => rfl⟩
def d_law : Def := ⟨1, 23, [], (.seq (.asg (.nm 1) (.call "_law_draws" [(.pl 0 [])])) (.seq l_law_4 (.ret (.cst (.bl true)))))⟩
def dd_law : He.DefD := ⟨("law", none), "law", "law", defArgs (top 46), defBody (top 46), defScope (top 46), [], []⟩
theorem b_law {X : Cx} {W : WX} {n : Nat} {g : G} (C : Cxt X W ["script", "draws", "turn", "net", "back", "name", "again", "bad", "due", "marking", "more", "step", "run", "here", "able", "great", "far", "place", "which", "k", "a", "b", "many"] dd_law.scope [0, 1, 3, 4, 5, 8, 9, 13, 14, 12, 10, 15, 16, 7] ["_law_draws", "range", "_law_net", "sorted", "tuple", "_law_told", "_law_same", "_law_marking", "_law_take", "_law_pick", "len", "_law_after", "end_of", "is_run", "steps_at"] ["script", "draws", "turn", "net", "back", "name", "due", "again", "marking", "more", "run", "here", "step", "able", "great", "far", "bad"] n) (A : Al tb X.prog X.w X.K X.mg X.base n g) (hp : PassesOwn (model X.prog X.w) X.A X.env X.xe) (hfr : X.stack = X.env :: X.outer ∧ X.env.frame = some X.env.locals) : StsOk X W [] dd_law.body (dS g [] d_law.body) :=
  (s_cons (s_asg C rfl 1 rfl (r_call C A (C.gl 0 rfl) 23 rfl (w_val (r_nm (C.nm rfl (by decide))) w_nil)) rfl) (s_cons (s_for C hp (i_range C A (C.gl 1 rfl) 12 rfl r_int) (t_nm (x := "turn") C rfl 2 rfl) (s_cons (s_asg C rfl 3 rfl (r_call C A (C.gl 2 rfl) 24 rfl (w_bor (C.nm rfl (by decide)) (w_val r_int (w_val r_int w_nil)))) rfl) (s_cons (s_asg C rfl 4 rfl (r_tup (w_val (r_ix C (r_nm (C.nm rfl (by decide))) r_int) (w_val (r_ix C (r_nm (C.nm rfl (by decide))) r_int) (w_val (r_t1 C A (C.gl 4 rfl) 7 rfl q_tuple boot_tuple (r_b1 C A (C.gl 3 rfl) 10 rfl (q_sorted C.un) boot_sorted (r_lcomp (gt := gTup X.K 3 (gCons (gName 20) (gCons (gName 21) (gCons (gName 22) gNil)))) C [("a", 20), ("b", 21), ("many", 22)] [20, 21, 22] [] (by kernel_rfl) (by kernel_rfl) (by kernel_rfl) (by kernel_rfl) (by kernel_rfl) (i_seq (r_ix C (r_nm (C.nm rfl (by decide))) r_int) (fun _ => rfl)) (fun _ => ⟨rfl, rfl, rfl⟩) (fun _ _ _ _ _ C1 => ⟨(t_tup C1 (t_cons (t_nm (x := "a") C1 rfl 0 rfl) (t_cons (t_nm (x := "b") C1 rfl 1 rfl) (t_cons (t_nm (x := "many") C1 rfl 2 rfl) t_nil)))), ts0, (r_tup (w_val (r_nm (C1.nm rfl (by decide))) (w_val (r_nm (C1.nm rfl (by decide))) (w_val (r_nm (C1.nm rfl (by decide))) w_nil))))⟩)))) w_nil)))) rfl) (s_cons (s_if (r_not (r_call C A (C.gl 6 rfl) 14 rfl (w_val (r_lst (w_val (r_call C A (C.gl 5 rfl) 25 rfl (w_val r_int (w_val (r_nm (C.nm rfl (by decide))) (w_val r_int w_nil)))) (w_val (r_call C A (C.gl 5 rfl) 25 rfl (w_val r_int (w_val (r_nm (C.nm rfl (by decide))) (w_val r_int w_nil)))) w_nil))) (w_val (r_lst (w_val (r_nm (C.nm rfl (by decide))) (w_val (r_nm (C.nm rfl (by decide))) w_nil))) w_nil)))) (s_one (s_ret r_bl)) s_nil) (s_cons (s_for C hp (i_seq (r_bin q_add (r_ix C (r_nm (C.nm rfl (by decide))) r_int) (r_ix C (r_nm (C.nm rfl (by decide))) r_int)) (fun h => Bool.noConfusion (show false = true from h))) (t_nm (x := "name") C rfl 5 rfl) (s_cons (s_asg C rfl 6 rfl (r_lst (w_val (r_t1 C A (C.gl 4 rfl) 7 rfl q_tuple boot_tuple (r_b1 C A (C.gl 3 rfl) 10 rfl (q_sorted C.un) boot_sorted (r_lcomp (gt := gTup X.K 3 (gCons (gName 20) (gCons (gName 21) (gCons (gName 22) gNil)))) C [("a", 20), ("b", 21), ("many", 22)] [20, 21, 22, 5] [] (by kernel_rfl) (by kernel_rfl) (by kernel_rfl) (by kernel_rfl) (by kernel_rfl) (i_seq (r_ix C (r_nm (C.nm rfl (by decide))) r_int) (fun _ => rfl)) (fun _ => ⟨rfl, rfl, rfl⟩) (fun _ _ _ _ _ C2 => ⟨(t_tup C2 (t_cons (t_nm (x := "a") C2 rfl 0 rfl) (t_cons (t_nm (x := "b") C2 rfl 1 rfl) (t_cons (t_nm (x := "many") C2 rfl 2 rfl) t_nil)))), (ts1 (r_cmp (q_eq C2.un) bl_eq (r_nm (C2.nm rfl (by decide))) (r_nm (C2.nm rfl (by decide))))), (r_nm (C2.nm rfl (by decide)))⟩)))) (w_val (r_t1 C A (C.gl 4 rfl) 7 rfl q_tuple boot_tuple (r_b1 C A (C.gl 3 rfl) 10 rfl (q_sorted C.un) boot_sorted (r_lcomp (gt := gTup X.K 3 (gCons (gName 20) (gCons (gName 21) (gCons (gName 22) gNil)))) C [("a", 20), ("b", 21), ("many", 22)] [20, 21, 22, 5] [] (by kernel_rfl) (by kernel_rfl) (by kernel_rfl) (by kernel_rfl) (by kernel_rfl) (i_seq (r_ix C (r_nm (C.nm rfl (by decide))) r_int) (fun _ => rfl)) (fun _ => ⟨rfl, rfl, rfl⟩) (fun _ _ _ _ _ C3 => ⟨(t_tup C3 (t_cons (t_nm (x := "a") C3 rfl 0 rfl) (t_cons (t_nm (x := "b") C3 rfl 1 rfl) (t_cons (t_nm (x := "many") C3 rfl 2 rfl) t_nil)))), (ts1 (r_cmp (q_eq C3.un) bl_eq (r_nm (C3.nm rfl (by decide))) (r_nm (C3.nm rfl (by decide))))), (r_nm (C3.nm rfl (by decide)))⟩)))) w_nil))) rfl) (s_one (s_if (r_not (r_call C A (C.gl 6 rfl) 14 rfl (w_val (r_lst (w_val (r_call C A (C.gl 5 rfl) 25 rfl (w_val r_int (w_val (r_nm (C.nm rfl (by decide))) (w_val (r_nm (C.nm rfl (by decide))) w_nil)))) (w_val (r_call C A (C.gl 5 rfl) 25 rfl (w_val r_int (w_val (r_nm (C.nm rfl (by decide))) (w_val (r_nm (C.nm rfl (by decide))) w_nil)))) (w_val (r_call C A (C.gl 5 rfl) 25 rfl (w_val r_int (w_val (r_nm (C.nm rfl (by decide))) (w_val (r_nm (C.nm rfl (by decide))) w_nil)))) w_nil)))) (w_val (r_bin q_add (r_nm (C.nm rfl (by decide))) (r_slT (r_nm (C.nm rfl (by decide))) r_int)) w_nil)))) (s_one (s_ret r_bl)) s_nil)))) (s_cons (s_for C hp (i_range C A (C.gl 1 rfl) 12 rfl r_int) (t_nm (x := "again") C rfl 7 rfl) (s_cons (s_asg C rfl 8 rfl (r_call C A (C.gl 7 rfl) 26 rfl (w_bor (C.nm rfl (by decide)) (w_val (r_nm (C.nm rfl (by decide))) w_nil))) rfl) (s_cons (s_asg C rfl 9 rfl (r_t1 C A (C.gl 4 rfl) 7 rfl q_tuple boot_tuple (r_lcomp (gt := gName 17) C [("place", 17)] [17, 1] ["_law_take"] (by kernel_rfl) (by kernel_rfl) (by kernel_rfl) (by kernel_rfl) (by kernel_rfl) (i_seq (r_ix C (r_nm (C.nm rfl (by decide))) r_int) (fun h => Bool.noConfusion (show false = true from h))) (fun h => Bool.noConfusion (show false = true from h)) (fun _ _ _ _ _ C4 => ⟨(t_nm (x := "place") C4 rfl 0 rfl), ts0, (r_call C4 A (C4.gl 0 rfl) 13 rfl (w_bor (C4.nm rfl (by decide)) (w_val r_int w_nil)))⟩))) rfl) (s_cons (s_asgU2 C rfl rfl 10 rfl 11 rfl (w_val (r_lst w_nil) (w_val (r_nm (C.nm rfl (by decide))) w_nil)) (swsM2 (by rw [C.hsc]; kernel_rfl) (by rw [C.hsc]; kernel_rfl))) (s_cons (s_for C hp (i_range C A (C.gl 1 rfl) 12 rfl (r_call C A (C.gl 8 rfl) 13 rfl (w_bor (C.nm rfl (by decide)) (w_val r_int w_nil)))) (t_nm (x := "step") C rfl 12 rfl) (s_cons (s_asgLc (gt := gName 11) C [("step", 11)] [11, 3, 13] ["_law_after"] (by kernel_rfl) (by kernel_rfl) (by kernel_rfl) (by kernel_rfl) (by kernel_rfl) rfl (by kernel_rfl) (by kernel_rfl) rfl (by kernel_rfl) (i_seq (r_ix C (r_nm (C.nm rfl (by decide))) r_int) (fun h => Bool.noConfusion (show false = true from h))) (fun h => Bool.noConfusion (show false = true from h)) (fun _ _ _ _ _ C5 => ⟨(t_nm (x := "step") C5 rfl 0 rfl), (ts1 (r_notN (r_call C5 A (C5.gl 0 rfl) 27 rfl (w_val (r_nm (C5.nm rfl (by decide))) (w_val (r_nm (C5.nm rfl (by decide))) (w_val (r_nm (C5.nm rfl (by decide))) w_nil)))))), (r_nm (C5.nm rfl (by decide)))⟩)) (s_cons (s_if (r_cmp (q_eq C.un) bl_eq (r_nm (C.nm rfl (by decide))) (r_lst w_nil)) (s_one s_brk) s_nil) (s_cons (s_ex (r_app (C.nm rfl (by decide)) (w_val (r_call C A (C.gl 9 rfl) 16 rfl (w_bor (C.nm rfl (by decide)) (w_val (r_nm (C.nm rfl (by decide))) w_nil))) w_nil))) (s_one (s_asg C rfl 11 rfl (r_call C A (C.gl 11 rfl) 27 rfl (w_val (r_nm (C.nm rfl (by decide))) (w_val (r_nm (C.nm rfl (by decide))) (w_val (r_ix C (r_nm (C.nm rfl (by decide))) (r_bin q_sub (r_b1 C A (C.gl 10 rfl) 6 rfl q_len boot_len (r_nm (C.nm rfl (by decide)))) r_int)) w_nil)))) rfl)))))) (s_cons (s_asgU2 C rfl rfl 14 rfl 15 rfl (w_val (r_t1 C A (C.gl 4 rfl) 7 rfl q_tuple boot_tuple (r_lcomp (gt := gName 19) C [("k", 19)] [19, 9, 10] [] (by kernel_rfl) (by kernel_rfl) (by kernel_rfl) (by kernel_rfl) (by kernel_rfl) (i_range C A (C.gl 1 rfl) 12 rfl (r_b1 C A (C.gl 10 rfl) 6 rfl q_len boot_len (r_nm (C.nm rfl (by decide))))) (fun _ => ⟨rfl, rfl, rfl⟩) (fun _ _ _ _ _ C6 => ⟨(t_nm (x := "k") C6 rfl 0 rfl), ts0, (r_bin q_add (r_ix C6 (r_nm (C6.nm rfl (by decide))) (r_nm (C6.nm rfl (by decide)))) (r_ix C6 (r_nm (C6.nm rfl (by decide))) (r_nm (C6.nm rfl (by decide)))))⟩))) (w_val (r_t1 C A (C.gl 4 rfl) 7 rfl q_tuple boot_tuple (r_lcomp (gt := gName 19) C [("k", 19)] [19, 13, 10] [] (by kernel_rfl) (by kernel_rfl) (by kernel_rfl) (by kernel_rfl) (by kernel_rfl) (i_range C A (C.gl 1 rfl) 12 rfl (r_b1 C A (C.gl 10 rfl) 6 rfl q_len boot_len (r_nm (C.nm rfl (by decide))))) (fun _ => ⟨rfl, rfl, rfl⟩) (fun _ _ _ _ _ C7 => ⟨(t_nm (x := "k") C7 rfl 0 rfl), ts0, (r_bin q_add (r_ix C7 (r_nm (C7.nm rfl (by decide))) (r_nm (C7.nm rfl (by decide)))) (r_ix C7 (r_nm (C7.nm rfl (by decide))) (r_nm (C7.nm rfl (by decide)))))⟩))) w_nil)) (swsN2 (by rw [C.hsc]; kernel_rfl) (by rw [C.hsc]; kernel_rfl))) (s_cons (s_if (r_not (r_call C A (C.gl 6 rfl) 14 rfl (w_val (r_lst (w_val (r_call C A (C.gl 12 rfl) 28 rfl (w_val (r_nm (C.nm rfl (by decide))) (w_val (r_nm (C.nm rfl (by decide))) (w_val (r_nm (C.nm rfl (by decide))) w_nil)))) (w_val (r_call C A (C.gl 12 rfl) 28 rfl (w_val (r_nm (C.nm rfl (by decide))) (w_val (r_nm (C.nm rfl (by decide))) (w_val (r_revL (r_nm (C.nm rfl (by decide)))) w_nil)))) (w_val (r_call C A (C.gl 12 rfl) 28 rfl (w_val (r_nm (C.nm rfl (by decide))) (w_val (r_nm (C.nm rfl (by decide))) (w_val (r_nm (C.nm rfl (by decide))) w_nil)))) (w_val (r_call C A (C.gl 13 rfl) 29 rfl (w_val (r_nm (C.nm rfl (by decide))) (w_val (r_nm (C.nm rfl (by decide))) (w_val (r_revL (r_nm (C.nm rfl (by decide)))) w_nil)))) w_nil))))) (w_val (r_lst (w_val (r_nm (C.nm rfl (by decide))) (w_val (r_nm (C.nm rfl (by decide))) (w_val (r_nm (C.nm rfl (by decide))) (w_val r_bl w_nil))))) w_nil)))) (s_one (s_ret r_bl)) s_nil) (s_one (s_if (r_cmp (q_ne C.un) bl_ne (r_lcomp (gt := gName 11) C [("step", 11)] [11, 3, 15] ["steps_at"] (by kernel_rfl) (by kernel_rfl) (by kernel_rfl) (by kernel_rfl) (by kernel_rfl) (i_seq (r_call C A (C.gl 14 rfl) 30 rfl (w_val (r_nm (C.nm rfl (by decide))) (w_val (r_nm (C.nm rfl (by decide))) w_nil))) (fun h => Bool.noConfusion (show false = true from h))) (fun h => Bool.noConfusion (show false = true from h)) (fun _ _ _ _ _ C8 => ⟨(t_nm (x := "step") C8 rfl 0 rfl), (ts1 (r_cmp (q_nin C8.un) bl_nin (r_nm (C8.nm rfl (by decide))) (r_call C8 A (C8.gl 0 rfl) 30 rfl (w_val (r_nm (C8.nm rfl (by decide))) (w_val (r_nm (C8.nm rfl (by decide))) w_nil))))), (r_nm (C8.nm rfl (by decide)))⟩)) (r_lst w_nil)) (s_one (s_ret r_bl)) s_nil))))))))) (s_cons (s_if (r_not (r_call C A (C.gl 6 rfl) 14 rfl (w_val (r_lst (w_val (r_call C A (C.gl 5 rfl) 25 rfl (w_val r_int (w_val (r_nm (C.nm rfl (by decide))) (w_val r_str w_nil)))) (w_val (r_call C A (C.gl 5 rfl) 25 rfl (w_val r_int (w_val (r_nm (C.nm rfl (by decide))) (w_val r_str w_nil)))) w_nil))) (w_val (r_bin q_mul (r_lst (w_val (r_lst (w_val r_bl (w_val r_bl (w_val r_bl (w_val r_bl (w_val r_bl w_nil)))))) w_nil)) r_int) w_nil)))) (s_one (s_ret r_bl)) s_nil) (s_cons (s_asg C rfl 16 rfl (r_call C A (C.gl 9 rfl) 16 rfl (w_bor (C.nm rfl (by decide)) (w_val (r_lst (w_val r_non (w_val (r_tup w_nil) (w_val (r_tup (w_val (r_tup (w_val r_str w_nil)) (w_val (r_tup (w_val r_str w_nil)) (w_val (r_tup w_nil) w_nil)))) (w_val (r_tup (w_val (r_tup (w_val r_str (w_val r_str w_nil))) (w_val (r_tup w_nil) (w_val (r_tup w_nil) w_nil)))) (w_val (r_tup (w_val (r_tup (w_val r_str w_nil)) (w_val (r_tup (w_val r_str w_nil)) (w_val (r_tup (w_val (r_tup (w_val r_str (w_val r_str (w_val r_int w_nil)))) w_nil)) w_nil)))) (w_val (r_tup (w_val (r_tup (w_val r_str w_nil)) (w_val (r_tup (w_val r_str w_nil)) (w_val (r_tup (w_val (r_tup (w_val r_str (w_val r_str (w_val r_int w_nil)))) (w_val (r_tup (w_val r_str (w_val r_str (w_val r_int w_nil)))) w_nil))) w_nil)))) w_nil))))))) w_nil))) rfl) (s_one (s_if (r_not (r_call C A (C.gl 6 rfl) 14 rfl (w_val (r_lcomp (gt := gName 18) C [("which", 18)] [18, 7] ["_law_told"] (by kernel_rfl) (by kernel_rfl) (by kernel_rfl) (by kernel_rfl) (by kernel_rfl) (i_range C A (C.gl 1 rfl) 12 rfl r_int) (fun h => Bool.noConfusion (show false = true from h)) (fun _ _ _ _ _ C9 => ⟨(t_nm (x := "which") C9 rfl 0 rfl), ts0, (r_call C9 A (C9.gl 0 rfl) 25 rfl (w_val (r_nm (C9.nm rfl (by decide))) (w_val (r_nm (C9.nm rfl (by decide))) (w_val r_str w_nil))))⟩)) (w_val (r_bin q_mul (r_lst (w_val (r_lst (w_val r_bl (w_val r_bl (w_val r_bl (w_val r_bl (w_val r_bl w_nil)))))) w_nil)) r_int) w_nil)))) (s_one (s_ret r_bl)) s_nil)))))))))) (s_one (s_ret r_bl))))
theorem p_law {K : PySem.W.Frag} (F : ∃ fd, FunD K dd_law.name dd_law.qual dd_law.params dd_law.body dd_law.scope [] [] (He.fAd K dd_law.at_) fd) : Pkg tb K dd_law ["script"] ["script", "draws", "turn", "net", "back", "name", "again", "bad", "due", "marking", "more", "step", "run", "here", "able", "great", "far", "place", "which", "k", "a", "b", "many"] d_law [0, 1, 3, 4, 5, 8, 9, 13, 14, 12, 10, 15, 16, 7] ["_law_draws", "range", "_law_net", "sorted", "tuple", "_law_told", "_law_same", "_law_marking", "_law_take", "_law_pick", "len", "_law_after", "end_of", "is_run", "steps_at"] ["script", "draws", "turn", "net", "back", "name", "due", "again", "marking", "more", "run", "here", "step", "able", "great", "far", "bad"] where
  fn := by
    obtain ⟨fd, F⟩ := F
    exact ⟨fd, F, F.bindsN fun _ _ _ _ _ _ us hl => match us, hl with | [_], _ => rfl⟩
  sc := ⟨rfl, rfl, rfl, by decide +kernel, rfl, by decide +kernel, by decide +kernel⟩
  np := rfl
  ns := rfl
  le := by decide
  vis := by kernel_rfl
  gls := by kernel_rfl
  loc := by kernel_rfl
  body := fun C A hp hfr => b_law C A hp hfr
def e_Moves___init___1 : E := .dcomp false [3, 4, 5] (.tup [(.pl 3 []), (.pl 4 [])]) (.pl 5 []) [.mk (.tup [(.nm 3), (.nm 4), (.nm 5)]) (.seq (.prim .idx [(.pl 1 []), (.cst (.int 2))])) []]
def e_Moves___init___2 : E := .lcomp false [7] (.prim .get2 [(.pl 2 []), (.tup [(.pl 7 []), (.pl 6 [])]), (.cst (.int 0))]) [.mk (.nm 7) (.seq (.prim .idx [(.pl 1 []), (.cst (.int 0))])) []]
def e_Moves___init___3 : E := .dcomp false [6] (.pl 6 []) (.prim .tuple [e_Moves___init___2]) [.mk (.nm 6) (.seq (.prim .idx [(.pl 1 []), (.cst (.int 1))])) []]
def e_Moves___init___4 : E := .lcomp false [7] (.prim .get2 [(.pl 2 []), (.tup [(.pl 6 []), (.pl 7 [])]), (.cst (.int 0))]) [.mk (.nm 7) (.seq (.prim .idx [(.pl 1 []), (.cst (.int 0))])) []]
def e_Moves___init___5 : E := .dcomp false [6] (.pl 6 []) (.prim .tuple [e_Moves___init___4]) [.mk (.nm 6) (.seq (.prim .idx [(.pl 1 []), (.cst (.int 1))])) []]
def e_Moves___init___6 : E := .lcomp false [8, 9] (.prim .sub [(.pl 9 []), (.pl 8 [])]) [.mk (.tup [(.nm 8), (.nm 9)]) (.zip [(.prim .idx [(.pl 0 [.attr "taken"]), (.pl 6 [])]), (.prim .idx [(.pl 0 [.attr "put"]), (.pl 6 [])])]) []]
def e_Moves___init___7 : E := .dcomp false [6] (.pl 6 []) (.prim .tuple [e_Moves___init___6]) [.mk (.nm 6) (.seq (.prim .idx [(.pl 1 []), (.cst (.int 1))])) []]
theorem e_Moves___init___1_x {g : G} : (den g e_Moves___init___1).p = true ∧ (den g e_Moves___init___1).k = .plain ∧ (∀ fl S, (den g e_Moves___init___1).o fl S = ((den g e_Moves___init___1).v S).frz) ∧ e_Moves___init___1.pure = true ∧ e_Moves___init___1.isTup = false ∧ ∀ S, (den g e_Moves___init___1).t S = ((den g e_Moves___init___1).v S).frz.bind fun d S1 => .opt S1 d.truth := ⟨rfl, rfl, fun _ _ => rfl, rfl, rfl, fun _ => rfl⟩
theorem e_Moves___init___2_x {g : G} : (den g e_Moves___init___2).p = true ∧ (den g e_Moves___init___2).k = .plain ∧ (∀ fl S, (den g e_Moves___init___2).o fl S = ((den g e_Moves___init___2).v S).frz) ∧ e_Moves___init___2.pure = true ∧ e_Moves___init___2.isTup = false ∧ ∀ S, (den g e_Moves___init___2).t S = ((den g e_Moves___init___2).v S).frz.bind fun d S1 => .opt S1 d.truth := ⟨rfl, rfl, fun _ _ => rfl, rfl, rfl, fun _ => rfl⟩
theorem e_Moves___init___3_x {g : G} : (den g e_Moves___init___3).p = true ∧ (den g e_Moves___init___3).k = .plain ∧ (∀ fl S, (den g e_Moves___init___3).o fl S = ((den g e_Moves___init___3).v S).frz) ∧ e_Moves___init___3.pure = true ∧ e_Moves___init___3.isTup = false ∧ ∀ S, (den g e_Moves___init___3).t S = ((den g e_Moves___init___3).v S).frz.bind fun d S1 => .opt S1 d.truth := ⟨rfl, rfl, fun _ _ => rfl, rfl, rfl, fun _ => rfl⟩
theorem e_Moves___init___4_x {g : G} : (den g e_Moves___init___4).p = true ∧ (den g e_Moves___init___4).k = .plain ∧ (∀ fl S, (den g e_Moves___init___4).o fl S = ((den g e_Moves___init___4).v S).frz) ∧ e_Moves___init___4.pure = true ∧ e_Moves___init___4.isTup = false ∧ ∀ S, (den g e_Moves___init___4).t S = ((den g e_Moves___init___4).v S).frz.bind fun d S1 => .opt S1 d.truth := ⟨rfl, rfl, fun _ _ => rfl, rfl, rfl, fun _ => rfl⟩
theorem e_Moves___init___5_x {g : G} : (den g e_Moves___init___5).p = true ∧ (den g e_Moves___init___5).k = .plain ∧ (∀ fl S, (den g e_Moves___init___5).o fl S = ((den g e_Moves___init___5).v S).frz) ∧ e_Moves___init___5.pure = true ∧ e_Moves___init___5.isTup = false ∧ ∀ S, (den g e_Moves___init___5).t S = ((den g e_Moves___init___5).v S).frz.bind fun d S1 => .opt S1 d.truth := ⟨rfl, rfl, fun _ _ => rfl, rfl, rfl, fun _ => rfl⟩
theorem e_Moves___init___6_x {g : G} : (den g e_Moves___init___6).p = true ∧ (den g e_Moves___init___6).k = .plain ∧ (∀ fl S, (den g e_Moves___init___6).o fl S = ((den g e_Moves___init___6).v S).frz) ∧ e_Moves___init___6.pure = true ∧ e_Moves___init___6.isTup = false ∧ ∀ S, (den g e_Moves___init___6).t S = ((den g e_Moves___init___6).v S).frz.bind fun d S1 => .opt S1 d.truth := ⟨rfl, rfl, fun _ _ => rfl, rfl, rfl, fun _ => rfl⟩
theorem e_Moves___init___7_x {g : G} : (den g e_Moves___init___7).p = true ∧ (den g e_Moves___init___7).k = .plain ∧ (∀ fl S, (den g e_Moves___init___7).o fl S = ((den g e_Moves___init___7).v S).frz) ∧ e_Moves___init___7.pure = true ∧ e_Moves___init___7.isTup = false ∧ ∀ S, (den g e_Moves___init___7).t S = ((den g e_Moves___init___7).v S).frz.bind fun d S1 => .opt S1 d.truth := ⟨rfl, rfl, fun _ _ => rfl, rfl, rfl, fun _ => rfl⟩
def d_Moves___init__ : Def := ⟨2, 10, [0], (.seq (.asg (.nm 2) e_Moves___init___1) (.seq (.stos [(.at (.setA "Moves" "places") 0 [] []), (.at (.setA "Moves" "steps") 0 [] [])] (.tup [(.prim .idx [(.pl 1 []), (.cst (.int 0))]), (.prim .idx [(.pl 1 []), (.cst (.int 1))])])) (.seq (.sto false (.at (.setA "Moves" "taken") 0 [] []) e_Moves___init___3) (.seq (.sto false (.at (.setA "Moves" "put") 0 [] []) e_Moves___init___5) (.sto false (.at (.setA "Moves" "changes") 0 [] []) e_Moves___init___7)))))⟩
def dd_Moves___init__ : He.DefD := ⟨("Moves", some "__init__"), "__init__", "Moves.__init__", defArgs (mem 24 0), defBody (mem 24 0), defScope (mem 24 0), [], []⟩
theorem b_Moves___init__ {X : Cx} {W : WX} {n : Nat} {g : G} (C : Cxt X W ["self", "net", "arcs", "one", "other", "many", "step", "place", "a", "b"] dd_Moves___init__.scope [1, 0, 2] [] ["self", "net", "arcs"] n) (A : Al tb X.prog X.w X.K X.mg X.base n g) (hp : PassesOwn (model X.prog X.w) X.A X.env X.xe) (hfr : X.stack = X.env :: X.outer ∧ X.env.frame = some X.env.locals) : StsOk X W [0] dd_Moves___init__.body (dS g [0] d_Moves___init__.body) :=
  (s_cons (s_asg C rfl 2 rfl (r_dcompT (gt := gTup X.K 3 (gCons (gName 3) (gCons (gName 4) (gCons (gName 5) gNil)))) C [("one", 3), ("other", 4), ("many", 5)] [3, 4, 5] [] (by kernel_rfl) (by kernel_rfl) (by kernel_rfl) (by kernel_rfl) (by kernel_rfl) (i_seq (r_ix C (r_nm (C.nm rfl (by decide))) r_int) (fun _ => rfl)) (fun _ => ⟨rfl, rfl, rfl, rfl⟩) (fun _ _ _ _ _ C1 => ⟨(t_tup C1 (t_cons (t_nm (x := "one") C1 rfl 0 rfl) (t_cons (t_nm (x := "other") C1 rfl 1 rfl) (t_cons (t_nm (x := "many") C1 rfl 2 rfl) t_nil)))), ts0, (w_val (r_nm (C1.nm rfl (by decide))) (w_val (r_nm (C1.nm rfl (by decide))) w_nil)), (r_nm (C1.nm rfl (by decide)))⟩)) (swC (by rw [C.hsc]; kernel_rfl))) (s_cons (s_stos (fs := ["places", "steps"]) C A 0 rfl (fun f hf => by
      rcases List.mem_cons.mp hf with rfl | hf
      · exact ⟨0, rfl⟩
      · rcases List.mem_cons.mp hf with rfl | hf
        · exact ⟨1, rfl⟩
        · cases hf) (r_tup (w_val (r_ix C (r_nm (C.nm rfl (by decide))) r_int) (w_val (r_ix C (r_nm (C.nm rfl (by decide))) r_int) w_nil))) (g_cons (C.nm rfl (by decide)) (g_cons (C.nm rfl (by decide)) g_nil)) rfl rfl rfl rfl swsA2) (s_cons (s_setA C A (C.nm rfl (by decide)) 0 rfl 2 rfl (r_dcompK (gt := gName 6) C [("step", 6)] [6, 1, 2] ["tuple"] (by kernel_rfl) (by kernel_rfl) (by kernel_rfl) (by kernel_rfl) (by kernel_rfl) (i_seq (r_ix C (r_nm (C.nm rfl (by decide))) r_int) (fun _ => rfl)) (fun _ => ⟨rfl, rfl, rfl, rfl⟩) rfl (fun _ _ _ _ _ C2 => ⟨(t_nm (x := "step") C2 rfl 0 rfl), ts0, (r_nm (C2.nm rfl (by decide))), (r_t1 C2 A (C2.gl 0 rfl) 7 rfl q_tuple boot_tuple (r_lcomp (gt := gName 7) C2 [("place", 7)] [7, 2, 6] [] (by kernel_rfl) (by kernel_rfl) (by kernel_rfl) (by kernel_rfl) (by kernel_rfl) (i_seq (r_ix C2 (r_nm (C2.nm rfl (by decide))) r_int) (fun _ => rfl)) (fun _ => ⟨rfl, rfl, rfl⟩) (fun _ _ _ _ _ C3 => ⟨(t_nm (x := "place") C3 rfl 0 rfl), ts0, (r_get2 C3 (r_nm (C3.nm rfl (by decide))) (r_tup (w_val (r_nm (C3.nm rfl (by decide))) (w_val (r_nm (C3.nm rfl (by decide))) w_nil))) r_int)⟩)))⟩))) (s_cons (s_setA C A (C.nm rfl (by decide)) 0 rfl 3 rfl (r_dcompK (gt := gName 6) C [("step", 6)] [6, 1, 2] ["tuple"] (by kernel_rfl) (by kernel_rfl) (by kernel_rfl) (by kernel_rfl) (by kernel_rfl) (i_seq (r_ix C (r_nm (C.nm rfl (by decide))) r_int) (fun _ => rfl)) (fun _ => ⟨rfl, rfl, rfl, rfl⟩) rfl (fun _ _ _ _ _ C4 => ⟨(t_nm (x := "step") C4 rfl 0 rfl), ts0, (r_nm (C4.nm rfl (by decide))), (r_t1 C4 A (C4.gl 0 rfl) 7 rfl q_tuple boot_tuple (r_lcomp (gt := gName 7) C4 [("place", 7)] [7, 2, 6] [] (by kernel_rfl) (by kernel_rfl) (by kernel_rfl) (by kernel_rfl) (by kernel_rfl) (i_seq (r_ix C4 (r_nm (C4.nm rfl (by decide))) r_int) (fun _ => rfl)) (fun _ => ⟨rfl, rfl, rfl⟩) (fun _ _ _ _ _ C5 => ⟨(t_nm (x := "place") C5 rfl 0 rfl), ts0, (r_get2 C5 (r_nm (C5.nm rfl (by decide))) (r_tup (w_val (r_nm (C5.nm rfl (by decide))) (w_val (r_nm (C5.nm rfl (by decide))) w_nil))) r_int)⟩)))⟩))) (s_one (s_setA C A (C.nm rfl (by decide)) 0 rfl 4 rfl (r_dcompK (gt := gName 6) C [("step", 6)] [6, 0] ["zip", "tuple"] (by kernel_rfl) (by kernel_rfl) (by kernel_rfl) (by kernel_rfl) (by kernel_rfl) (i_seq (r_ix C (r_nm (C.nm rfl (by decide))) r_int) (fun _ => rfl)) (fun _ => ⟨rfl, rfl, rfl, rfl⟩) rfl (fun _ _ _ _ _ C6 => ⟨(t_nm (x := "step") C6 rfl 0 rfl), ts0, (r_nm (C6.nm rfl (by decide))), (r_t1 C6 A (C6.gl 1 rfl) 7 rfl q_tuple boot_tuple (r_lcomp (gt := gTup X.K 2 (gCons (gName 8) (gCons (gName 9) gNil))) C6 [("a", 8), ("b", 9)] [8, 9] [] (by kernel_rfl) (by kernel_rfl) (by kernel_rfl) (by kernel_rfl) (by kernel_rfl) (i_zip C6 A (C6.gl 0 rfl) 3 rfl (r_ix C6 (r_fld (C6.nm rfl (by decide))) (r_nm (C6.nm rfl (by decide)))) (r_ix C6 (r_fld (C6.nm rfl (by decide))) (r_nm (C6.nm rfl (by decide)))) (fun _ => ⟨rfl, rfl⟩)) (fun _ => ⟨rfl, rfl, rfl⟩) (fun _ _ _ _ _ C7 => ⟨(t_tup C7 (t_cons (t_nm (x := "a") C7 rfl 0 rfl) (t_cons (t_nm (x := "b") C7 rfl 1 rfl) t_nil))), ts0, (r_bin q_sub (r_nm (C7.nm rfl (by decide))) (r_nm (C7.nm rfl (by decide))))⟩)))⟩))))))))
theorem p_Moves___init__ {K : PySem.W.Frag} (F : ∃ fd, FunD K dd_Moves___init__.name dd_Moves___init__.qual dd_Moves___init__.params dd_Moves___init__.body dd_Moves___init__.scope [] [] (He.fAd K dd_Moves___init__.at_) fd) : Pkg tb K dd_Moves___init__ ["self", "net"] ["self", "net", "arcs", "one", "other", "many", "step", "place", "a", "b"] d_Moves___init__ [1, 0, 2] [] ["self", "net", "arcs"] where
  fn := by
    obtain ⟨fd, F⟩ := F
    exact ⟨fd, F, F.bindsN fun _ _ _ _ _ _ us hl => match us, hl with | [_, _], _ => rfl⟩
  sc := ⟨rfl, rfl, rfl, by decide +kernel, rfl, by decide +kernel, by decide +kernel⟩
  np := rfl
  ns := rfl
  le := by decide
  vis := by kernel_rfl
  gls := by kernel_rfl
  loc := by kernel_rfl
  body := fun C A hp hfr => b_Moves___init__ C A hp hfr
def e_Moves_can_1 : E := .lcomp false [3, 4] (.prim .ge [(.pl 3 []), (.pl 4 [])]) [.mk (.tup [(.nm 3), (.nm 4)]) (.zip [(.pl 1 []), (.prim .idx [(.pl 0 [.attr "taken"]), (.pl 2 [])])]) []]
theorem e_Moves_can_1_x {g : G} : (den g e_Moves_can_1).p = true ∧ (den g e_Moves_can_1).k = .plain ∧ (∀ fl S, (den g e_Moves_can_1).o fl S = ((den g e_Moves_can_1).v S).frz) ∧ e_Moves_can_1.pure = true ∧ e_Moves_can_1.isTup = false ∧ ∀ S, (den g e_Moves_can_1).t S = ((den g e_Moves_can_1).v S).frz.bind fun d S1 => .opt S1 d.truth := ⟨rfl, rfl, fun _ _ => rfl, rfl, rfl, fun _ => rfl⟩
def d_Moves_can : Def := ⟨3, 5, [0], (.ret (.prim .all [e_Moves_can_1]))⟩
def dd_Moves_can : He.DefD := ⟨("Moves", some "can"), "can", "Moves.can", defArgs (mem 24 1), defBody (mem 24 1), defScope (mem 24 1), [], []⟩
theorem b_Moves_can {X : Cx} {W : WX} {n : Nat} {g : G} (C : Cxt X W ["self", "marking", "step", "have", "much"] dd_Moves_can.scope [1, 0, 2] ["zip", "all"] ["self", "marking", "step"] n) (A : Al tb X.prog X.w X.K X.mg X.base n g) (hp : PassesOwn (model X.prog X.w) X.A X.env X.xe) (hfr : X.stack = X.env :: X.outer ∧ X.env.frame = some X.env.locals) : StsOk X W [0] dd_Moves_can.body (dS g [0] d_Moves_can.body) :=
  (s_one (s_ret (r_b1 C A (C.gl 1 rfl) 4 rfl (q_all C.calm) boot_all (r_lcomp (gt := gTup X.K 2 (gCons (gName 3) (gCons (gName 4) gNil))) C [("have", 3), ("much", 4)] [3, 4] [] (by kernel_rfl) (by kernel_rfl) (by kernel_rfl) (by kernel_rfl) (by kernel_rfl) (i_zip C A (C.gl 0 rfl) 3 rfl (r_nm (C.nm rfl (by decide))) (r_ix C (r_fld (C.nm rfl (by decide))) (r_nm (C.nm rfl (by decide)))) (fun _ => ⟨rfl, rfl⟩)) (fun _ => ⟨rfl, rfl, rfl⟩) (fun _ _ _ _ _ C1 => ⟨(t_tup C1 (t_cons (t_nm (x := "have") C1 rfl 0 rfl) (t_cons (t_nm (x := "much") C1 rfl 1 rfl) t_nil))), ts0, (r_cmp (q_ge C1.un) bl_ge (r_nm (C1.nm rfl (by decide))) (r_nm (C1.nm rfl (by decide))))⟩)))))
theorem p_Moves_can {K : PySem.W.Frag} (F : ∃ fd, FunD K dd_Moves_can.name dd_Moves_can.qual dd_Moves_can.params dd_Moves_can.body dd_Moves_can.scope [] [] (He.fAd K dd_Moves_can.at_) fd) : Pkg tb K dd_Moves_can ["self", "marking", "step"] ["self", "marking", "step", "have", "much"] d_Moves_can [1, 0, 2] ["zip", "all"] ["self", "marking", "step"] where
  fn := by
    obtain ⟨fd, F⟩ := F
    exact ⟨fd, F, F.bindsN fun _ _ _ _ _ _ us hl => match us, hl with | [_, _, _], _ => rfl⟩
  sc := ⟨rfl, rfl, rfl, by decide +kernel, rfl, by decide +kernel, by decide +kernel⟩
  np := rfl
  ns := rfl
  le := by decide
  vis := by kernel_rfl
  gls := by kernel_rfl
  loc := by kernel_rfl
  body := fun C A hp hfr => b_Moves_can C A hp hfr
def e_Moves_after_1 : E := .lcomp false [3, 4] (.prim .add [(.pl 3 []), (.pl 4 [])]) [.mk (.tup [(.nm 3), (.nm 4)]) (.zip [(.pl 1 []), (.prim .idx [(.pl 0 [.attr "changes"]), (.pl 2 [])])]) []]
theorem e_Moves_after_1_x {g : G} : (den g e_Moves_after_1).p = true ∧ (den g e_Moves_after_1).k = .plain ∧ (∀ fl S, (den g e_Moves_after_1).o fl S = ((den g e_Moves_after_1).v S).frz) ∧ e_Moves_after_1.pure = true ∧ e_Moves_after_1.isTup = false ∧ ∀ S, (den g e_Moves_after_1).t S = ((den g e_Moves_after_1).v S).frz.bind fun d S1 => .opt S1 d.truth := ⟨rfl, rfl, fun _ _ => rfl, rfl, rfl, fun _ => rfl⟩
def d_Moves_after : Def := ⟨3, 5, [0], (.ret (.prim .tuple [e_Moves_after_1]))⟩
def dd_Moves_after : He.DefD := ⟨("Moves", some "after"), "after", "Moves.after", defArgs (mem 24 2), defBody (mem 24 2), defScope (mem 24 2), [], []⟩
theorem b_Moves_after {X : Cx} {W : WX} {n : Nat} {g : G} (C : Cxt X W ["self", "marking", "step", "have", "much"] dd_Moves_after.scope [1, 0, 2] ["zip", "tuple"] ["self", "marking", "step"] n) (A : Al tb X.prog X.w X.K X.mg X.base n g) (hp : PassesOwn (model X.prog X.w) X.A X.env X.xe) (hfr : X.stack = X.env :: X.outer ∧ X.env.frame = some X.env.locals) : StsOk X W [0] dd_Moves_after.body (dS g [0] d_Moves_after.body) :=
  (s_one (s_ret (r_t1 C A (C.gl 1 rfl) 7 rfl q_tuple boot_tuple (r_lcomp (gt := gTup X.K 2 (gCons (gName 3) (gCons (gName 4) gNil))) C [("have", 3), ("much", 4)] [3, 4] [] (by kernel_rfl) (by kernel_rfl) (by kernel_rfl) (by kernel_rfl) (by kernel_rfl) (i_zip C A (C.gl 0 rfl) 3 rfl (r_nm (C.nm rfl (by decide))) (r_ix C (r_fld (C.nm rfl (by decide))) (r_nm (C.nm rfl (by decide)))) (fun _ => ⟨rfl, rfl⟩)) (fun _ => ⟨rfl, rfl, rfl⟩) (fun _ _ _ _ _ C1 => ⟨(t_tup C1 (t_cons (t_nm (x := "have") C1 rfl 0 rfl) (t_cons (t_nm (x := "much") C1 rfl 1 rfl) t_nil))), ts0, (r_bin q_add (r_nm (C1.nm rfl (by decide))) (r_nm (C1.nm rfl (by decide))))⟩)))))
theorem p_Moves_after {K : PySem.W.Frag} (F : ∃ fd, FunD K dd_Moves_after.name dd_Moves_after.qual dd_Moves_after.params dd_Moves_after.body dd_Moves_after.scope [] [] (He.fAd K dd_Moves_after.at_) fd) : Pkg tb K dd_Moves_after ["self", "marking", "step"] ["self", "marking", "step", "have", "much"] d_Moves_after [1, 0, 2] ["zip", "tuple"] ["self", "marking", "step"] where
  fn := by
    obtain ⟨fd, F⟩ := F
    exact ⟨fd, F, F.bindsN fun _ _ _ _ _ _ us hl => match us, hl with | [_, _, _], _ => rfl⟩
  sc := ⟨rfl, rfl, rfl, by decide +kernel, rfl, by decide +kernel, by decide +kernel⟩
  np := rfl
  ns := rfl
  le := by decide
  vis := by kernel_rfl
  gls := by kernel_rfl
  loc := by kernel_rfl
  body := fun C A hp hfr => b_Moves_after C A hp hfr
def e_Moves_able_1 : E := .lcomp false [2] (.pl 2 []) [.mk (.nm 2) (.seq (.pl 0 [.attr "steps"])) [(.meth "Moves" "can" (.bor 0 []) [(.pl 1 []), (.pl 2 [])])]]
theorem e_Moves_able_1_x {g : G} : (den g e_Moves_able_1).p = false ∧ (den g e_Moves_able_1).k = .plain ∧ (∀ fl S, (den g e_Moves_able_1).o fl S = ((den g e_Moves_able_1).v S).frz) ∧ e_Moves_able_1.pure = false ∧ e_Moves_able_1.isTup = false ∧ ∀ S, (den g e_Moves_able_1).t S = ((den g e_Moves_able_1).v S).frz.bind fun d S1 => .opt S1 d.truth := ⟨rfl, rfl, fun _ _ => rfl, rfl, rfl, fun _ => rfl⟩
def d_Moves_able : Def := ⟨2, 3, [0], (.ret e_Moves_able_1)⟩
def dd_Moves_able : He.DefD := ⟨("Moves", some "able"), "able", "Moves.able", defArgs (mem 24 3), defBody (mem 24 3), defScope (mem 24 3), [], []⟩
theorem b_Moves_able {X : Cx} {W : WX} {n : Nat} {g : G} (C : Cxt X W ["self", "marking", "step"] dd_Moves_able.scope [0, 1] [] ["self", "marking"] n) (A : Al tb X.prog X.w X.K X.mg X.base n g) (hp : PassesOwn (model X.prog X.w) X.A X.env X.xe) (hfr : X.stack = X.env :: X.outer ∧ X.env.frame = some X.env.locals) : StsOk X W [0] dd_Moves_able.body (dS g [0] d_Moves_able.body) :=
  (s_one (s_ret (r_lcomp (gt := gName 2) C [("step", 2)] [2, 0, 1] [] (by kernel_rfl) (by kernel_rfl) (by kernel_rfl) (by kernel_rfl) (by kernel_rfl) (i_seq (r_fld (C.nm rfl (by decide))) (fun h => Bool.noConfusion (show false = true from h))) (fun h => Bool.noConfusion (show false = true from h)) (fun _ _ _ _ _ C1 => ⟨(t_nm (x := "step") C1 rfl 0 rfl), (ts1 (r_meth C1 A (C1.nm rfl (by decide)) 2 rfl 0 rfl (w_val (r_nm (C1.nm rfl (by decide))) (w_val (r_nm (C1.nm rfl (by decide))) w_nil)))), (r_nm (C1.nm rfl (by decide)))⟩))))
theorem p_Moves_able {K : PySem.W.Frag} (F : ∃ fd, FunD K dd_Moves_able.name dd_Moves_able.qual dd_Moves_able.params dd_Moves_able.body dd_Moves_able.scope [] [] (He.fAd K dd_Moves_able.at_) fd) : Pkg tb K dd_Moves_able ["self", "marking"] ["self", "marking", "step"] d_Moves_able [0, 1] [] ["self", "marking"] where
  fn := by
    obtain ⟨fd, F⟩ := F
    exact ⟨fd, F, F.bindsN fun _ _ _ _ _ _ us hl => match us, hl with | [_, _], _ => rfl⟩
  sc := ⟨rfl, rfl, rfl, by decide +kernel, rfl, by decide +kernel, by decide +kernel⟩
  np := rfl
  ns := rfl
  le := by decide
  vis := by kernel_rfl
  gls := by kernel_rfl
  loc := by kernel_rfl
  body := fun C A hp hfr => b_Moves_able C A hp hfr
def b_Moves_end_1 : Tk.S := (.seq (.ite (.or_ [(.prim .nin [(.pl 3 []), (.pl 0 [.attr "taken"])]), (.not_ (.meth "Moves" "can" (.bor 0 []) [(.pl 1 []), (.pl 3 [])]))]) (.ret (.cst .non)) .skip) (.seq (.asg (.nm 1) (.meth "Moves" "after" (.bor 0 []) [(.pl 1 []), (.pl 3 [])])) (.ite (.prim .gt [(.prim .max [(.lst false [(.cst (.int 0)), (.star (.pl 1 []))])]), (.cst (.int 1000000))]) (.raise "TooLarge" [(.cst (.str "a place would have too many tokens"))]) .skip)))
def l_Moves_end_1 : Tk.S := .for_ [3] (.nm 3) (.seq (.pl 2 [])) b_Moves_end_1
def d_Moves_end : Def := ⟨3, 4, [0], (.seq l_Moves_end_1 (.ret (.pl 1 [])))⟩
def dd_Moves_end : He.DefD := ⟨("Moves", some "end"), "end", "Moves.end", defArgs (mem 24 4), defBody (mem 24 4), defScope (mem 24 4), [], []⟩
theorem b_Moves_end {X : Cx} {W : WX} {n : Nat} {g : G} (C : Cxt X W ["self", "marking", "run", "step"] dd_Moves_end.scope [2, 3, 0, 1] ["max", "MOST_TOKENS", "TooLarge"] ["self", "marking", "run", "step"] n) (A : Al tb X.prog X.w X.K X.mg X.base n g) (hp : PassesOwn (model X.prog X.w) X.A X.env X.xe) (hfr : X.stack = X.env :: X.outer ∧ X.env.frame = some X.env.locals) : StsOk X W [0] dd_Moves_end.body (dS g [0] d_Moves_end.body) :=
  (s_cons (s_for C hp (i_seq (r_nm (C.nm rfl (by decide))) (fun h => Bool.noConfusion (show false = true from h))) (t_nm (x := "step") C rfl 3 rfl) (s_cons (s_if (r_or (r_cmp (q_nin C.un) bl_nin (r_nm (C.nm rfl (by decide))) (r_fld (C.nm rfl (by decide)))) (.cons (r_not (r_meth C A (C.nm rfl (by decide)) 2 rfl 0 rfl (w_val (r_nm (C.nm rfl (by decide))) (w_val (r_nm (C.nm rfl (by decide))) w_nil)))) .nil)) (s_one (s_ret r_non)) s_nil) (s_cons (s_asg C rfl 1 rfl (r_meth C A (C.nm rfl (by decide)) 3 rfl 0 rfl (w_val (r_nm (C.nm rfl (by decide))) (w_val (r_nm (C.nm rfl (by decide))) w_nil))) rfl) (s_one (s_if (r_cmp (q_gt C.un) bl_gt (r_b1 C A (C.gl 0 rfl) 8 rfl (q_max C.calm) boot_max (r_lst (w_val r_int (w_star (r_nm (C.nm rfl (by decide))) w_nil)))) (r_gint C A (C.gl 1 rfl) 3 rfl)) (s_one (s_raise C A (C.gl 2 rfl) 4 rfl)) s_nil))))) (s_one (s_retM (C.nm rfl (by decide)))))
theorem p_Moves_end {K : PySem.W.Frag} (F : ∃ fd, FunD K dd_Moves_end.name dd_Moves_end.qual dd_Moves_end.params dd_Moves_end.body dd_Moves_end.scope [] [] (He.fAd K dd_Moves_end.at_) fd) : Pkg tb K dd_Moves_end ["self", "marking", "run"] ["self", "marking", "run", "step"] d_Moves_end [2, 3, 0, 1] ["max", "MOST_TOKENS", "TooLarge"] ["self", "marking", "run", "step"] where
  fn := by
    obtain ⟨fd, F⟩ := F
    exact ⟨fd, F, F.bindsN fun _ _ _ _ _ _ us hl => match us, hl with | [_, _, _], _ => rfl⟩
  sc := ⟨rfl, rfl, rfl, by decide +kernel, rfl, by decide +kernel, by decide +kernel⟩
  np := rfl
  ns := rfl
  le := by decide
  vis := by kernel_rfl
  gls := by kernel_rfl
  loc := by kernel_rfl
  body := fun C A hp hfr => b_Moves_end C A hp hfr
end K02
end
section
set_option linter.all false
set_option maxRecDepth 100000
set_option maxHeartbeats 0
namespace K02
open PySem PySem.Spec PyProof.Rows L2 Tk
def sl : List (Str × List Str) := ("TokenError", ["TokenError", "ValueError"]) :: ("NotRight", ["NotRight", "TokenError", "ValueError"]) :: ("NotThere", ["NotThere", "TokenError", "ValueError"]) :: ("NoAnswer", ["NoAnswer", "TokenError", "ValueError"]) :: ("TooLarge", ["TooLarge", "TokenError", "ValueError"]) :: []
def tab : List (Str × Def) := ("is_integer", d_is_integer) :: ("is_within", d_is_within) :: ("are_ascending", d_are_ascending) :: ("is_name", d_is_name) :: ("are_names", d_are_names) :: ("is_arc", d_is_arc) :: ("is_net", d_is_net) :: ("check_net", d_check_net) :: ("is_marking_by", d_is_marking_by) :: ("is_marking", d_is_marking) :: ("check_marked", d_check_marked) :: ("check_step", d_check_step) :: ("steps_at", d_steps_at) :: ("is_run", d_is_run) :: ("end_of", d_end_of) :: ("turned", d_turned) :: ("check_known", d_check_known) :: ("sources_of", d_sources_of) :: ("goals_of", d_goals_of) :: ("_law_draws", d_law_draws) :: ("_law_take", d_law_take) :: ("_law_pick", d_law_pick) :: ("_law_same", d_law_same) :: ("_law_names_of", d_law_names_of) :: ("_law_net", d_law_net) :: ("_law_marking", d_law_marking) :: ("_law_arc", d_law_arc) :: ("_law_taken", d_law_taken) :: ("_law_put_by", d_law_put_by) :: ("_law_after", d_law_after) :: ("_law_told", d_law_told) :: ("law", d_law) :: ("Moves.__init__", d_Moves___init__) :: ("Moves.can", d_Moves_can) :: ("Moves.after", d_Moves_after) :: ("Moves.able", d_Moves_able) :: ("Moves.end", d_Moves_end) :: []
def dd_law_flags : He.DefD := ⟨("_law_flags", none), "_law_flags", "_law_flags", defArgs (top 37), defBody (top 37), defScope (top 37), [], []⟩
def fn : List He.DefD := dd_is_integer :: dd_is_within :: dd_are_ascending :: dd_is_name :: dd_are_names :: dd_is_arc :: dd_is_net :: dd_check_net :: dd_is_marking_by :: dd_is_marking :: dd_check_marked :: dd_check_step :: dd_steps_at :: dd_is_run :: dd_end_of :: dd_turned :: dd_check_known :: dd_sources_of :: dd_goals_of :: dd_law_draws :: dd_law_take :: dd_law_pick :: dd_law_same :: dd_law_names_of :: dd_law_net :: dd_law_marking :: dd_law_arc :: dd_law_taken :: dd_law_put_by :: dd_law_after :: dd_law_told :: dd_law :: dd_Moves___init__ :: dd_Moves_can :: dd_Moves_after :: dd_Moves_able :: dd_Moves_end :: dd_law_flags :: []
abbrev Rw : PySem.W.OpenRow := PySem.W.OpenLaw.row PySem.Challenge.rw_tokenward_k02_whole_turned_nets_and_neig
abbrev hk : PySem.W.Hook := hookX tb sl 4 fn
def ob (s : PySem.W.SharedT) : He.AlD := obsXG tb sl 4 fn (HandSHeadRun.getT s)
theorem ob_eq (s : PySem.W.SharedT) : ob s = hk.obs s.abs := obsXG_eq (HandSHeadRun.getT_eq s)
def loose : List Str := "MOST_SIGNS" :: "TokenError" :: "NotRight" :: "NotThere" :: "NoAnswer" :: "TooLarge" :: "Malformed" :: "is_integer" :: "is_within" :: "are_ascending" :: "is_name" :: "are_names" :: "MOST_NAMES" :: "MOST_TOKENS" :: "MOST_MANY" :: "is_arc" :: "is_net" :: "check_net" :: "is_marking_by" :: "is_marking" :: "check_marked" :: "check_step" :: "Moves" :: "steps_at" :: "is_run" :: "end_of" :: "turned" :: "check_known" :: "sources_of" :: "goals_of" :: "_law_draws" :: "_law_take" :: "_law_pick" :: "_law_same" :: "_law_flags" :: "_law_names_of" :: "_law_net" :: "_law_marking" :: "_law_arc" :: "_law_taken" :: "_law_put_by" :: "_law_after" :: "_law_told" :: []
theorem run (w : World) : HandSHeadRun.RunEq Rw (PySem.W.view Rw.prog [46]) hk ob 20000 loose w := by
  intro os
  kernel_rfl
theorem flg {P : Program} {w : World} {K : PySem.W.Frag} {mg : Str → Option Value} {base h : Heap} (KX : K.In h) (Gn : h.Ns mainGlobals mg) (Fc : Facts tb sl K) (F : ∃ fd, FunD K dd_law_flags.name dd_law_flags.qual dd_law_flags.params dd_law_flags.body dd_law_flags.scope [] [] (He.fAd K dd_law_flags.at_) fd) : FlagDef P w K mg base (supOf sl) tb.flf tb.fls := by
  obtain ⟨fd, F⟩ := F
  have X := exF_of Fc.ex
  have mi : mg "isinstance" = none := He.free_ok KX Gn (Fc.bn _ (List.mem_of_getElem? (i := 0) rfl))
  have gc : ∀ (i : Nat) (c : Str), tb.ecs[i]? = some c → mg c = some (.ref (He.ga K c)) := fun i c e => He.glo_ok KX Gn (Fc.ec c (List.mem_of_getElem? e))
  have kc : ∀ (k0 : Str), (supOf sl k0).isEmpty = false → ∀ (i : Nat) (c : Str), tb.ecs[i]? = some c → PySem.W.kitOne K (.ref (He.ga K k0)) (.ref (He.ga K c)) = some ((supOf sl k0).contains c) := fun k0 h0 i c e => X.kit k0 h0 c (List.mem_of_getElem? e)
  exact ⟨_, fd, _, _, "e", _, _, _, _, _, ["e"], F, ⟨rfl, rfl, rfl, by decide +kernel, rfl, by decide +kernel, by decide +kernel⟩, F.bindsN fun _ _ _ _ _ _ us hl => match us, hl with | [_], _ => rfl, He.glo_ok KX Gn Fc.fl, fun k0 h0 a oe hz hf cdv A outer s H E => pss_flags
    (.cons (pe_flag1 rfl rfl rfl (by kernel_rfl) (X.ok k0 h0) hz hf List.mem_cons_self (kc k0 h0 1 _ rfl) (by kernel_rfl) mi (by kernel_rfl) (gc 1 _ rfl)) rfl (.cons (pe_flag1 rfl rfl rfl (by kernel_rfl) (X.ok k0 h0) hz hf List.mem_cons_self (kc k0 h0 2 _ rfl) (by kernel_rfl) mi (by kernel_rfl) (gc 2 _ rfl)) rfl (.cons (pe_flag1 rfl rfl rfl (by kernel_rfl) (X.ok k0 h0) hz hf List.mem_cons_self (kc k0 h0 3 _ rfl) (by kernel_rfl) mi (by kernel_rfl) (gc 3 _ rfl)) rfl (.cons (pe_flag1 rfl rfl rfl (by kernel_rfl) (X.ok k0 h0) hz hf List.mem_cons_self (kc k0 h0 4 _ rfl) (by kernel_rfl) mi (by kernel_rfl) (gc 4 _ rfl)) rfl (.cons (pe_flag1 rfl rfl rfl (by kernel_rfl) (X.ok k0 h0) hz hf List.mem_cons_self (kc k0 h0 5 _ rfl) (by kernel_rfl) mi (by kernel_rfl) (gc 5 _ rfl)) rfl .nil))))) (by rw [List.length_map]; decide)⟩
theorem defs {K : PySem.W.Frag} (c : SaysX tb sl fn K) : Defs tb K tab where
  fn := List.forall_mem_cons.mpr ⟨⟨_, _, _, _, _, _, _, p_is_integer (c.fund 0 rfl), by kernel_rfl, rfl, rfl⟩,
    List.forall_mem_cons.mpr ⟨⟨_, _, _, _, _, _, _, p_is_name (c.fund 3 rfl), by kernel_rfl, rfl, rfl⟩,
    List.forall_mem_cons.mpr ⟨⟨_, _, _, _, _, _, _, p_are_ascending (c.fund 2 rfl), by kernel_rfl, rfl, rfl⟩,
    List.forall_mem_cons.mpr ⟨⟨_, _, _, _, _, _, _, p_is_within (c.fund 1 rfl), by kernel_rfl, rfl, rfl⟩,
    List.forall_mem_cons.mpr ⟨⟨_, _, _, _, _, _, _, p_are_names (c.fund 4 rfl), by kernel_rfl, rfl, rfl⟩,
    List.forall_mem_cons.mpr ⟨⟨_, _, _, _, _, _, _, p_is_arc (c.fund 5 rfl), by kernel_rfl, rfl, rfl⟩,
    List.forall_mem_cons.mpr ⟨⟨_, _, _, _, _, _, _, p_is_net (c.fund 6 rfl), by kernel_rfl, rfl, rfl⟩,
    List.forall_mem_cons.mpr ⟨⟨_, _, _, _, _, _, _, p_check_net (c.fund 7 rfl), by kernel_rfl, rfl, rfl⟩,
    List.forall_mem_cons.mpr ⟨⟨_, _, _, _, _, _, _, p_is_marking_by (c.fund 8 rfl), by kernel_rfl, rfl, rfl⟩,
    List.forall_mem_cons.mpr ⟨⟨_, _, _, _, _, _, _, p_is_marking (c.fund 9 rfl), by kernel_rfl, rfl, rfl⟩,
    List.forall_mem_cons.mpr ⟨⟨_, _, _, _, _, _, _, p_check_marked (c.fund 10 rfl), by kernel_rfl, rfl, rfl⟩,
    List.forall_mem_cons.mpr ⟨⟨_, _, _, _, _, _, _, p_check_step (c.fund 11 rfl), by kernel_rfl, rfl, rfl⟩,
    List.forall_mem_cons.mpr ⟨⟨_, _, _, _, _, _, _, p_check_known (c.fund 16 rfl), by kernel_rfl, rfl, rfl⟩,
    List.forall_mem_cons.mpr ⟨⟨_, _, _, _, _, _, _, p_law_take (c.fund 20 rfl), by kernel_rfl, rfl, rfl⟩,
    List.forall_mem_cons.mpr ⟨⟨_, _, _, _, _, _, _, p_law_same (c.fund 22 rfl), by kernel_rfl, rfl, rfl⟩,
    List.forall_mem_cons.mpr ⟨⟨_, _, _, _, _, _, _, p_law_names_of (c.fund 23 rfl), by kernel_rfl, rfl, rfl⟩,
    List.forall_mem_cons.mpr ⟨⟨_, _, _, _, _, _, _, p_law_pick (c.fund 21 rfl), by kernel_rfl, rfl, rfl⟩,
    List.forall_mem_cons.mpr ⟨⟨_, _, _, _, _, _, _, p_law_arc (c.fund 26 rfl), by kernel_rfl, rfl, rfl⟩,
    List.forall_mem_cons.mpr ⟨⟨_, _, _, _, _, _, _, p_law_taken (c.fund 27 rfl), by kernel_rfl, rfl, rfl⟩,
    List.forall_mem_cons.mpr ⟨⟨_, _, _, _, _, _, _, p_law_put_by (c.fund 28 rfl), by kernel_rfl, rfl, rfl⟩,
    List.forall_mem_cons.mpr ⟨⟨_, _, _, _, _, _, _, p_turned (c.fund 15 rfl), by kernel_rfl, rfl, rfl⟩,
    List.forall_mem_cons.mpr ⟨⟨_, _, _, _, _, _, _, p_goals_of (c.fund 18 rfl), by kernel_rfl, rfl, rfl⟩,
    List.forall_mem_cons.mpr ⟨⟨_, _, _, _, _, _, _, p_sources_of (c.fund 17 rfl), by kernel_rfl, rfl, rfl⟩,
    List.forall_mem_cons.mpr ⟨⟨_, _, _, _, _, _, _, p_law_draws (c.fund 19 rfl), by kernel_rfl, rfl, rfl⟩,
    List.forall_mem_cons.mpr ⟨⟨_, _, _, _, _, _, _, p_law_net (c.fund 24 rfl), by kernel_rfl, rfl, rfl⟩,
    List.forall_mem_cons.mpr ⟨⟨_, _, _, _, _, _, _, p_law_told (c.fund 30 rfl), by kernel_rfl, rfl, rfl⟩,
    List.forall_mem_cons.mpr ⟨⟨_, _, _, _, _, _, _, p_law_marking (c.fund 25 rfl), by kernel_rfl, rfl, rfl⟩,
    List.forall_mem_cons.mpr ⟨⟨_, _, _, _, _, _, _, p_law_after (c.fund 29 rfl), by kernel_rfl, rfl, rfl⟩,
    List.forall_mem_cons.mpr ⟨⟨_, _, _, _, _, _, _, p_end_of (c.fund 14 rfl), by kernel_rfl, rfl, rfl⟩,
    List.forall_mem_cons.mpr ⟨⟨_, _, _, _, _, _, _, p_is_run (c.fund 13 rfl), by kernel_rfl, rfl, rfl⟩,
    List.forall_mem_cons.mpr ⟨⟨_, _, _, _, _, _, _, p_steps_at (c.fund 12 rfl), by kernel_rfl, rfl, rfl⟩,
    List.forall_mem_cons.mpr ⟨⟨_, _, _, _, _, _, _, p_law (c.fund 31 rfl), by kernel_rfl, rfl, rfl⟩,
    List.forall_mem_nil _⟩⟩⟩⟩⟩⟩⟩⟩⟩⟩⟩⟩⟩⟩⟩⟩⟩⟩⟩⟩⟩⟩⟩⟩⟩⟩⟩⟩⟩⟩⟩⟩
  me := List.forall_mem_cons.mpr ⟨⟨_, _, _, _, _, _, _, p_Moves_able (c.fund 35 rfl), by kernel_rfl, rfl, rfl⟩,
    List.forall_mem_cons.mpr ⟨⟨_, _, _, _, _, _, _, p_Moves_end (c.fund 36 rfl), by kernel_rfl, rfl, rfl⟩,
    List.forall_mem_cons.mpr ⟨⟨_, _, _, _, _, _, _, p_Moves_can (c.fund 33 rfl), by kernel_rfl, rfl, rfl⟩,
    List.forall_mem_cons.mpr ⟨⟨_, _, _, _, _, _, _, p_Moves_after (c.fund 34 rfl), by kernel_rfl, rfl, rfl⟩,
    List.forall_mem_nil _⟩⟩⟩⟩
  ne := List.forall_mem_cons.mpr ⟨⟨_, _, _, _, _, _, _, p_Moves___init__ (c.fund 32 rfl), by kernel_rfl, rfl, rfl⟩,
    List.forall_mem_nil _⟩
theorem law_fn {P : Program} {w : World} {K : PySem.W.Frag} {h : Heap} {mg : Str → Option Value} {f : Addr} (m w9 : Nat) (KX : K.In h) (Gn : h.Ns mainGlobals mg) (hfa : mg ("law" : Str) = some (.ref f)) (c : SaysX tb sl fn K) :
    ∃ fd : FuncData, (∀ (s : Shared) (v : Value), BindsTo s fd ⟨[v], []⟩ [("script", v)]) ∧ ∀ base : Heap, K.In base → base.Ns mainGlobals mg → FnOk P w K mg base CXw (2 * m + 2) f fd ["script"] (spOf K (gl tab (supOf sl) w9 (m + 1)) "law" 1) := by
  obtain ⟨fd, F⟩ := c.fund 31 (d := dd_law) rfl
  have e := hfa.symm.trans (He.glo_ok KX Gn (c.facts.fn _ (List.mem_of_getElem? (i := 31) rfl)))
  cases e
  have b := FunD.bindsA (ps := ["script"]) F fun _ _ _ _ _ _ us hl => match us, hl with | [_], _ => rfl
  refine ⟨fd, fun s v => b s [v] rfl, fun base _ _ => fn_cxw ?_⟩
  exact (p_law ⟨fd, F⟩).stepF F (by kernel_rfl) (al_all KX Gn c.facts (sta_of KX Gn c.facts (flg KX Gn c.facts (c.fund 37 rfl))) (defs c) m)
end K02
end
section
set_option linter.all false
set_option maxRecDepth 100000
set_option maxHeartbeats 4000000
/-! The evaluator run by rewriting. -/
namespace Tk
open PySem
section
variable {α β : Type} {g : G} {S S1 : SS} {br : List Nat} {np : List Nat}
theorem bind_ok' {a : α} {f : α → SS → R β} : (R.ok a S).bind f = f a S := rfl
theorem bind_exc' {x : D} {f : α → SS → R β} : (R.exc x S : R α).bind f = .exc x S := rfl
theorem bind_bad' {f : α → SS → R β} : (R.bad : R α).bind f = .bad := rfl
theorem fl_ok' {a : α} {f : α → SS → Fl} : (R.ok a S).fl f = f a S := rfl
theorem fl_exc' {x : D} {f : α → SS → Fl} : (R.exc x S : R α).fl f = .exc x S := rfl
theorem opt_some' {a : α} : R.opt S (some a) = .ok a S := rfl
theorem frz_ok' {t : OT} : (R.ok t S).frz = .ok t.frz S := rfl
theorem frz_exc' {x : D} : (R.exc x S : R OT).frz = .exc x S := rfl
theorem seq_nx {k : SS → Fl} : (Fl.nx S).seq k = k S := rfl
theorem seq_ret {t : OT} {k : SS → Fl} : (Fl.ret t S).seq k = .ret t S := rfl
theorem seq_exc {x : D} {k : SS → Fl} : (Fl.exc x S).seq k = .exc x S := rfl
theorem seq_brk {k : SS → Fl} : (Fl.brk S).seq k = .brk S := rfl
theorem seq_cnt {k : SS → Fl} : (Fl.cnt S).seq k = .cnt S := rfl
theorem getS_nil {i : Nat} : getS [] i = .un := rfl
theorem getS_0 {s : Sl} : getS (s :: S) 0 = s := rfl
theorem getS_s {s : Sl} {i : Nat} : getS (s :: S) (i + 1) = getS S i := rfl
theorem frz_leaf {d : D} : (OT.leaf d).frz = d := rfl
theorem frz_lst {ts : List OT} : (OT.lst ts).frz = .lst (OT.frzs ts) := rfl
theorem frz_dic {ks : List D} {ts : List OT} : (OT.dic ks ts).frz = .dic ks (OT.frzs ts) := rfl
theorem frz_ins {c : Str} {ns : List Str} {ts : List OT} : (OT.ins c ns ts).frz = .ins c ns (OT.frzs ts) := rfl
theorem keep_leaf {k : Bool} {d : D} : keepT k (.leaf d) = .leaf d := by cases k <;> rfl
theorem keep_f {t : OT} : keepT false t = .leaf t.frz := rfl
theorem keep_t {t : OT} : keepT true t = t := rfl
/-! statements -/
theorem dS_skip : dS g br .skip S = .nx S := rfl
theorem dS_seq {a b : Tk.S} : dS g br (.seq a b) S = (dS g br a S).seq (dS g br b) := rfl
theorem dS_asg {t : Tg} {e : E} : dS g br (.asg t e) S = ((den g e).v S).fl fun u S1 => setO br t u S1 := rfl
theorem dS_asgN {is : List Nat} {es : List E} : dS g br (.asgN is es) S = (evMs true (dens g es) S).fl fun us S1 => setN br is us S1 := rfl
theorem dS_sto {k : Bool} {l : LV} {e : E} : dS g br (.sto k l e) S = ((den g e).v S).fl fun u S1 => stoL g br l (keepT k u) S1 := rfl
theorem dS_stos {ls : List LV} {e : E} : dS g br (.stos ls e) S = ((den g e).v S).fl fun u S1 => match u.frz with
    | .tup ds => stoLs g br ls ds S1
    | _ => .bad := rfl
theorem dS_ex {e : E} : dS g br (.ex e) S = ((den g e).v S).fl fun _ S1 => .nx S1 := rfl
theorem dS_ite {c : E} {a b : Tk.S} : dS g br (.ite c a b) S = ((den g c).t S).fl fun t S1 => if t then dS g br a S1 else dS g br b S1 := rfl
theorem dS_for {kill : List Nat} {t : Tg} {it : It} {b : Tk.S} : dS g br (.for_ kill t it b) S = if !t.free br then .bad else (dit g false it S).fl fun ds S1 => loopS kill (fun d T => match setT t d T with
      | none => .bad
      | some T1 => dS g br b T1) ds (wipeS S1 kill) := rfl
theorem dS_ret {e : E} : dS g br (.ret e) S = (moveOut br (den g e) (plainName e) S).fl fun t S1 => .ret t S1 := rfl
theorem dS_retN : dS g br .retN S = .ret (.leaf .non) S := rfl
theorem dS_brk : dS g br .brk S = .brk S := rfl
theorem dS_cnt : dS g br .cnt S = .cnt S := rfl
theorem dS_raise {c : Str} {as : List E} : dS g br (.raise c as) S = (evFs (dens g as) S).fl fun ds S1 => match ds with
    | [d] => .exc (.exn c [] [d]) S1
    | _ => .bad := rfl
theorem dS_tryF {b : Tk.S} {c : Str} {i : Nat} {fs : List Str} : dS g br (.tryF b c i fs) S = match dS g br b S with
    | .exc x S1 => flagsF g.sup c i fs x S1
    | f => f := rfl
end
section
variable {g : G}
theorem den_add {es : List E} : den g (.prim .add es) = dPrim g .add (dens g es) := rfl
theorem den_sub {es : List E} : den g (.prim .sub es) = dPrim g .sub (dens g es) := rfl
theorem den_mul {es : List E} : den g (.prim .mul es) = dPrim g .mul (dens g es) := rfl
theorem den_fdiv {es : List E} : den g (.prim .fdiv es) = dPrim g .fdiv (dens g es) := rfl
theorem den_mod {es : List E} : den g (.prim .mod es) = dPrim g .mod (dens g es) := rfl
theorem den_pow {es : List E} : den g (.prim .pow es) = dPrim g .pow (dens g es) := rfl
theorem den_neg {es : List E} : den g (.prim .neg es) = dPrim g .neg (dens g es) := rfl
theorem den_eq {es : List E} : den g (.prim .eq es) = dPrim g .eq (dens g es) := rfl
theorem den_ne {es : List E} : den g (.prim .ne es) = dPrim g .ne (dens g es) := rfl
theorem den_lt {es : List E} : den g (.prim .lt es) = dPrim g .lt (dens g es) := rfl
theorem den_le {es : List E} : den g (.prim .le es) = dPrim g .le (dens g es) := rfl
theorem den_gt {es : List E} : den g (.prim .gt es) = dPrim g .gt (dens g es) := rfl
theorem den_ge {es : List E} : den g (.prim .ge es) = dPrim g .ge (dens g es) := rfl
theorem den_isN {es : List E} : den g (.prim .isN es) = dPrim g .isN (dens g es) := rfl
theorem den_notN {es : List E} : den g (.prim .notN es) = dPrim g .notN (dens g es) := rfl
theorem den_in_ {es : List E} : den g (.prim .in_ es) = dPrim g .in_ (dens g es) := rfl
theorem den_nin {es : List E} : den g (.prim .nin es) = dPrim g .nin (dens g es) := rfl
theorem den_idx {es : List E} : den g (.prim .idx es) = dPrim g .idx (dens g es) := rfl
theorem den_rev {es : List E} : den g (.prim .rev es) = dPrim g .rev (dens g es) := rfl
theorem den_len {es : List E} : den g (.prim .len es) = dPrim g .len (dens g es) := rfl
theorem den_abs {es : List E} : den g (.prim .abs es) = dPrim g .abs (dens g es) := rfl
theorem den_max {es : List E} : den g (.prim .max es) = dPrim g .max (dens g es) := rfl
theorem den_min {es : List E} : den g (.prim .min es) = dPrim g .min (dens g es) := rfl
theorem den_sum {es : List E} : den g (.prim .sum es) = dPrim g .sum (dens g es) := rfl
theorem den_all {es : List E} : den g (.prim .all es) = dPrim g .all (dens g es) := rfl
theorem den_any {es : List E} : den g (.prim .any es) = dPrim g .any (dens g es) := rfl
theorem den_sorted {es : List E} : den g (.prim .sorted es) = dPrim g .sorted (dens g es) := rfl
theorem den_list {es : List E} : den g (.prim .list es) = dPrim g .list (dens g es) := rfl
theorem den_tuple {es : List E} : den g (.prim .tuple es) = dPrim g .tuple (dens g es) := rfl
theorem den_int {es : List E} : den g (.prim .int es) = dPrim g .int (dens g es) := rfl
theorem den_str {es : List E} : den g (.prim .str es) = dPrim g .str (dens g es) := rfl
theorem den_lrev {es : List E} : den g (.prim .lrev es) = dPrim g .lrev (dens g es) := rfl
theorem den_join {es : List E} : den g (.prim .join es) = dPrim g .join (dens g es) := rfl
theorem den_slc {a b : Bool} {es : List E} : den g (.prim (.slc a b) es) = dPrim g (.slc a b) (dens g es) := rfl
theorem den_isinst {cs : List Str} {es : List E} : den g (.prim (.isinst cs) es) = dPrim g (.isinst cs) (dens g es) := rfl
theorem den_fstr {es : List E} : den g (.prim .fstr es) = dFstr (dens g es) := rfl
theorem den_get2 {a b c : E} : den g (.prim .get2 [a, b, c]) = dGet2 (den g a) (den g b) (den g c) := rfl
theorem den_cst {d : D} : den g (.cst d) = .of true fun S => .ok (.leaf d) S := rfl
theorem den_pl {i : Nat} {st : List Sp} : den g (.pl i st) = dPl i (Sp.pures st) (dsp g st) := rfl
theorem den_tup {es : List E} : den g (.tup es) = dTup (dens g es) := rfl
theorem den_lst {k : Bool} {es : List E} : den g (.lst k es) = dLst k (dens g es) := rfl
theorem den_star {e : E} : den g (.star e) = { den g e with k := .star } := rfl
theorem den_chain {p q : P} {a b c : E} : den g (.chain p q a b c) = dChain g p q (den g a) (den g b) (den g c) := rfl
theorem den_and {es : List E} : den g (.and_ es) = dAnd (dens g es) := rfl
theorem den_or {es : List E} : den g (.or_ es) = dOr (dens g es) := rfl
theorem den_not {a : E} : den g (.not_ a) = dNot (den g a) := rfl
theorem den_ife {a b c : E} : den g (.ife a b c) = dIfe (den g a) (den g b) (den g c) := rfl
theorem den_attr {e : E} {f : Str} : den g (.attr e f) = dAttr (den g e) f := rfl
theorem den_call {f : Str} {as : List E} : den g (.call f as) = dCall g f (dens g as) := rfl
theorem den_tcall {fs : List Str} {ix : E} {as : List E} : den g (.tcall fs ix as) = dTcall g fs (den g ix) (dens g as) := rfl
theorem den_meth {c m : Str} {r : E} {as : List E} : den g (.meth c m r as) = dMeth g c m (den g r) (dens g as) := rfl
theorem den_new {f : Bool} {c : Str} {as : List E} : den g (.new f c as) = dNew g f c (dens g as) := rfl
theorem den_mut {m : M} {k : Bool} {i : Nat} {as : List E} : den g (.mut m k i [] as) = dMut g m k i (dens g as) := rfl
theorem den_bor {i : Nat} {st : List Sp} : den g (.bor i st) = { Den.of false vBad with k := .lent i (dsp g st) } := rfl
theorem den_lcomp {k : Bool} {own : List Nat} {e : E} {gs : List Gen} : den g (.lcomp k own e gs) = dLcomp (e.pure && Gen.pures gs) k own (den g e) (dgens g (e.pure && Gen.pures gs) gs) := rfl
theorem den_dcomp {k : Bool} {own : List Nat} {a e : E} {gs : List Gen} : den g (.dcomp k own a e gs) = dDcomp (a.pure && (e.pure && Gen.pures gs)) a.isTup k own (den g a) (den g e) (dgens g (a.pure && (e.pure && Gen.pures gs)) gs) := rfl
theorem dens_nil : dens g [] = [] := rfl
theorem dens_cons {e : E} {es : List E} : dens g (e :: es) = den g e :: dens g es := rfl
theorem dsp_nil : dsp g [] = fun S => .ok [] S := rfl
theorem dsp_attr {f : Str} {r : List Sp} : dsp g (.attr f :: r) = fun S => (dsp g r S).bind fun ps S1 => .ok (.attr f :: ps) S1 := rfl
theorem dit_seq {pu : Bool} {e : E} : dit g pu (.seq e) = iSeq pu (den g e) := rfl
theorem dit_range {pu : Bool} {es : List E} : dit g pu (.range es) = iRange pu (dens g es) := rfl
theorem dit_zip {pu : Bool} {es : List E} : dit g pu (.zip es) = iZip pu (dens g es) := rfl
end
theorem runD_eq {g : G} {d : Def} {ts : List OT} (h : ts.length = d.np) : runD g d ts = match dS g d.br d.body (ts.map .own ++ List.replicate (d.ns - d.np) .un) with
    | .nx S => (match lastOf S d.br d.np 0 with | some ps => .ok (.leaf .non) ps | none => .bad)
    | .ret t S => (match lastOf S d.br d.np 0 with | some ps => .ok t ps | none => .bad)
    | .exc x S => (match lastOf S d.br d.np 0 with | some ps => .exc x ps | none => .bad)
    | _ => .bad := if_pos h
theorem nodup_nil {α : Type} [DecidableEq α] : (!decide (([] : List α).Nodup)) = false := by simp
theorem nodup_one {i : Nat} : (!decide ([i].Nodup)) = false := by simp
/-! ### values -/
section
variable {sup : Str → List Str}
theorem sem_eq_int {a b : Int} : P.eq.sem sup [.int a, .int b] = some (.bl (decide (a = b))) := rfl
theorem sem_ne_int {a b : Int} : P.ne.sem sup [.int a, .int b] = some (.bl (!decide (a = b))) := rfl
theorem sem_lt_int {a b : Int} : P.lt.sem sup [.int a, .int b] = some (.bl (decide (a < b))) := rfl
theorem sem_gt_int {a b : Int} : P.gt.sem sup [.int a, .int b] = some (.bl (decide (b < a))) := rfl
theorem sem_le_int {a b : Int} : P.le.sem sup [.int a, .int b] = some (.bl (decide (a ≤ b))) := by
  show some (D.bl (!decide (b < a))) = _
  rw [← decide_not]
  congr 2
  exact decide_eq_decide.mpr (by omega)
theorem sem_ge_int {a b : Int} : P.ge.sem sup [.int a, .int b] = some (.bl (decide (b ≤ a))) := by
  show some (D.bl (!decide (a < b))) = _
  rw [← decide_not]
  congr 2
  exact decide_eq_decide.mpr (by omega)
theorem sem_add_int {a b : Int} : P.add.sem sup [.int a, .int b] = some (.int (a + b)) := rfl
theorem sem_sub_int {a b : Int} : P.sub.sem sup [.int a, .int b] = some (.int (a - b)) := rfl
theorem sem_int {a : Int} : P.int.sem sup [.int a] = some (.int a) := rfl
theorem sem_int_b {b : Bool} : P.int.sem sup [.bl b] = some (.int (if b then 1 else 0)) := rfl
theorem sem_abs {a : Int} : P.abs.sem sup [.int a] = some (.int (if a < 0 then -a else a)) := rfl
theorem sem_len_tup {ds : List D} : P.len.sem sup [.tup ds] = some (.int ds.length) := rfl
theorem sem_len_lst {ds : List D} : P.len.sem sup [.lst ds] = some (.int ds.length) := rfl
theorem sem_list_l {ds : List D} : P.list.sem sup [.lst ds] = some (.lst ds) := rfl
theorem sem_list_t {ds : List D} : P.list.sem sup [.tup ds] = some (.lst ds) := rfl
theorem sem_tuple_l {ds : List D} : P.tuple.sem sup [.lst ds] = some (.tup ds) := rfl
theorem sem_tuple_t {ds : List D} : P.tuple.sem sup [.tup ds] = some (.tup ds) := rfl
theorem sem_lrev {ds : List D} : P.lrev.sem sup [.lst ds] = some (.lst ds.reverse) := rfl
theorem sem_mod {a b : Int} (h : b ≠ 0) : P.mod.sem sup [.int a, .int b] = some (.int (a.fmod b)) := by
  show Tk.chk (decide (b ≠ 0)) _ = _
  rw [decide_eq_true h]
  rfl
theorem sem_fdiv {a b : Int} (h : b ≠ 0) (h2 : b.natAbs < 1073741824) : P.fdiv.sem sup [.int a, .int b] = some (.int (a.fdiv b)) := by
  show Tk.chk (decide (b ≠ 0) && decide (b.natAbs < 1073741824)) _ = _
  rw [decide_eq_true h, decide_eq_true h2]
  rfl
theorem sem_idx_t {ds : List D} {i : Int} : P.idx.sem sup [.tup ds, .int i] = atL ds i := rfl
theorem sem_idx_l {ds : List D} {i : Int} : P.idx.sem sup [.lst ds, .int i] = atL ds i := rfl
theorem sem_isN {d : D} : P.isN.sem sup [d] = some (.bl (decide (d = .non))) := rfl
theorem sem_notN {d : D} : P.notN.sem sup [d] = some (.bl (!decide (d = .non))) := rfl
theorem boolsOf_map {α : Type} (p : α → Bool) : ∀ l : List α, boolsOf (l.map fun x => D.bl (p x)) = some (l.map p)
  | [] => rfl
  | x :: l => by
    show (boolsOf (l.map fun x => D.bl (p x))).map (p x :: ·) = _
    rw [boolsOf_map p l]
    rfl
theorem intsOf_map {α : Type} (p : α → Int) : ∀ l : List α, intsOf (l.map fun x => D.int (p x)) = some (l.map p)
  | [] => rfl
  | x :: l => by
    show (intsOf (l.map fun x => D.int (p x))).map (p x :: ·) = _
    rw [intsOf_map p l]
    rfl
theorem strsOf_map {α : Type} (p : α → Str) : ∀ l : List α, strsOf (l.map fun x => D.str (p x)) = some (l.map p)
  | [] => rfl
  | x :: l => by
    show (strsOf (l.map fun x => D.str (p x))).map (p x :: ·) = _
    rw [strsOf_map p l]
    rfl
theorem sem_all {α : Type} {p : α → Bool} {l : List α} : P.all.sem sup [.lst (l.map fun x => D.bl (p x))] = some (.bl (l.all p)) := by
  show (boolsOf _).map (fun bs => D.bl (bs.all id)) = _
  rw [boolsOf_map]
  simp [List.all_map, Function.comp_def]
theorem sem_any {α : Type} {p : α → Bool} {l : List α} : P.any.sem sup [.lst (l.map fun x => D.bl (p x))] = some (.bl (l.any p)) := by
  show (boolsOf _).map (fun bs => D.bl (bs.any id)) = _
  rw [boolsOf_map]
  simp [List.any_map, Function.comp_def]
theorem sem_sum {α : Type} {p : α → Int} {l : List α} : P.sum.sem sup [.lst (l.map fun x => D.int (p x))] = some (.int (l.map p).sum) := by
  show (intsOf _).map (fun bs => D.int bs.sum) = _
  rw [intsOf_map]
  rfl
theorem atL_nat {α : Type} {l : List α} {k : Nat} (h : k < l.length) : atL l (k : Int) = l[k]? := by
  unfold atL ixOf
  rw [if_pos (by omega), if_pos (by omega)]
  rfl
theorem atL_0 {α : Type} {a : α} {l : List α} : atL (a :: l) 0 = some a := atL_nat (k := 0) (by simp)
theorem atL_1 {α : Type} {a b : α} {l : List α} : atL (a :: b :: l) 1 = some b := atL_nat (k := 1) (by simp)
theorem atL_2 {α : Type} {a b c : α} {l : List α} : atL (a :: b :: c :: l) 2 = some c := atL_nat (k := 2) (by simp)
theorem sem_slc1 {ds : List D} : (P.slc true false).sem sup [.tup ds, .int 1] = some (.tup (ds.drop 1)) := by
  show some (D.tup ((ds.drop (min 1 ds.length)).take (ds.length - min 1 ds.length))) = _
  rw [List.take_of_length_le (by rw [List.length_drop]; omega)]
  cases ds with
  | nil => rfl
  | cons a l => rw [show min 1 (a :: l).length = 1 from Nat.min_eq_left (by simp)]
theorem sem_slF2 {ds : List D} : (P.slc false true).sem sup [.tup ds, .int 2] = some (.tup (ds.take 2)) := by
  show some (D.tup ((ds.drop 0).take (min 2 ds.length - 0))) = _
  rw [List.drop_zero, Nat.sub_zero]
  by_cases h : 2 ≤ ds.length
  · rw [Nat.min_eq_left h]
  · rw [Nat.min_eq_right (by omega), List.take_of_length_le (Nat.le_refl _), List.take_of_length_le (by omega)]
theorem sem_lt_str {a b : Str} : P.lt.sem sup [.str a, .str b] = some (.bl (decide (a.cps.toList < b.cps.toList))) := rfl
def pairLt (a b c d : Str) : Bool := if a = c then (if b = d then false else decide (b.cps.toList < d.cps.toList)) else decide (a.cps.toList < c.cps.toList)
theorem sem_lt_pair {a b c d : Str} : P.lt.sem sup [.tup [.str a, .str b], .tup [.str c, .str d]] = some (.bl (pairLt a b c d)) := by
  show some (D.bl (if decide (a = c) = true then (if decide (b = d) = true then false else decide (b.cps.toList < d.cps.toList)) else decide (a.cps.toList < c.cps.toList))) = _
  unfold pairLt
  simp only [decide_eq_true_eq]
theorem plains_str : ∀ (n : Nat) (xs : List Str), D.plainsN n (xs.map .str) = true
  | _, [] => rfl
  | n, x :: xs => by
    show (D.plainN n (.str x) && D.plainsN n (xs.map .str)) = true
    rw [plains_str n xs]
    cases n <;> rfl
theorem any_str (x : Str) : ∀ xs : List Str, ((xs.map D.str).any fun d => D.eqv d (.str x)) = xs.any fun y => decide (y = x)
  | [] => rfl
  | y :: xs => by
    show (D.eqv (.str y) (.str x) || ((xs.map D.str).any fun d => D.eqv d (.str x))) = _
    rw [any_str x xs]
    rfl
theorem sem_in_str {x : Str} {xs : List Str} : P.in_.sem sup [.str x, .tup (xs.map .str)] = some (.bl (decide (x ∈ xs))) := by
  show Tk.chk (D.plain (.str x) && D.plains (xs.map .str)) (.bl ((xs.map D.str).any fun d => D.eqv d (.str x))) = _
  rw [any_str, show D.plains (xs.map .str) = true from plains_str 59 xs]
  show some (D.bl _) = _
  congr 2
  rw [Bool.eq_iff_iff]
  simp
theorem isi_tup_t {ds : List D} : (P.isinst ["tuple"]).sem sup [.tup ds] = some (.bl true) := rfl
theorem isi_tup_l {ds : List D} : (P.isinst ["tuple"]).sem sup [.lst ds] = some (.bl false) := rfl
theorem isi_tup_n : (P.isinst ["tuple"]).sem sup [.non] = some (.bl false) := rfl
theorem isi_str_s {x : Str} : (P.isinst ["str"]).sem sup [.str x] = some (.bl true) := rfl
mutual
theorem eqv_self : ∀ {n : Nat} {d : D}, D.plainN n d = true → D.eqv d d = true
  | _, .non, _ => rfl
  | _, .bl b, _ => by show decide ((if b then (1 : Int) else 0) = (if b then (1 : Int) else 0)) = true; simp
  | _, .int i, _ => by show decide (i = i) = true; simp
  | _, .str x, _ => by show decide (x = x) = true; simp
  | n + 1, .tup ds, h => eqvs_self (n := n) (ds := ds) (by cases n <;> exact h)
  | n + 1, .lst ds, h => eqvs_self (n := n) (ds := ds) (by cases n <;> exact h)
  | 0, .tup ds, h => by cases h
  | 0, .lst ds, h => by cases h
  | _, .dic _ _, h => by rename_i n _ _; cases n <;> cases h
  | _, .ins _ _ _, h => by rename_i n _ _ _; cases n <;> cases h
  | _, .exn _ _ _, h => by rename_i n _ _ _; cases n <;> cases h
  | _, .scr _, h => by rename_i n _; cases n <;> cases h
theorem eqvs_self : ∀ {n : Nat} {ds : List D}, D.plainsN n ds = true → D.eqvs ds ds = true
  | _, [], _ => rfl
  | n, d :: ds, h => by
    have h : (D.plainN n d && D.plainsN n ds) = true := h
    obtain ⟨h1, h2⟩ := Bool.and_eq_true_iff.mp h
    show (D.eqv d d && D.eqvs ds ds) = true
    rw [eqv_self h1, eqvs_self h2]
    rfl
end
end
/-! ### walks that change nothing else -/
def OkW {β : Type} (own : List Nat) (T0 : SS) (x : β) (r : R β) : Prop := match r with
  | .ok a T => a = x ∧ wipeS T own = T0
  | _ => False
theorem OkW.ok {β : Type} {own : List Nat} {T0 : SS} {x : β} {r : R β} (h : OkW own T0 x r) : ∃ T, r = .ok x T ∧ wipeS T own = T0 := by
  cases r with
  | ok a T =>
    obtain ⟨rfl, h2⟩ := (show a = x ∧ wipeS T own = T0 from h)
    exact ⟨T, rfl, h2⟩
  | exc y T => exact h.elim
  | bad => exact h.elim
theorem loopW_map {α : Type} {own : List Nat} {f : D → List OT → SS → R (List OT)} {φ : α → D} {h : α → List OT} {T0 : SS} : ∀ {l : List α} {acc : List OT}, (∀ d, d ∈ l → ∀ acc : List OT, acc.length < lim → OkW own T0 (acc ++ h d) (f (φ d) acc T0)) → (∀ d, (h d).length ≤ 1) → acc.length + l.length ≤ lim →
    loopW own f (l.map φ) acc T0 = .ok (acc ++ l.flatMap h) T0
  | [], acc, _, _, _ => by simp [loopW]
  | d :: ds, acc, hb, h1, hl => by
    rw [List.length_cons] at hl
    obtain ⟨T, e1, e2⟩ := (hb d List.mem_cons_self acc (by omega)).ok
    show (f (φ d) acc T0).bind (fun b' S' => loopW own f (ds.map φ) b' (wipeS S' own)) = _
    rw [e1]
    show loopW own f (ds.map φ) (acc ++ h d) (wipeS T own) = _
    rw [e2, loopW_map (fun d hd => hb d (List.mem_cons_of_mem _ hd)) h1 (by rw [List.length_append]; have := h1 d; omega), List.flatMap_cons, List.append_assoc]
section
variable {α : Type} {p keep : Bool} {own : List Nat} {e : Den} {gd : GenD} {S : SS}
theorem lcomp_run (l : List α) (φ : α → D) (h : α → List OT) (hit : gd.it S = .ok (l.map φ) S) (hb : ∀ d, d ∈ l → ∀ acc : List OT, acc.length < lim → OkW own (wipeS S own) (acc ++ h d) (turnL keep gd e (φ d) acc (wipeS S own)))
    (h1 : ∀ d, (h d).length ≤ 1) (hl : l.length ≤ lim) (hw : backL S (wipeS S own) own = S) : (dLcomp p keep own e [gd]).v S = .ok (.lst (l.flatMap h)) S := by
  show ((gd.it S).bind fun ds S1 => (loopW own (turnL keep gd e) ds [] (wipeS S1 own)).bind fun acc T => R.ok (OT.lst acc) (backL S1 T own)) = _
  rw [hit]
  show ((loopW own (turnL keep gd e) (l.map φ) [] (wipeS S own)).bind fun acc T => R.ok (OT.lst acc) (backL S T own)) = _
  rw [loopW_map hb h1 (by simpa using hl)]
  show R.ok _ (backL S (wipeS S own) own) = _
  rw [hw]
  rfl
theorem lcomp_map (l : List α) (φ : α → D) (ψ : α → OT) (hit : gd.it S = .ok (l.map φ) S) (hb : ∀ d, d ∈ l → ∀ acc : List OT, acc.length < lim → OkW own (wipeS S own) (acc ++ [ψ d]) (turnL keep gd e (φ d) acc (wipeS S own))) (hl : l.length ≤ lim) (hw : backL S (wipeS S own) own = S) :
    (dLcomp p keep own e [gd]).v S = .ok (.lst (l.map ψ)) S := by
  rw [lcomp_run l φ (fun d => [ψ d]) hit hb (fun _ => by simp) hl hw]
  have e : ∀ l : List α, l.flatMap (fun d => [ψ d]) = l.map ψ := fun l => by
    induction l with
    | nil => rfl
    | cons a l ih => rw [List.flatMap_cons, ih]; rfl
  rw [e]
theorem lcomp_filter (l : List α) (φ : α → D) (q : α → Bool) (ψ : α → OT) (hit : gd.it S = .ok (l.map φ) S) (hb : ∀ d, d ∈ l → ∀ acc : List OT, acc.length < lim → OkW own (wipeS S own) (acc ++ if q d then [ψ d] else []) (turnL keep gd e (φ d) acc (wipeS S own))) (hl : l.length ≤ lim) (hw : backL S (wipeS S own) own = S) :
    (dLcomp p keep own e [gd]).v S = .ok (.lst ((l.filter q).map ψ)) S := by
  rw [lcomp_run l φ (fun d => if q d then [ψ d] else []) hit hb (fun d => by by_cases h : q d <;> simp [h]) hl hw]
  have e : ∀ l : List α, l.flatMap (fun d => if q d then [ψ d] else []) = (l.filter q).map ψ := fun l => by
    induction l with
    | nil => rfl
    | cons a l ih =>
      rw [List.flatMap_cons, ih, List.filter_cons]
      by_cases h : q a = true <;> simp [h]
  rw [e]
end
/-! ### dicts made by a walk -/
theorem putD_new {α : Type} {k : D} {v : α} : ∀ {ks : List D} {vs : List α}, ks.length = vs.length → k ∉ ks → putD ks vs k v = (ks ++ [k], vs ++ [v])
  | [], [], _, _ => rfl
  | [], _ :: _, h, _ => by cases h
  | _ :: _, [], h, _ => by cases h
  | a :: ks, b :: vs, h, hk => by
    have h1 : a ≠ k := fun e => hk (by rw [e]; exact List.mem_cons_self)
    have e : putD (a :: ks) (b :: vs) k v = (a :: (putD ks vs k v).1, b :: (putD ks vs k v).2) := if_neg h1
    rw [e, putD_new (Nat.succ.inj h) fun z => hk (List.mem_cons_of_mem _ z)]
    rfl
theorem loopD_map {α : Type} {own : List Nat} {f : D → List D × List OT → SS → R (List D × List OT)} {φ κ : α → D} {ψ : α → OT} {T0 : SS} : ∀ {l : List α} {ks : List D} {vs : List OT}, (∀ a, a ∈ l → ∀ acc : List D × List OT, acc.1.length < lim → OkW own T0 (putD acc.1 acc.2 (κ a) (ψ a)) (f (φ a) acc T0)) → ks.length = vs.length → (ks ++ l.map κ).Nodup → ks.length + l.length ≤ lim →
    loopW own f (l.map φ) (ks, vs) T0 = .ok (ks ++ l.map κ, vs ++ l.map ψ) T0
  | [], ks, vs, _, _, _, _ => by simp [loopW]
  | a :: l, ks, vs, hb, he, nd, hl => by
    rw [List.length_cons] at hl
    obtain ⟨T, e1, e2⟩ := (hb a List.mem_cons_self (ks, vs) (by show ks.length < lim; omega)).ok
    show (f (φ a) (ks, vs) T0).bind (fun b' S' => loopW own f (l.map φ) b' (wipeS S' own)) = _
    rw [e1]
    show loopW own f (l.map φ) (putD ks vs (κ a) (ψ a)) (wipeS T own) = _
    have hn : κ a ∉ ks := fun z => by
      have := (List.nodup_append.mp nd).2.2 _ z (κ a) (by simp)
      exact this rfl
    rw [e2, putD_new he hn, loopD_map (fun d hd => hb d (List.mem_cons_of_mem _ hd)) (by simp [he]) (by simpa using nd) (by rw [List.length_append, List.length_singleton]; omega)]
    simp
theorem dcomp_run {α : Type} {p tk keep : Bool} {own : List Nat} {k e : Den} {gd : GenD} {S : SS} (l : List α) (φ κ : α → D) (ψ : α → OT) (hit : gd.it S = .ok (l.map φ) S) (hb : ∀ a, a ∈ l → ∀ acc : List D × List OT, acc.1.length < lim → OkW own (wipeS S own) (putD acc.1 acc.2 (κ a) (ψ a)) (turnD tk keep gd k e (φ a) acc (wipeS S own)))
    (nd : (l.map κ).Nodup) (hl : l.length ≤ lim) (hw : backL S (wipeS S own) own = S) : (dDcomp p tk keep own k e [gd]).v S = .ok (.dic (l.map κ) (l.map ψ)) S := by
  show ((gd.it S).bind fun ds S1 => (loopW own (turnD tk keep gd k e) ds ([], []) (wipeS S1 own)).bind fun acc T => R.ok (OT.dic acc.1 acc.2) (backL S1 T own)) = _
  rw [hit]
  show ((loopW own (turnD tk keep gd k e) (l.map φ) ([], []) (wipeS S own)).bind fun acc T => R.ok (OT.dic acc.1 acc.2) (backL S T own)) = _
  rw [loopD_map hb rfl (by simpa using nd) (by simpa using hl)]
  show R.ok _ (backL S (wipeS S own) own) = _
  rw [hw]
  rfl
theorem lookD_map {α : Type} {κ : α → D} {ψ : α → β} (inj : ∀ a b, κ a = κ b → ψ a = ψ b) {a : α} : ∀ {l : List α}, a ∈ l → lookD (l.map κ) (l.map ψ) (κ a) = some (ψ a)
  | [], h => by cases h
  | b :: l, h => by
    by_cases e : κ b = κ a
    · have e1 : lookD ((b :: l).map κ) ((b :: l).map ψ) (κ a) = some (ψ b) := if_pos e
      rw [e1, inj b a e]
    · have e1 : lookD ((b :: l).map κ) ((b :: l).map ψ) (κ a) = lookD (l.map κ) (l.map ψ) (κ a) := if_neg e
      rw [e1]
      rcases List.mem_cons.mp h with z | z
      · exact absurd (by rw [z]) e
      · exact lookD_map inj z
theorem zip2_map {α γ : Type} (f : α → D) (h : γ → D) : ∀ (xs : List α) (ys : List γ), zip2 (xs.map f) (ys.map h) = (xs.zip ys).map fun p => .tup [f p.1, h p.2]
  | [], _ => rfl
  | _ :: _, [] => rfl
  | x :: xs, y :: ys => by
    show D.tup [f x, h y] :: zip2 (xs.map f) (ys.map h) = _
    rw [zip2_map f h xs ys]
    rfl
theorem keyOk_str {ks : List Str} {x : Str} : keyOk (ks.map .str) (.str x) = true := by cases ks <;> rfl
theorem msem_app {sup : Str → List Str} {ts : List OT} {a : OT} : M.append.sem sup (.lst ts) [a] = if ts.length < lim then some (.lst (ts ++ [a]), .leaf .non) else none := rfl
theorem msem_pop0 {sup : Str → List Str} {ts : List OT} : M.pop0.sem sup (.lst ts) [] = match ts.getLast? with
    | some t => some (.lst ts.dropLast, t)
    | none => none := rfl
theorem msem_popAt {sup : Str → List Str} {ts : List OT} {i : Int} : M.popAt.sem sup (.lst ts) [.leaf (.int i)] = if ts.length ≤ lim then (ixOf i ts.length).bind fun k => (ts[k]?).map fun t => (.lst (ts.eraseIdx k), t) else none := rfl
theorem msem_setA {sup : Str → List Str} {k f c : Str} {ns : List Str} {ts : List OT} {a : OT} : (M.setA k f).sem sup (.ins c ns ts) [a] = if ns.length < 900 ∧ k = c then some (.ins c (putN ns ts f a).1 (putN ns ts f a).2, .leaf .non) else none := rfl
theorem leafs_nil : leafs [] = [] := rfl
/-! ### numbers written -/
theorem tdc_len : ∀ (f n : Nat) (ds : List Char), (Nat.toDigitsCore 10 f n ds).length ≤ f + ds.length
  | 0, n, ds => by simp [Nat.toDigitsCore]
  | f + 1, n, ds => by
    unfold Nat.toDigitsCore
    dsimp only
    split
    · simp; omega
    · have := tdc_len f (n / 10) (Nat.digitChar (n % 10) :: ds)
      rw [List.length_cons] at this
      omega
theorem strN_nat (n : Nat) : (strN (n : Int)).cps.size ≤ n + 1 := by
  show (Str.ofString (String.ofList (Nat.toDigits 10 n))).cps.size ≤ _
  rw [Str.ofString_eq_toList]
  have := tdc_len (n + 1) n []
  simp only [List.size_toArray, List.length_map, String.toList_ofList]
  exact this
theorem strN_size (i : Int) : (strN i).cps.size ≤ i.natAbs + 2 := by
  cases i with
  | ofNat n =>
    have h : (strN (Int.ofNat n)).cps.size ≤ n + 1 := strN_nat n
    show _ ≤ n + 2
    omega
  | negSucc n =>
    have e : toString (Int.negSucc n) = "-" ++ Nat.repr (n + 1) := rfl
    show (Str.ofString (toString (Int.negSucc n))).cps.size ≤ _
    rw [e, Str.ofString_eq_toList]
    have := tdc_len (n + 1 + 1) (n + 1) []
    have e2 : (Nat.repr (n + 1)).toList = Nat.toDigits 10 (n + 1) := String.toList_ofList
    simp only [List.size_toArray, List.length_map, String.toList_append, List.length_append, e2, Int.natAbs_negSucc]
    have e3 : ("-" : String).toList.length = 1 := by decide
    rw [e3]
    unfold Nat.toDigits
    simp only [List.length_nil] at this
    omega
theorem log_ok {i : Int} (h : i.natAbs ≤ 10000000) : i.natAbs.log2 < 1920 := by
  by_cases h0 : i.natAbs = 0
  · rw [h0]; decide
  · rw [Nat.log2_lt h0]
    exact Nat.lt_of_le_of_lt h (Nat.lt_of_lt_of_le (show 10000000 < 2 ^ 24 by decide) (Nat.pow_le_pow_right (by decide) (by decide)))
theorem fmt_int {i : Int} (h : i.natAbs ≤ 10000000) : fmt1 (.int i) = some (strN i) := if_pos (log_ok h)
theorem fmt_str {x : Str} : fmt1 (.str x) = some x := rfl
theorem sem_str_int {sup : Str → List Str} {i : Int} (h : i.natAbs ≤ 10000000) : P.str.sem sup [.int i] = some (.str (strN i)) := by
  show Tk.chk (decide (i.natAbs.log2 < 1920)) _ = _
  rw [decide_eq_true (log_ok h)]
  rfl
def cat (a b : Str) : Str := ⟨a.cps ++ b.cps⟩
theorem sem_add_str {sup : Str → List Str} {a b : Str} (h : a.cps.size + b.cps.size ≤ lim) : P.add.sem sup [.str a, .str b] = some (.str (cat a b)) := by
  show Tk.chk (decide (a.cps.size + b.cps.size ≤ lim)) _ = _
  rw [decide_eq_true h]
  rfl
theorem cat_size {a b : Str} : (cat a b).cps.size = a.cps.size + b.cps.size := Array.size_append
theorem cat_nil {a : Str} : cat ⟨#[]⟩ a = a := by
  show (⟨#[] ++ a.cps⟩ : Str) = a
  rw [Array.empty_append]
theorem nil_cat {a : Str} : cat a ⟨#[]⟩ = a := by
  show (⟨a.cps ++ #[]⟩ : Str) = a
  rw [Array.append_empty]
theorem cat_assoc {a b c : Str} : cat (cat a b) c = cat a (cat b c) := by
  show (⟨(a.cps ++ b.cps) ++ c.cps⟩ : Str) = ⟨a.cps ++ (b.cps ++ c.cps)⟩
  rw [Array.append_assoc]
theorem sum_le {l : List Nat} {k : Nat} (h : ∀ x, x ∈ l → x ≤ k) : l.sum ≤ l.length * k := by
  induction l with
  | nil => simp
  | cons a l ih =>
    have h1 := h a List.mem_cons_self
    have h2 := ih fun x hx => h x (List.mem_cons_of_mem _ hx)
    rw [List.sum_cons, List.length_cons, Nat.succ_mul]
    omega
theorem sem_join {sup : Str → List Str} {α : Type} {s : Str} {l : List α} {f : α → Str} (k : Nat) (h : ∀ x, x ∈ l → (f x).cps.size ≤ k) (hl : l.length * k + l.length * s.cps.size ≤ lim) : P.join.sem sup [.str s, .lst (l.map fun x => .str (f x))] = some (.str (Str.join s (l.map f))) := by
  show (strsOf (l.map fun x => D.str (f x))).bind _ = _
  rw [strsOf_map]
  show Tk.chk (decide (((l.map f).map (·.length)).sum + (l.map f).length * s.length ≤ lim)) _ = _
  have h1 : ((l.map f).map (·.length)).sum ≤ ((l.map f).map (·.length)).length * k := sum_le fun x hx => by
    obtain ⟨y, hy, rfl⟩ := List.mem_map.mp hx
    obtain ⟨z, hz, rfl⟩ := List.mem_map.mp hy
    exact h z hz
  rw [List.length_map, List.length_map] at h1
  have h2 : (l.map f).length * s.length ≤ l.length * s.cps.size := by rw [List.length_map]; exact Nat.le_refl _
  rw [decide_eq_true (by omega)]
  rfl
theorem pn_pl {i : Nat} : plainName (.pl i []) = some i := rfl
theorem pn_plA {i : Nat} {s : Sp} {r : List Sp} : plainName (.pl i (s :: r)) = none := rfl
theorem pn_cst {d : D} : plainName (.cst d) = none := rfl
theorem pn_prim {p : P} {es : List E} : plainName (.prim p es) = none := rfl
theorem pn_tup {es : List E} : plainName (.tup es) = none := rfl
theorem pn_lst {k : Bool} {es : List E} : plainName (.lst k es) = none := rfl
theorem pn_call {f : Str} {es : List E} : plainName (.call f es) = none := rfl
theorem pn_tcall {fs : List Str} {ix : E} {es : List E} : plainName (.tcall fs ix es) = none := rfl
theorem pn_meth {c m : Str} {r : E} {es : List E} : plainName (.meth c m r es) = none := rfl
theorem pn_ife {a b c : E} : plainName (.ife a b c) = none := rfl
theorem pn_and {es : List E} : plainName (.and_ es) = none := rfl
theorem pn_or {es : List E} : plainName (.or_ es) = none := rfl
theorem pn_not {e : E} : plainName (.not_ e) = none := rfl
theorem pn_chain {p q : P} {a b c : E} : plainName (.chain p q a b c) = none := rfl
theorem ncast : ((0 : Nat) : Int) = 0 ∧ ((1 : Nat) : Int) = 1 ∧ ((2 : Nat) : Int) = 2 ∧ ((3 : Nat) : Int) = 3 ∧ ((4 : Nat) : Int) = 4 ∧ ((5 : Nat) : Int) = 5 := ⟨rfl, rfl, rfl, rfl, rfl, rfl⟩
end Tk
end
section
set_option maxRecDepth 100000
set_option maxHeartbeats 0
open PySem Tk
local macro_rules
  | `(tactic| simp_arith [$ts,*]) => `(tactic| simp (config := { decide := false, implicitDefEqProofs := false }) only [bind_ok', bind_exc', bind_bad', fl_ok', fl_exc', opt_some', frz_ok', frz_exc', seq_nx, seq_ret, seq_exc, seq_brk, seq_cnt, getS_nil, getS_0, getS_s, frz_leaf, frz_lst, frz_dic, frz_ins, keep_leaf, keep_f, keep_t,
      dS_skip, dS_seq, dS_asg, dS_asgN, dS_sto, dS_stos, dS_ex, dS_ite, dS_for, dS_ret, dS_retN, dS_brk, dS_cnt, dS_raise, dS_tryF,
      den_add, den_sub, den_mul, den_fdiv, den_mod, den_pow, den_neg, den_eq, den_ne, den_lt, den_le, den_gt, den_ge, den_isN, den_notN, den_in_, den_nin, den_idx, den_rev, den_len, den_abs, den_max, den_min, den_sum, den_all, den_any, den_sorted, den_list, den_tuple, den_int, den_str, den_lrev, den_join, den_slc, den_isinst, den_fstr, den_get2, den_cst, den_pl, den_tup, den_lst, den_star, den_chain, den_and, den_or, den_not, den_ife, den_attr, den_call, den_tcall, den_meth, den_new, den_mut, den_bor, dens_nil, dens_cons, dsp_nil, dsp_attr, dit_seq, dit_range, dit_zip, Sp.pures, dPl, Den.of, dCall, dTcall, dPrim, dAnd, dOr, dNot, dIfe, dChain, dTup, dLst, dAttr, dMeth, dNew, dMut, dFstr, dGet2, evAnd, evOr, evTand, evTor, evAs, evMs, evFs, evA, evL, evQ, endP, evF, allP, Bool.and_true, Bool.true_and, Bool.and_false, Bool.false_and, Bool.and_self,
      doCall, lentTwice, lents, lend, giveBack, List.nodup_nil, List.nodup_cons, List.not_mem_nil, List.mem_cons, or_false, not_false_eq_true, and_self, and_true, true_and, decide_true, decide_false, decide_not, Nat.reduceSub, Nat.reduceAdd, Nat.reduceLT, Nat.reduceLeDiff, Nat.reduceEqDiff, Nat.reduceBEq, beq_self_eq_true, Nat.sub_self, Bool.true_or, Bool.or_true, Bool.false_or, Bool.or_false, Bool.false_eq_true, if_false, if_true, reduceCtorEq, spreadA, ownsA, valsA, moveOut, pn_pl, pn_plA, pn_cst, pn_prim, pn_tup, pn_lst, pn_call, pn_tcall, pn_meth, pn_ife, pn_and, pn_or, pn_not, pn_chain, take, takeT, peek, peekT, OT.getP, ownB, setO, Tg.free, Tg.frees, setT, setTs, setN,
      List.map_cons, List.map_nil, List.replicate_zero, List.replicate_succ, List.cons_append, List.nil_append, List.append_nil, List.length_cons, List.length_nil, List.set_cons_zero, List.set_cons_succ, List.set_nil, List.contains_nil, List.contains_cons, List.isEmpty_cons, List.isEmpty_nil,
      Option.bind_some, Option.map_some, Option.bind_none, Option.map_none, OT.frzs, D.truth, Bool.not_true, Bool.not_false, lastOf, wipeS, E.pure, E.pures, Gen.pures, It.pure, P.keeps, P.made, OT.flat, D.fresh, sem_eq_int, sem_ne_int, sem_lt_int, sem_gt_int, sem_le_int, sem_ge_int, sem_add_int, sem_sub_int, sem_int, sem_int_b, sem_abs, sem_len_tup, sem_len_lst, sem_list_l, sem_list_t, sem_tuple_l, sem_tuple_t, sem_lrev, sem_idx_t, sem_idx_l, sem_isN, sem_notN, sem_slc1, sem_slF2, sem_lt_str, sem_lt_pair, sem_in_str, isi_tup_t, isi_tup_l, isi_tup_n, isi_str_s, atL_0, atL_1, atL_2, frzs_leafs, msem_app, msem_pop0, msem_popAt, msem_setA, leafs_nil, doMut, OT.putP, stoL, stoLs, stoAt, ncast, eq_self, Int.reduceEq, Int.reduceNe, Int.reduceLT, Int.reduceLE, Int.reduceAdd, Int.reduceSub, $ts,*])
section
set_option linter.all false
set_option maxRecDepth 100000
set_option maxHeartbeats 0
/-! What the program's defs say (nets, markings). -/
namespace K02
open PySem Tk
theorem r_is_integer (g : G) (i : Int) : runD g d_is_integer [.leaf (.int i)] = .ok (.leaf (.bl true)) [none] := by kernel_rfl
theorem r_is_within (g : G) (i lo hi : Int) (h : g.fn "is_integer" [.leaf (.int i)] = .ok (.leaf (.bl true)) [none]) : runD g d_is_within [.leaf (.int i), .leaf (.int lo), .leaf (.int hi)] = .ok (.leaf (.bl (decide (lo ≤ i) && decide (i ≤ hi)))) [none, none, none] := by
  rw [runD_eq rfl]
  by_cases h1 : lo ≤ i <;> simp_arith [d_is_within, h, sem_le_int, h1]
def names (xs : List Str) : D := .tup (xs.map .str)
/-- neighbours -/
def pairs {α : Type} : List α → List (α × α)
  | x :: y :: r => (x, y) :: pairs (y :: r)
  | _ => []
theorem zip_pairs {α : Type} (f : α → D) : ∀ l : List α, zip2 (l.map f) ((l.map f).drop 1) = (pairs l).map fun p => .tup [f p.1, f p.2]
  | [] => rfl
  | [_] => rfl
  | x :: y :: r => by
    show D.tup [f x, f y] :: zip2 ((y :: r).map f) (((y :: r).map f).drop 1) = _
    rw [zip_pairs f (y :: r)]
    rfl
theorem pairs_len {α : Type} : ∀ l : List α, (pairs l).length ≤ l.length
  | [] => Nat.le_refl _
  | [_] => Nat.zero_le _
  | x :: y :: r => by
    have := pairs_len (y :: r)
    show (pairs (y :: r)).length + 1 ≤ _
    simp only [List.length_cons] at *
    omega
def ltS (a b : Str) : Bool := decide (a.cps.toList < b.cps.toList)
theorem c_asc (g : G) (xs : List Str) (hl : xs.length ≤ 1000) : (den g e_are_ascending_1).v [.own (.leaf (names xs)), .un, .un] = .ok (.lst (leafs ((pairs xs).map fun p => .bl (ltS p.1 p.2)))) [.own (.leaf (names xs)), .un, .un] := by
  unfold e_are_ascending_1
  rw [den_lcomp]
  refine (lcomp_map (pairs xs) (fun p => .tup [.str p.1, .str p.2]) (fun p => .leaf (.bl (ltS p.1 p.2))) ?_ (fun d hd acc ha => ?_) ?_ ?_).trans ?_
  · show dit g _ _ _ = _
    rw [dit_zip]
    simp_arith [iZip, zips, names, sem_slc1, zip_pairs]
  · simp_arith [turnL, evIfs, noX, OkW, sem_lt_str, ha, ltS]
  · have := pairs_len xs; unfold lim; omega
  · rfl
  · simp [leafs]
theorem r_asc (g : G) (xs : List Str) (hl : xs.length ≤ 1000) : runD g d_are_ascending [.leaf (names xs)] = .ok (.leaf (.bl ((pairs xs).all fun p => ltS p.1 p.2))) [none] := by
  rw [runD_eq rfl]
  have c := c_asc g xs hl
  simp_arith [d_are_ascending, c, sem_all, e_are_ascending_1_x]
theorem c_names (g : G) (xs : List Str) (hl : xs.length ≤ 1000) (h : ∀ x, x ∈ xs → g.fn "is_name" [.leaf (.str x)] = .ok (.leaf (.bl true)) [none]) : (den g e_are_names_1).v [.own (.leaf (names xs)), .un] = .ok (.lst (leafs (xs.map fun _ => .bl true))) [.own (.leaf (names xs)), .un] := by
  unfold e_are_names_1
  rw [den_lcomp]
  refine (lcomp_map xs (fun x => .str x) (fun p => .leaf (.bl true)) ?_ (fun d hd acc ha => ?_) ?_ ?_).trans ?_
  · show dit g _ _ _ = _
    rw [dit_seq]
    simp_arith [iSeq, iterD, names]
  · simp_arith [turnL, evIfs, noX, OkW, h d hd, ha]
  · unfold lim; omega
  · rfl
  · simp [leafs]
theorem r_names (g : G) (xs : List Str) (hl : xs.length ≤ 1000) (h : ∀ x, x ∈ xs → g.fn "is_name" [.leaf (.str x)] = .ok (.leaf (.bl true)) [none]) (h2 : g.fn "are_ascending" [.leaf (names xs)] = .ok (.leaf (.bl true)) [none]) : runD g d_are_names [.leaf (names xs)] = .ok (.leaf (.bl true)) [none] := by
  rw [runD_eq rfl]
  have c := c_names g xs hl h
  have e : (P.isinst ["tuple"]).sem g.sup [names xs] = some (.bl true) := isi_tup_t
  have e2 : P.all.sem g.sup [.lst (xs.map fun _ => D.bl true)] = some (.bl true) := by rw [sem_all (p := fun _ => true)]; simp
  simp_arith [d_are_names, c, e, e2, h2, e_are_names_1_x]
/-! ### nets -/
structure Arc where
  a : Str
  b : Str
  m : Int
def Arc.d (x : Arc) : D := .tup [.str x.a, .str x.b, .int x.m]
structure Net where
  ps : List Str
  ts : List Str
  as : List Arc
def Net.d (n : Net) : D := .tup [names n.ps, names n.ts, .tup (n.as.map Arc.d)]
theorem c_arc (g : G) (p t : D) (x : Arc) : (den g e_is_arc_1).v [.own (.leaf p), .own (.leaf t), .own (.leaf x.d), .un, .un, .un, .un] = .ok (.lst (leafs [.bl true, .bl true])) [.own (.leaf p), .own (.leaf t), .own (.leaf x.d), .un, .un, .un, .un] := by
  unfold e_is_arc_1
  rw [den_lcomp]
  refine (lcomp_map [x.a, x.b] (fun x => .str x) (fun p => .leaf (.bl true)) ?_ (fun d hd acc ha => ?_) ?_ ?_).trans ?_
  · show dit g _ _ _ = _
    rw [dit_seq]
    simp_arith [iSeq, iterD, Arc.d, sem_slF2, List.take_succ_cons, List.take_zero]
  · simp_arith [turnL, evIfs, noX, OkW, isi_str_s, ha]
  · simp [lim]
  · rfl
  · rfl
theorem r_arc (g : G) (ps ts : List Str) (x : Arc) (h : (x.a ∈ ps ∧ x.b ∈ ts) ∨ (x.a ∈ ts ∧ x.b ∈ ps)) (hm : g.fn "is_within" [.leaf (.int x.m), .leaf (.int 1), .leaf (.int 9)] = .ok (.leaf (.bl true)) [none, none, none]) : runD g d_is_arc [.leaf (names ps), .leaf (names ts), .leaf x.d] = .ok (.leaf (.bl true)) [none, none, none] := by
  rw [runD_eq rfl]
  have c := c_arc g (names ps) (names ts) x
  have e1 : (P.isinst ["tuple"]).sem g.sup [x.d] = some (.bl true) := isi_tup_t
  have e2 : P.len.sem g.sup [x.d] = some (.int 3) := rfl
  have e3 : P.all.sem g.sup [.lst [.bl true, .bl true]] = some (.bl true) := rfl
  have e4 : ∀ (x : Str) (xs : List Str), P.in_.sem g.sup [.str x, names xs] = some (.bl (decide (x ∈ xs))) := fun x xs => sem_in_str
  have e5 : x.d = .tup [.str x.a, .str x.b, .int x.m] := rfl
  rw [e5] at c
  by_cases q1 : x.a ∈ ps
  · by_cases q2 : x.b ∈ ts
    · simp_arith [d_is_arc, c, e3, e4, e5, e_is_arc_1_x, q1, q2, hm]
    · obtain ⟨h1, h2⟩ := h.resolve_left fun z => q2 z.2
      simp_arith [d_is_arc, c, e3, e4, e5, e_is_arc_1_x, q1, q2, h1, h2, hm]
  · obtain ⟨h1, h2⟩ := h.resolve_left fun z => q1 z.1
    simp_arith [d_is_arc, c, e3, e4, e5, e_is_arc_1_x, q1, h1, h2, hm]
end K02
end
section
set_option linter.all false
set_option maxRecDepth 100000
set_option maxHeartbeats 0
namespace K02
open PySem Tk
structure Net.Ok (n : Net) : Prop where
  disj : ∀ x, x ∈ n.ps → x ∉ n.ts
  lp : n.ps.length ≤ 20
  lt : n.ts.length ≤ 20
  la : n.as.length ≤ 1000
  arc : ∀ x, x ∈ n.as → ((x.a ∈ n.ps ∧ x.b ∈ n.ts) ∨ (x.a ∈ n.ts ∧ x.b ∈ n.ps)) ∧ 1 ≤ x.m ∧ x.m ≤ 9
  nda : (n.as.map fun x => D.tup [.str x.a, .str x.b]).Nodup
  ndt : (n.ts.map D.str).Nodup
  asc : ∀ p, p ∈ pairs n.as → pairLt p.1.a p.1.b p.2.a p.2.b = true
theorem s_max (sup : Str → List Str) (a b : Int) : P.max.sem sup [.int a, .int b] = some (.int (if b > a then b else a)) := rfl
theorem c_net1 (g : G) (n : Net) (h : n.Ok) : (den g e_is_net_1).v [.own (.leaf n.d), .own (.leaf (names n.ps)), .own (.leaf (names n.ts)), .own (.leaf (.tup (n.as.map Arc.d))), .un, .un, .un, .un] = .ok (.lst (leafs (n.ps.map fun _ => .bl false))) [.own (.leaf n.d), .own (.leaf (names n.ps)), .own (.leaf (names n.ts)), .own (.leaf (.tup (n.as.map Arc.d))), .un, .un, .un, .un] := by
  unfold e_is_net_1
  rw [den_lcomp]
  refine (lcomp_map n.ps (fun x => .str x) (fun p => .leaf (.bl false)) ?_ (fun d hd acc ha => ?_) ?_ ?_).trans ?_
  · show dit g _ _ _ = _
    rw [dit_seq]
    simp_arith [iSeq, iterD, names]
  · have q := h.disj d hd
    have e4 : ∀ (x : Str) (xs : List Str), P.in_.sem g.sup [.str x, names xs] = some (.bl (decide (x ∈ xs))) := fun x xs => sem_in_str
    simp_arith [turnL, evIfs, noX, OkW, ha, e4, q]
  · have := h.lp; unfold lim; omega
  · rfl
  · simp [leafs]
theorem c_net2 (g : G) (n : Net) (h : n.Ok) (ha : ∀ x, x ∈ n.as → g.fn "is_arc" [.leaf (names n.ps), .leaf (names n.ts), .leaf x.d] = .ok (.leaf (.bl true)) [none, none, none]) : (den g e_is_net_2).v [.own (.leaf n.d), .own (.leaf (names n.ps)), .own (.leaf (names n.ts)), .own (.leaf (.tup (n.as.map Arc.d))), .un, .un, .un, .un] = .ok (.lst (leafs (n.as.map fun _ => .bl true))) [.own (.leaf n.d), .own (.leaf (names n.ps)), .own (.leaf (names n.ts)), .own (.leaf (.tup (n.as.map Arc.d))), .un, .un, .un, .un] := by
  unfold e_is_net_2
  rw [den_lcomp]
  refine (lcomp_map n.as Arc.d (fun p => .leaf (.bl true)) ?_ (fun d hd acc hac => ?_) ?_ ?_).trans ?_
  · show dit g _ _ _ = _
    rw [dit_seq]
    simp_arith [iSeq, iterD]
  · simp_arith [turnL, evIfs, noX, OkW, hac, ha d hd]
  · have := h.la; unfold lim; omega
  · rfl
  · simp [leafs]
theorem c_net3 (g : G) (n : Net) (h : n.Ok) : (den g e_is_net_3).v [.own (.leaf n.d), .own (.leaf (names n.ps)), .own (.leaf (names n.ts)), .own (.leaf (.tup (n.as.map Arc.d))), .un, .un, .un, .un] = .ok (.lst (leafs ((pairs n.as).map fun _ => .bl true))) [.own (.leaf n.d), .own (.leaf (names n.ps)), .own (.leaf (names n.ts)), .own (.leaf (.tup (n.as.map Arc.d))), .un, .un, .un, .un] := by
  unfold e_is_net_3
  rw [den_lcomp]
  refine (lcomp_map (pairs n.as) (fun p => .tup [p.1.d, p.2.d]) (fun p => .leaf (.bl true)) ?_ (fun d hd acc hac => ?_) ?_ ?_).trans ?_
  · show dit g _ _ _ = _
    rw [dit_zip]
    simp_arith [iZip, zips, zip_pairs]
  · have e1 : ∀ x : Arc, x.d = .tup [.str x.a, .str x.b, .int x.m] := fun _ => rfl
    simp_arith [turnL, evIfs, noX, OkW, hac, e1, List.take_succ_cons, List.take_zero, h.asc d hd]
  · have := h.la; have := pairs_len n.as; unfold lim; omega
  · rfl
  · simp [leafs]
theorem all_true (sup : Str → List Str) {α : Type} (l : List α) : P.all.sem sup [.lst (l.map fun _ => D.bl true)] = some (.bl true) := by rw [sem_all (p := fun _ => true)]; simp
theorem any_false (sup : Str → List Str) {α : Type} (l : List α) : P.any.sem sup [.lst (l.map fun _ => D.bl false)] = some (.bl false) := by rw [sem_any (p := fun _ => false)]; simp
theorem names_len (sup : Str → List Str) (xs : List Str) : P.len.sem sup [names xs] = some (.int xs.length) := by show some (D.int ((xs.map D.str).length : Nat)) = _; rw [List.length_map]
theorem r_net (g : G) (n : Net) (h : n.Ok) (h1 : g.fn "are_names" [.leaf (names n.ps)] = .ok (.leaf (.bl true)) [none]) (h2 : g.fn "are_names" [.leaf (names n.ts)] = .ok (.leaf (.bl true)) [none]) (ha : ∀ x, x ∈ n.as → g.fn "is_arc" [.leaf (names n.ps), .leaf (names n.ts), .leaf x.d] = .ok (.leaf (.bl true)) [none, none, none]) :
    runD g d_is_net [.leaf n.d] = .ok (.leaf (.bl true)) [none] := by
  rw [runD_eq rfl]
  have c1 := c_net1 g n h
  have c2 := c_net2 g n h ha
  have c3 := c_net3 g n h
  have e5 : n.d = .tup [names n.ps, names n.ts, .tup (n.as.map Arc.d)] := rfl
  rw [e5] at c1 c2 c3
  have hm : ¬ ((20 : Int) < if (n.ts.length : Int) > n.ps.length then (n.ts.length : Int) else n.ps.length) := by
    have := h.lp
    have := h.lt
    split <;> omega
  simp_arith [d_is_net, e5, c1, c2, c3, h1, h2, all_true, any_false, e_is_net_1_x, e_is_net_2_x, e_is_net_3_x, names_len, s_max, hm]
theorem r_check_net (g : G) (d : D) (h : g.fn "is_net" [.leaf d] = .ok (.leaf (.bl true)) [none]) : runD g d_check_net [.leaf d] = .ok (.leaf .non) [none] := by
  rw [runD_eq rfl]
  simp_arith [d_check_net, h]
def xNR (s : String) : D := .exn "NotRight" [] [.str (Str.ofString s)]
theorem r_check_net_no (g : G) (d : D) (h : g.fn "is_net" [.leaf d] = .ok (.leaf (.bl false)) [none]) : runD g d_check_net [.leaf d] = .exc (xNR "this is no net") [none] := by
  rw [runD_eq rfl]
  simp_arith [d_check_net, h]
  rfl
def intD (xs : List Int) : D := .tup (xs.map .int)
theorem intD_len (sup : Str → List Str) (xs : List Int) : P.len.sem sup [intD xs] = some (.int xs.length) := by show some (D.int ((xs.map D.int).length : Nat)) = _; rw [List.length_map]
theorem c_mby (g : G) (d : D) (ms : List Int) (hl : ms.length ≤ 1000) (hw : ∀ x, x ∈ ms → g.fn "is_within" [.leaf (.int x), .leaf (.int 0), .leaf (.int 1000000)] = .ok (.leaf (.bl true)) [none, none, none]) : (den g e_is_marking_by_1).v [.own (.leaf d), .own (.leaf (intD ms)), .un] = .ok (.lst (leafs (ms.map fun _ => .bl true))) [.own (.leaf d), .own (.leaf (intD ms)), .un] := by
  unfold e_is_marking_by_1
  rw [den_lcomp]
  refine (lcomp_map ms (fun x => .int x) (fun p => .leaf (.bl true)) ?_ (fun d hd acc hac => ?_) ?_ ?_).trans ?_
  · show dit g _ _ _ = _
    rw [dit_seq]
    simp_arith [iSeq, iterD, intD]
  · simp_arith [turnL, evIfs, noX, OkW, hac, hw d hd]
  · unfold lim; omega
  · rfl
  · simp [leafs]
theorem r_mby (g : G) (n : Net) (ms : List Int) (hl : ms.length ≤ 1000) (he : ms.length = n.ps.length) (hw : ∀ x, x ∈ ms → g.fn "is_within" [.leaf (.int x), .leaf (.int 0), .leaf (.int 1000000)] = .ok (.leaf (.bl true)) [none, none, none]) : runD g d_is_marking_by [.leaf n.d, .leaf (intD ms)] = .ok (.leaf (.bl true)) [none, none] := by
  rw [runD_eq rfl]
  have c := c_mby g n.d ms hl hw
  have e5 : n.d = .tup [names n.ps, names n.ts, .tup (n.as.map Arc.d)] := rfl
  rw [e5] at c
  have i1 : (P.isinst ["tuple"]).sem g.sup [intD ms] = some (.bl true) := isi_tup_t
  simp_arith [d_is_marking_by, e5, c, e_is_marking_by_1_x, all_true, names_len, intD_len, i1, he]
theorem r_mby_len (g : G) (n : Net) (ms : List Int) (he : ms.length ≠ n.ps.length) : runD g d_is_marking_by [.leaf n.d, .leaf (intD ms)] = .ok (.leaf (.bl false)) [none, none] := by
  rw [runD_eq rfl]
  have e5 : n.d = .tup [names n.ps, names n.ts, .tup (n.as.map Arc.d)] := rfl
  have i1 : (P.isinst ["tuple"]).sem g.sup [intD ms] = some (.bl true) := isi_tup_t
  have he' : ¬ ((ms.length : Int) = n.ps.length) := by omega
  simp_arith [d_is_marking_by, e5, names_len, intD_len, i1, he']
theorem r_mby_lst (g : G) (n ms : D) (h : (P.isinst ["tuple"]).sem g.sup [ms] = some (.bl false)) : runD g d_is_marking_by [.leaf n, .leaf ms] = .ok (.leaf (.bl false)) [none, none] := by
  rw [runD_eq rfl]
  simp_arith [d_is_marking_by, h]
theorem r_marking (g : G) (n m : D) (b : Bool) (h1 : g.fn "check_net" [.leaf n] = .ok (.leaf .non) [none]) (h2 : g.fn "is_marking_by" [.leaf n, .leaf m] = .ok (.leaf (.bl b)) [none, none]) : runD g d_is_marking [.leaf n, .leaf m] = .ok (.leaf (.bl b)) [none, none] := by
  rw [runD_eq rfl]
  simp_arith [d_is_marking, h1, h2]
theorem r_marking_no (g : G) (n m x : D) (h1 : g.fn "check_net" [.leaf n] = .exc x [none]) : runD g d_is_marking [.leaf n, .leaf m] = .exc x [none, none] := by
  rw [runD_eq rfl]
  simp_arith [d_is_marking, h1]
theorem r_marked (g : G) (n m : D) (h : g.fn "is_marking" [.leaf n, .leaf m] = .ok (.leaf (.bl true)) [none, none]) : runD g d_check_marked [.leaf n, .leaf m] = .ok (.leaf .non) [none, none] := by
  rw [runD_eq rfl]
  simp_arith [d_check_marked, h]
theorem r_marked_no (g : G) (n m : D) (h : g.fn "is_marking" [.leaf n, .leaf m] = .ok (.leaf (.bl false)) [none, none]) : runD g d_check_marked [.leaf n, .leaf m] = .exc (xNR "this is no marking") [none, none] := by
  rw [runD_eq rfl]
  simp_arith [d_check_marked, h]
  rfl
theorem r_marked_x (g : G) (n m x : D) (h : g.fn "is_marking" [.leaf n, .leaf m] = .exc x [none, none]) : runD g d_check_marked [.leaf n, .leaf m] = .exc x [none, none] := by
  rw [runD_eq rfl]
  simp_arith [d_check_marked, h]
end K02
end
section
set_option linter.all false
set_option maxRecDepth 100000
set_option maxHeartbeats 0
/-! Moves. -/
namespace K02
open PySem Tk
def Arc.key (x : Arc) : D := .tup [.str x.a, .str x.b]
def arcV (as : List Arc) (a b : Str) : Int := ((as.filter fun x => decide (x.a = a ∧ x.b = b)).map (·.m)).sum
theorem arcV_none {a b : Str} : ∀ {as : List Arc}, D.tup [.str a, .str b] ∉ as.map Arc.key → arcV as a b = 0
  | [], _ => rfl
  | x :: r, h => by
    have h1 : ¬ (x.a = a ∧ x.b = b) := fun e => h (by rw [List.map_cons, Arc.key, e.1, e.2]; exact List.mem_cons_self)
    have e : arcV (x :: r) a b = arcV r a b := by unfold arcV; rw [List.filter_cons, if_neg (by simpa using h1)]
    rw [e, arcV_none fun z => h (List.mem_cons_of_mem _ z)]
theorem arc_get {a b : Str} : ∀ {as : List Arc}, (as.map Arc.key).Nodup → (lookD (as.map Arc.key) (as.map fun x => D.int x.m) (.tup [.str a, .str b])).getD (.int 0) = .int (arcV as a b)
  | [], _ => rfl
  | x :: r, nd => by
    have nd2 := List.nodup_cons.mp (show (Arc.key x :: r.map Arc.key).Nodup from nd)
    by_cases h1 : x.a = a ∧ x.b = b
    · have e : arcV (x :: r) a b = x.m + arcV r a b := by unfold arcV; rw [List.filter_cons, if_pos (by simpa using h1), List.map_cons, List.sum_cons]
      have hk : Arc.key x = .tup [.str a, .str b] := by rw [Arc.key, h1.1, h1.2]
      rw [e, arcV_none (by rw [← hk]; exact nd2.1), Int.add_zero]
      have e2 : lookD ((x :: r).map Arc.key) ((x :: r).map fun x => D.int x.m) (.tup [.str a, .str b]) = some (.int x.m) := if_pos hk
      rw [e2]
      rfl
    · have hk : ¬ Arc.key x = .tup [.str a, .str b] := fun z => h1 (by
        have z := D.tup.inj z
        have z1 := (List.cons.inj z).1
        have z2 := (List.cons.inj (List.cons.inj z).2).1
        exact ⟨D.str.inj z1, D.str.inj z2⟩)
      have e2 : lookD ((x :: r).map Arc.key) ((x :: r).map fun x => D.int x.m) (.tup [.str a, .str b]) = lookD (r.map Arc.key) (r.map fun x => D.int x.m) (.tup [.str a, .str b]) := if_neg hk
      have e : arcV (x :: r) a b = arcV r a b := by unfold arcV; rw [List.filter_cons, if_neg (by simpa using h1)]
      rw [e2, e, arc_get nd2.2]
theorem keyOk_arc {as : List Arc} {a b : Str} : keyOk (as.map Arc.key) (.tup [.str a, .str b]) = true := by cases as <;> rfl
def Net.tk (n : Net) (t : Str) : List Int := n.ps.map fun p => arcV n.as p t
def Net.pt (n : Net) (t : Str) : List Int := n.ps.map fun p => arcV n.as t p
def Net.ch (n : Net) (t : Str) : List Int := n.ps.map fun p => arcV n.as t p - arcV n.as p t
def fieldN : List Str := ["places", "steps", "taken", "put", "changes"]
def dTk (n : Net) (f : Str → List Int) : D := .dic (n.ts.map .str) (n.ts.map fun t => intD (f t))
def movT (n : Net) : OT := .ins "Moves" fieldN [.leaf (names n.ps), .leaf (names n.ts), .leaf (dTk n n.tk), .leaf (dTk n n.pt), .leaf (dTk n n.ch)]
theorem fne : ¬ ("places" : Str) = "steps" ∧ ¬ ("places" : Str) = "taken" ∧ ¬ ("places" : Str) = "put" ∧ ¬ ("places" : Str) = "changes" ∧ ¬ ("steps" : Str) = "taken" ∧ ¬ ("steps" : Str) = "put" ∧ ¬ ("steps" : Str) = "changes" ∧ ¬ ("taken" : Str) = "put" ∧ ¬ ("taken" : Str) = "changes" ∧ ¬ ("put" : Str) = "changes" := by
  refine ⟨?_, ?_, ?_, ?_, ?_, ?_, ?_, ?_, ?_, ?_⟩ <;> decide
section
variable (g : G) (n : Net) (h : n.Ok)
include h
theorem c_ini1 (s : OT) : (den g e_Moves___init___1).v [.own s, .own (.leaf n.d), .un, .un, .un, .un, .un, .un, .un, .un] = .ok (.dic (n.as.map Arc.key) (n.as.map fun x => .leaf (.int x.m))) [.own s, .own (.leaf n.d), .un, .un, .un, .un, .un, .un, .un, .un] := by
  unfold e_Moves___init___1
  rw [den_dcomp]
  refine dcomp_run n.as Arc.d Arc.key (fun x => .leaf (.int x.m)) ?_ (fun a ha acc hac => ?_) h.nda ?_ ?_
  · show dit g _ _ _ = _
    rw [dit_seq]
    have e5 : n.d = .tup [names n.ps, names n.ts, .tup (n.as.map Arc.d)] := rfl
    simp_arith [iSeq, iterD, e5]
  · have e1 : a.d = .tup [.str a.a, .str a.b, .int a.m] := rfl
    have e2 : keyK (.tup [.str a.a, .str a.b]) = 2 := rfl
    have e3 : Arc.key a = .tup [.str a.a, .str a.b] := rfl
    have hl : ¬ (2 > lim) := by unfold lim; omega
    have hl2 : 2 ≤ lim := by unfold lim; omega
    simp_arith [turnD, addD, evIfs, noX, OkW, e1, e2, e3, hac, kindT, E.isTup, hl2]
  · have := h.la; unfold lim; omega
  · rfl
/-- the slots within __init__, what self has so far -/
def iniS (n : Net) (s : OT) (t : Sl) : SS := [.own s, .own (.leaf n.d), .own (.dic (n.as.map Arc.key) (leafs (n.as.map fun x => .int x.m))), .un, .un, .un, t, .un, .un, .un]
theorem c_ini2 (s : OT) (t : Str) : (den g e_Moves___init___2).v (iniS n s (.own (.leaf (.str t)))) = .ok (.lst (leafs ((n.tk t).map .int))) (iniS n s (.own (.leaf (.str t)))) := by
  unfold e_Moves___init___2 iniS
  rw [den_lcomp]
  refine (lcomp_map n.ps (fun x => .str x) (fun p => .leaf (.int (arcV n.as p t))) ?_ (fun p hp acc hac => ?_) ?_ ?_).trans ?_
  · show dit g _ _ _ = _
    rw [dit_seq]
    have e5 : n.d = .tup [names n.ps, names n.ts, .tup (n.as.map Arc.d)] := rfl
    simp_arith [iSeq, iterD, e5, names]
  · have hl2 : 2 ≤ lim := by unfold lim; omega
    have e6 : (leafs (n.as.map fun x => D.int x.m)).all OT.isLeaf = true := by simp [leafs, OT.isLeaf]
    simp_arith [turnL, evIfs, noX, OkW, hac, hl2, e6, keyOk_arc, arc_get (show (n.as.map Arc.key).Nodup from h.nda)]
  · have := h.lp; unfold lim; omega
  · rfl
  · simp [leafs, Net.tk, Function.comp_def]
theorem c_ini4 (s : OT) (t : Str) : (den g e_Moves___init___4).v (iniS n s (.own (.leaf (.str t)))) = .ok (.lst (leafs ((n.pt t).map .int))) (iniS n s (.own (.leaf (.str t)))) := by
  unfold e_Moves___init___4 iniS
  rw [den_lcomp]
  refine (lcomp_map n.ps (fun x => .str x) (fun p => .leaf (.int (arcV n.as t p))) ?_ (fun p hp acc hac => ?_) ?_ ?_).trans ?_
  · show dit g _ _ _ = _
    rw [dit_seq]
    have e5 : n.d = .tup [names n.ps, names n.ts, .tup (n.as.map Arc.d)] := rfl
    simp_arith [iSeq, iterD, e5, names]
  · have hl2 : 2 ≤ lim := by unfold lim; omega
    have e6 : (leafs (n.as.map fun x => D.int x.m)).all OT.isLeaf = true := by simp [leafs, OT.isLeaf]
    simp_arith [turnL, evIfs, noX, OkW, hac, hl2, e6, keyOk_arc, arc_get (show (n.as.map Arc.key).Nodup from h.nda)]
  · have := h.lp; unfold lim; omega
  · rfl
  · simp [leafs, Net.pt, Function.comp_def]
theorem c_ini3 (s : OT) : (den g e_Moves___init___3).v (iniS n s .un) = .ok (.dic (n.ts.map .str) (n.ts.map fun t => .leaf (intD (n.tk t)))) (iniS n s .un) := by
  unfold e_Moves___init___3
  rw [den_dcomp]
  refine dcomp_run n.ts (fun t => .str t) (fun t => .str t) (fun t => .leaf (intD (n.tk t))) ?_ (fun a ha acc hac => ?_) h.ndt ?_ ?_
  · show dit g _ _ _ = _
    rw [dit_seq]
    have e5 : n.d = .tup [names n.ps, names n.ts, .tup (n.as.map Arc.d)] := rfl
    simp_arith [iSeq, iterD, e5, names, iniS, e_Moves___init___2_x (g := g)]
  · have c := c_ini2 g n h s a
    unfold iniS at c ⊢
    have e2 : keyK (.str a) = 1 := rfl
    simp_arith [turnD, addD, evIfs, noX, OkW, e2, hac, kindT, E.isTup, c, e_Moves___init___2_x, intD]
  · have := h.lt; unfold lim; omega
  · rfl
theorem c_ini5 (s : OT) : (den g e_Moves___init___5).v (iniS n s .un) = .ok (.dic (n.ts.map .str) (n.ts.map fun t => .leaf (intD (n.pt t)))) (iniS n s .un) := by
  unfold e_Moves___init___5
  rw [den_dcomp]
  refine dcomp_run n.ts (fun t => .str t) (fun t => .str t) (fun t => .leaf (intD (n.pt t))) ?_ (fun a ha acc hac => ?_) h.ndt ?_ ?_
  · show dit g _ _ _ = _
    rw [dit_seq]
    have e5 : n.d = .tup [names n.ps, names n.ts, .tup (n.as.map Arc.d)] := rfl
    simp_arith [iSeq, iterD, e5, names, iniS, e_Moves___init___4_x (g := g)]
  · have c := c_ini4 g n h s a
    unfold iniS at c ⊢
    have e2 : keyK (.str a) = 1 := rfl
    simp_arith [turnD, addD, evIfs, noX, OkW, e2, hac, kindT, E.isTup, c, e_Moves___init___4_x, intD]
  · have := h.lt; unfold lim; omega
  · rfl
theorem ix_dic (sup : Str → List Str) (f : Str → List Int) {t : Str} (ht : t ∈ n.ts) : P.idx.sem sup [dTk n f, .str t] = some (intD (f t)) := by
  show (if keyOk (n.ts.map D.str) (.str t) then lookD (n.ts.map D.str) (n.ts.map fun t => intD (f t)) (.str t) else none) = _
  rw [keyOk_str, if_pos rfl]
  exact lookD_map (κ := D.str) (ψ := fun t => intD (f t)) (fun a b e => by cases e; rfl) ht
omit h in
theorem zip_same {α : Type} (l : List α) (u v : α → Int) : zip2 (l.map fun x => D.int (u x)) (l.map fun x => D.int (v x)) = l.map fun x => .tup [.int (u x), .int (v x)] := by
  induction l with
  | nil => rfl
  | cons a l ih => rw [List.map_cons, List.map_cons, List.map_cons, ← ih]; rfl
def preT (n : Net) : OT := .ins "Moves" ["places", "steps", "taken", "put"] [.leaf (names n.ps), .leaf (names n.ts), .leaf (dTk n n.tk), .leaf (dTk n n.pt)]
theorem c_ini6 (t : Str) (ht : t ∈ n.ts) : (den g e_Moves___init___6).v (iniS n (preT n) (.own (.leaf (.str t)))) = .ok (.lst (leafs ((n.ch t).map .int))) (iniS n (preT n) (.own (.leaf (.str t)))) := by
  unfold e_Moves___init___6 iniS
  rw [den_lcomp]
  refine (lcomp_map n.ps (fun p => .tup [.int (arcV n.as p t), .int (arcV n.as t p)]) (fun p => .leaf (.int (arcV n.as t p - arcV n.as p t))) ?_ (fun p hp acc hac => ?_) ?_ ?_).trans ?_
  · show dit g _ _ _ = _
    rw [dit_zip]
    have x1 := ix_dic n h g.sup n.tk ht
    have x2 := ix_dic n h g.sup n.pt ht
    have e1 : intD (n.tk t) = .tup (n.ps.map fun p => D.int (arcV n.as p t)) := by simp [intD, Net.tk, Function.comp_def]
    have e2 : intD (n.pt t) = .tup (n.ps.map fun p => D.int (arcV n.as t p)) := by simp [intD, Net.pt, Function.comp_def]
    rw [e1] at x1
    rw [e2] at x2
    simp_arith [iZip, zips, preT, OT.get, lookN, fne, x1, x2, zip_same]
  · simp_arith [turnL, evIfs, noX, OkW, hac]
  · have := h.lp; unfold lim; omega
  · rfl
  · simp [leafs, Net.ch, Function.comp_def]
theorem c_ini7 : (den g e_Moves___init___7).v (iniS n (preT n) .un) = .ok (.dic (n.ts.map .str) (n.ts.map fun t => .leaf (intD (n.ch t)))) (iniS n (preT n) .un) := by
  unfold e_Moves___init___7
  rw [den_dcomp]
  refine dcomp_run n.ts (fun t => .str t) (fun t => .str t) (fun t => .leaf (intD (n.ch t))) ?_ (fun a ha acc hac => ?_) h.ndt ?_ ?_
  · show dit g _ _ _ = _
    rw [dit_seq]
    have e5 : n.d = .tup [names n.ps, names n.ts, .tup (n.as.map Arc.d)] := rfl
    simp_arith [iSeq, iterD, e5, names, iniS, e_Moves___init___6_x (g := g)]
  · have c := c_ini6 g n h a ha
    unfold iniS at c ⊢
    have e2 : keyK (.str a) = 1 := rfl
    simp_arith [turnD, addD, evIfs, noX, OkW, e2, hac, kindT, E.isTup, c, e_Moves___init___6_x, intD]
  · have := h.lt; unfold lim; omega
  · rfl
theorem r_init : runD g d_Moves___init__ [.ins "Moves" [] [], .leaf n.d] = .ok (.leaf .non) [some (movT n), none] := by
  rw [runD_eq rfl]
  have c1 := c_ini1 g n h (.ins "Moves" [] [])
  have c3 := c_ini3 g n h (.ins "Moves" ["places", "steps"] [.leaf (names n.ps), .leaf (names n.ts)])
  have c5 := c_ini5 g n h (.ins "Moves" ["places", "steps", "taken"] [.leaf (names n.ps), .leaf (names n.ts), .leaf (dTk n n.tk)])
  have c7 := c_ini7 g n h
  have e5 : n.d = .tup [names n.ps, names n.ts, .tup (n.as.map Arc.d)] := rfl
  have ef : ∀ f : Str → List Int, D.dic (n.ts.map D.str) (n.ts.map fun t => intD (f t)) = dTk n f := fun _ => rfl
  have l1 : n.as.map (fun x => OT.leaf (.int x.m)) = leafs (n.as.map fun x => .int x.m) := by simp [leafs, Function.comp_def]
  have l2 : ∀ f : Str → List Int, (n.ts.map fun t => OT.leaf (intD (f t))) = leafs (n.ts.map fun t => intD (f t)) := fun f => by simp [leafs, Function.comp_def]
  have hl2 : 2 ≤ lim := by unfold lim; omega
  rw [l1] at c1
  rw [l2] at c3 c5 c7
  rw [e5] at c1
  unfold iniS at c3 c5 c7
  rw [e5] at c3 c5 c7
  unfold preT at c7
  simp_arith [d_Moves___init__, e5, c1, c3, c5, c7, putN, fne, hl2, ef, movT, fieldN]
end
end K02
end
section
set_option linter.all false
set_option maxRecDepth 100000
set_option maxHeartbeats 0
namespace K02
open PySem Tk
theorem rangeD_eq : ∀ (k : Nat) (lo : Int), rangeD lo k = (List.range k).map fun (i : Nat) => D.int (lo + i)
  | 0, lo => rfl
  | k + 1, lo => by
    show D.int lo :: rangeD (lo + 1) k = _
    rw [rangeD_eq k (lo + 1), List.range_succ_eq_map, List.map_cons, List.map_map]
    congr 1
    · simp
    · apply List.map_congr_left
      intro i _
      show D.int (lo + 1 + i) = D.int (lo + ((i + 1 : Nat) : Int))
      congr 1
      omega
theorem range_ok {k : Nat} (h : k ≤ 100000) : range? [.int (k : Int)] = some ((List.range k).map fun (i : Nat) => D.int (i : Int)) := by
  have e : okR (k : Int) = true := by unfold okR; rw [decide_eq_true (by omega), decide_eq_true (by omega)]; rfl
  show (if okR (k : Int) then some (rangeD 0 (k : Int).toNat) else none) = _
  rw [e, if_pos rfl, rangeD_eq]
  simp
theorem range_hit {pu : Bool} {δ : Den} {S S1 : SS} {k : Nat} (hk : k ≤ 100000) (ho : evQ pu true δ S = .ok (.int (k : Int)) S1) : iRange pu [δ] S = .ok ((List.range k).map fun (i : Nat) => .int (i : Int)) S1 := by
  have e : evL pu true [δ] S = .ok [.int (k : Int)] S1 := by
    simp only [evL, ho, bind_ok']
  unfold iRange
  rw [e, bind_ok', range_ok hk, opt_some']
theorem atL_map {α : Type} {l : List α} {f : α → D} {k : Nat} (h : k < l.length) : atL (l.map f) (k : Int) = some (f l[k]) := by
  rw [atL_nat (by simpa using h), List.getElem?_map, List.getElem?_eq_getElem h]
  rfl
section
variable {n : Net} (h : n.Ok)
include h
theorem arcV_bd {a b : Str} : 0 ≤ arcV n.as a b ∧ arcV n.as a b ≤ 9 := by
  have key : ∀ as : List Arc, (as.map Arc.key).Nodup → (∀ x, x ∈ as → 1 ≤ x.m ∧ x.m ≤ 9) → 0 ≤ arcV as a b ∧ arcV as a b ≤ 9 := by
    intro as
    induction as with
    | nil => intro _ _; exact ⟨Int.le_refl _, show (0 : Int) ≤ 9 by decide⟩
    | cons x r ih =>
      intro nd hb
      have nd2 := List.nodup_cons.mp (show (Arc.key x :: r.map Arc.key).Nodup from nd)
      by_cases h1 : x.a = a ∧ x.b = b
      · have e : arcV (x :: r) a b = x.m + arcV r a b := by unfold arcV; rw [List.filter_cons, if_pos (by simpa using h1), List.map_cons, List.sum_cons]
        have hk : Arc.key x = .tup [.str a, .str b] := by rw [Arc.key, h1.1, h1.2]
        rw [e, arcV_none (by rw [← hk]; exact nd2.1)]
        have := hb x List.mem_cons_self
        omega
      · have e : arcV (x :: r) a b = arcV r a b := by unfold arcV; rw [List.filter_cons, if_neg (by simpa using h1)]
        rw [e]
        exact ih nd2.2 fun y hy => hb y (List.mem_cons_of_mem _ hy)
  exact key n.as h.nda fun x hx => (h.arc x hx).2
theorem ch_bd {t : Str} {i : Int} (hi : i ∈ n.ch t) : -9 ≤ i ∧ i ≤ 9 := by
  obtain ⟨p, _, rfl⟩ := List.mem_map.mp hi
  have h1 := arcV_bd h (a := t) (b := p)
  have h2 := arcV_bd h (a := p) (b := t)
  omega
end
theorem ch_len {n : Net} {t : Str} : (n.ch t).length = n.ps.length := List.length_map _
theorem tk_len {n : Net} {t : Str} : (n.tk t).length = n.ps.length := List.length_map _
end K02
end
section
set_option linter.all false
set_option maxRecDepth 100000
set_option maxHeartbeats 0
/-! Steps and runs. -/
namespace K02
open PySem Tk
abbrev movF (n : Net) : OT := .leaf (movT n).frz
def canB (n : Net) (ms : List Int) (t : Str) : Bool := (ms.zip (n.tk t)).all fun p => decide (p.2 ≤ p.1)
def aft (n : Net) (ms : List Int) (t : Str) : List Int := (ms.zip (n.ch t)).map fun p => p.1 + p.2
theorem aft_len {n : Net} {ms : List Int} {t : Str} (h : ms.length = n.ps.length) : (aft n ms t).length = n.ps.length := by
  unfold aft
  rw [List.length_map, List.length_zip, ch_len, h, Nat.min_self]
section
variable (g : G) (n : Net) (h : n.Ok) (ms : List Int) (hl : ms.length = n.ps.length) (t : Str) (ht : t ∈ n.ts)
include h hl ht
theorem c_can : (den g e_Moves_can_1).v [.own (movF n), .own (.leaf (intD ms)), .own (.leaf (.str t)), .un, .un] = .ok (.lst (leafs ((ms.zip (n.tk t)).map fun p => .bl (decide (p.2 ≤ p.1))))) [.own (movF n), .own (.leaf (intD ms)), .own (.leaf (.str t)), .un, .un] := by
  unfold e_Moves_can_1
  rw [den_lcomp]
  refine (lcomp_map (ms.zip (n.tk t)) (fun p => .tup [.int p.1, .int p.2]) (fun p => .leaf (.bl (decide (p.2 ≤ p.1)))) ?_ (fun p hp acc hac => ?_) ?_ ?_).trans ?_
  · have x1 := ix_dic n h g.sup n.tk ht
    have z := zip2_map D.int D.int ms (n.tk t)
    simp_arith [iZip, zips, movF, movT, fieldN, OT.get, D.get, lookN, fne, x1, intD, z]
  · simp_arith [turnL, evIfs, noX, OkW, hac]
  · have := h.lp; rw [List.length_zip]; unfold lim; omega
  · rfl
  · simp [leafs]
theorem r_can : runD g d_Moves_can [movF n, .leaf (intD ms), .leaf (.str t)] = .ok (.leaf (.bl (canB n ms t))) [some (movF n), none, none] := by
  rw [runD_eq rfl]
  have c := c_can g n h ms hl t ht
  have a := sem_all (sup := g.sup) (p := fun p : Int × Int => decide (p.2 ≤ p.1)) (l := ms.zip (n.tk t))
  simp_arith [d_Moves_can, c, e_Moves_can_1_x, a, canB]
theorem c_aft : (den g e_Moves_after_1).v [.own (movF n), .own (.leaf (intD ms)), .own (.leaf (.str t)), .un, .un] = .ok (.lst (leafs ((aft n ms t).map .int))) [.own (movF n), .own (.leaf (intD ms)), .own (.leaf (.str t)), .un, .un] := by
  unfold e_Moves_after_1
  rw [den_lcomp]
  refine (lcomp_map (ms.zip (n.ch t)) (fun p => .tup [.int p.1, .int p.2]) (fun p => .leaf (.int (p.1 + p.2))) ?_ (fun p hp acc hac => ?_) ?_ ?_).trans ?_
  · have x1 := ix_dic n h g.sup n.ch ht
    have z := zip2_map D.int D.int ms (n.ch t)
    simp_arith [iZip, zips, movF, movT, fieldN, OT.get, D.get, lookN, fne, x1, intD, z]
  · simp_arith [turnL, evIfs, noX, OkW, hac]
  · have := h.lp; rw [List.length_zip]; unfold lim; omega
  · rfl
  · simp [leafs, aft, Function.comp_def]
theorem r_aft : runD g d_Moves_after [movF n, .leaf (intD ms), .leaf (.str t)] = .ok (.leaf (intD (aft n ms t))) [some (movF n), none, none] := by
  rw [runD_eq rfl]
  have c := c_aft g n h ms hl t ht
  have e : intD (aft n ms t) = .tup ((aft n ms t).map .int) := rfl
  rw [e]
  simp_arith [d_Moves_after, c, e_Moves_after_1_x]
end
/-- all between 0 and k -/
def Bnd (ms : List Int) (k : Nat) : Prop := ∀ i, i ∈ ms → 0 ≤ i ∧ i ≤ k
theorem zip_can {a b : List Int} (h : (a.zip b).all (fun p => decide (p.2 ≤ p.1)) = true) {p : Int × Int} (hp : p ∈ a.zip b) : p.2 ≤ p.1 := by simpa using List.all_eq_true.mp h p hp
theorem aft_bd {n : Net} (h : n.Ok) {ms : List Int} {t : Str} {k : Nat} (hl : ms.length = n.ps.length) (hb : Bnd ms k) (hc : canB n ms t = true) : Bnd (aft n ms t) (k + 9) := by
  intro i hi
  obtain ⟨p, hp, rfl⟩ := List.mem_map.mp hi
  obtain ⟨j, hj, e⟩ := List.mem_iff_getElem.mp hp
  rw [List.getElem_zip] at e
  have hj2 : j < ms.length ∧ j < (n.ch t).length := by rw [List.length_zip] at hj; omega
  have hjp : j < n.ps.length := by rw [← hl]; exact hj2.1
  have b1 := hb ms[j] (List.getElem_mem hj2.1)
  have c1 : n.tk t = n.ps.map fun p => arcV n.as p t := rfl
  have c2 : n.ch t = n.ps.map fun p => arcV n.as t p - arcV n.as p t := rfl
  have tj : j < (n.tk t).length := by rw [tk_len]; exact hjp
  have e1 : (n.tk t)[j] = arcV n.as n.ps[j] t := by simp [c1]
  have e2 : (n.ch t)[j] = arcV n.as t n.ps[j] - arcV n.as n.ps[j] t := by simp [c2]
  have v1 := arcV_bd h (a := t) (b := n.ps[j])
  have v2 := arcV_bd h (a := n.ps[j]) (b := t)
  have cz : (ms[j], (n.tk t)[j]) ∈ ms.zip (n.tk t) := by
    rw [List.mem_iff_getElem]
    exact ⟨j, by rw [List.length_zip]; omega, by rw [List.getElem_zip]⟩
  have c3 := zip_can hc cz
  rw [← e]
  dsimp only at c3 ⊢
  omega
def go (n : Net) : List Int → List Str → Option (List Int)
  | ms, [] => some ms
  | ms, t :: r => if t ∈ n.ts ∧ canB n ms t = true then go n (aft n ms t) r else none
theorem maxI_le {k : Int} : ∀ {l : List Int} {m : Int}, m ≤ k → (∀ i, i ∈ l → i ≤ k) → maxI m l ≤ k
  | [], m, h, _ => h
  | a :: l, m, h, hl => by
    show maxI (if m < a then a else m) l ≤ k
    refine maxI_le ?_ fun i hi => hl i (List.mem_cons_of_mem _ hi)
    split
    · exact hl a List.mem_cons_self
    · exact h
theorem intsOf_id (l : List Int) : intsOf (l.map D.int) = some l := by
  have := intsOf_map id l
  simpa using this
theorem sem_max0 {sup : Str → List Str} {x : Int} {ms : List Int} : P.max.sem sup [.lst (.int x :: ms.map .int)] = some (.int (maxI x ms)) := by
  show (intsOf (D.int x :: ms.map .int)).bind _ = _
  have e : intsOf (D.int x :: ms.map .int) = some (x :: ms) := by
    show (intsOf (ms.map .int)).map (x :: ·) = _
    rw [intsOf_id]
    rfl
  rw [e]
  rfl
theorem owns_vals (ds : List D) : ownsA (ds.map fun d => .val (.leaf d)) = some (leafs ds) := by
  have := owns_map ds []
  rw [List.append_nil] at this
  rw [this]
  show some (leafs ds ++ []) = _
  rw [List.append_nil]
section
variable (g : G) (n : Net) (h : n.Ok)
  (hcan : ∀ ms t, ms.length = n.ps.length → t ∈ n.ts → g.fn (methName "Moves" "can") [movF n, .leaf (intD ms), .leaf (.str t)] = .ok (.leaf (.bl (canB n ms t))) [some (movF n), none, none])
  (haft : ∀ ms t, ms.length = n.ps.length → t ∈ n.ts → g.fn (methName "Moves" "after") [movF n, .leaf (intD ms), .leaf (.str t)] = .ok (.leaf (intD (aft n ms t))) [some (movF n), none, none])
include h hcan haft
theorem b_end (ms : List Int) (k : Nat) (hl : ms.length = n.ps.length) (hb : Bnd ms k) (hk : k ≤ 100000) (t : Str) (r : D) :
    dS g [0] b_Moves_end_1 [.own (movF n), .own (.leaf (intD ms)), .own (.leaf r), .own (.leaf (.str t))] = if t ∈ n.ts ∧ canB n ms t = true then .nx [.own (movF n), .own (.leaf (intD (aft n ms t))), .own (.leaf r), .own (.leaf (.str t))] else .ret (.leaf .non) [.own (movF n), .own (.leaf (intD ms)), .own (.leaf r), .own (.leaf (.str t))] := by
  have nin : P.nin.sem g.sup [.str t, dTk n n.tk] = some (.bl (!decide (t ∈ n.ts))) := by
    show Tk.chk (keyOk (n.ts.map .str) (.str t)) (.bl (!(lookD (n.ts.map D.str) (n.ts.map fun t => intD (n.tk t)) (.str t)).isSome)) = _
    rw [keyOk_str]
    show some (D.bl _) = _
    congr 3
    by_cases ht : t ∈ n.ts
    · rw [lookD_map (κ := D.str) (ψ := fun t => intD (n.tk t)) (fun a b e => by cases e; rfl) ht, decide_eq_true ht]
      rfl
    · have : ∀ l : List Str, t ∉ l → lookD (l.map D.str) (l.map fun t => intD (n.tk t)) (.str t) = none := fun l => by
        induction l with
        | nil => intro _; rfl
        | cons a l ih =>
          intro hn
          have hne : ¬ D.str a = D.str t := fun e => hn (by cases e; exact List.mem_cons_self)
          have e : lookD ((a :: l).map D.str) ((a :: l).map fun t => intD (n.tk t)) (.str t) = lookD (l.map D.str) (l.map fun t => intD (n.tk t)) (.str t) := if_neg hne
          rw [e]
          exact ih fun z => hn (List.mem_cons_of_mem _ z)
      rw [this n.ts ht, decide_eq_false ht]
      rfl
  have tkp : OT.get (movF n) (.attr "taken") = some (.leaf (dTk n n.tk)) := by
    show (lookN fieldN [names n.ps, names n.ts, dTk n n.tk, dTk n n.pt, dTk n n.ch] (Str.ofString "taken")).map OT.leaf = _
    simp_arith [fieldN, lookN, fne]
  have rok : recvOk "Moves" "can" (movF n) = true := by kernel_rfl
  have rok2 : recvOk "Moves" "after" (movF n) = true := by kernel_rfl
  by_cases ht : t ∈ n.ts
  · have h1 := hcan ms t hl ht
    have h2 := haft ms t hl ht
    by_cases hc : canB n ms t = true
    · have h3 := aft_len (t := t) hl
      have h4 := aft_bd h hl hb hc
      have h5 : ¬ (1000000 : Int) < maxI 0 (aft n ms t) := by
        have := maxI_le (k := ((k + 9 : Nat) : Int)) (l := aft n ms t) (m := 0) (by omega) fun i hi => (h4 i hi).2
        omega
      have ll : (0 + 1 + (aft n ms t).length ≤ lim) := by rw [h3]; have := h.lp; unfold lim; omega
      have ll2 : (leafs ((aft n ms t).map D.int)).length + 1 ≤ lim := by simp only [leafs, List.length_map]; omega
      rw [if_pos ⟨ht, hc⟩]
      have e2 : intD (aft n ms t) = .tup ((aft n ms t).map .int) := rfl
      simp_arith [b_Moves_end_1, tkp, nin, ht, rok, rok2, h1, h2, hc, e2, items?, owns_vals, ll2, sem_max0, h5]
    · rw [if_neg fun z => hc z.2]
      have hc' : canB n ms t = false := by simpa using hc
      simp_arith [b_Moves_end_1, tkp, nin, ht, rok, rok2, h1, h2, hc']
  · rw [if_neg fun z => ht z.1]
    simp_arith [b_Moves_end_1, tkp, nin, ht]
omit h hcan haft in
theorem goEq (ms : List Int) (t : Str) (r : List Str) : go n ms (t :: r) = if t ∈ n.ts ∧ canB n ms t = true then go n (aft n ms t) r else none := rfl
def EndP (n : Net) (r : D) (o : Option (List Int)) (f : Fl) : Prop := match o with
  | some ms' => f = .nx [.own (movF n), .own (.leaf (intD ms')), .own (.leaf r), .un]
  | none => ∃ y z, f = .ret (.leaf .non) [.own (movF n), y, .own (.leaf r), z]
theorem l_end (r : D) : ∀ (run : List Str) (ms : List Int) (k : Nat), ms.length = n.ps.length → Bnd ms k → k + 9 * run.length ≤ 100000 → EndP n r (go n ms run) (loopS [3] (fun d T => match setT (.nm 3) d T with
      | none => .bad
      | some T1 => dS g [0] b_Moves_end_1 T1) (run.map .str) [.own (movF n), .own (.leaf (intD ms)), .own (.leaf r), .un])
  | [], ms, k, hl, hb, hk => rfl
  | t :: run, ms, k, hl, hb, hk => by
    rw [List.length_cons] at hk
    have b := b_end g n h hcan haft ms k hl hb (by omega) t r
    have e : loopS [3] (fun d T => match setT (.nm 3) d T with
      | none => .bad
      | some T1 => dS g [0] b_Moves_end_1 T1) ((t :: run).map .str) [.own (movF n), .own (.leaf (intD ms)), .own (.leaf r), .un] = match dS g [0] b_Moves_end_1 [.own (movF n), .own (.leaf (intD ms)), .own (.leaf r), .own (.leaf (.str t))] with
        | .nx S' => loopS [3] (fun d T => match setT (.nm 3) d T with
          | none => .bad
          | some T1 => dS g [0] b_Moves_end_1 T1) (run.map .str) (wipeS S' [3])
        | .cnt S' => loopS [3] (fun d T => match setT (.nm 3) d T with
          | none => .bad
          | some T1 => dS g [0] b_Moves_end_1 T1) (run.map .str) (wipeS S' [3])
        | .brk S' => .nx S'
        | r => r := rfl
    rw [e, b, goEq]
    by_cases hc : t ∈ n.ts ∧ canB n ms t = true
    · rw [if_pos hc, if_pos hc]
      exact l_end r run (aft n ms t) (k + 9) (aft_len hl) (aft_bd h hl hb hc.2) (by omega)
    · rw [if_neg hc, if_neg hc]
      exact ⟨_, _, rfl⟩
theorem end_of (run : List Str) (ms : List Int) (k : Nat) (hl : ms.length = n.ps.length) (hb : Bnd ms k) (hk : k + 9 * run.length ≤ 100000) : runD g d_Moves_end [movF n, .leaf (intD ms), .leaf (.lst (run.map .str))] = .ok (match go n ms run with | some ms' => .leaf (intD ms') | none => .leaf .non) [some (movF n), none, none] := by
  rw [runD_eq rfl]
  have l := l_end g n h hcan haft (.lst (run.map .str)) run ms k hl hb hk
  have e : dS g [0] l_Moves_end_1 [.own (movF n), .own (.leaf (intD ms)), .own (.leaf (.lst (run.map .str))), .un] = loopS [3] (fun d T => match setT (.nm 3) d T with
      | none => .bad
      | some T1 => dS g [0] b_Moves_end_1 T1) (run.map .str) [.own (movF n), .own (.leaf (intD ms)), .own (.leaf (.lst (run.map .str))), .un] := by
    unfold l_Moves_end_1
    rw [dS_for]
    rfl
  cases hg : go n ms run with
  | some ms' =>
    rw [hg] at l
    rw [show loopS _ _ _ _ = _ from l] at e
    simp_arith [d_Moves_end, e]
  | none =>
    rw [hg] at l
    obtain ⟨y, z, l⟩ := l
    rw [l] at e
    simp_arith [d_Moves_end, e]
end
end K02
end
section
set_option linter.all false
set_option maxRecDepth 100000
set_option maxHeartbeats 0
/-! The law's draws. -/
namespace K02
open PySem Tk
theorem loopS_cons {kill : List Nat} {f : D → SS → Fl} {d : D} {ds : List D} {S S1 : SS} (h : f d S = .nx S1) : loopS kill f (d :: ds) S = loopS kill f ds (wipeS S1 kill) := by
  show (match f d S with
    | .nx S' => loopS kill f ds (wipeS S' kill)
    | .cnt S' => loopS kill f ds (wipeS S' kill)
    | .brk S' => .nx S'
    | r => r) = _
  rw [h]
theorem loopS_inv {kill : List Nat} {f : D → SS → Fl} {P : Nat → SS → Prop} (K : Nat) : ∀ {ds : List D} {k : Nat} {S : SS}, (∀ d, d ∈ ds → ∀ k S, k < K → P k S → ∃ S', f d S = .nx S' ∧ P (k + 1) (wipeS S' kill)) → k + ds.length ≤ K → P k S → ∃ S', loopS kill f ds S = .nx S' ∧ P (k + ds.length) S'
  | [], k, S, _, _, h => ⟨S, rfl, h⟩
  | d :: ds, k, S, hb, hK, h => by
    rw [List.length_cons] at hK
    obtain ⟨S', e, h2⟩ := hb d List.mem_cons_self k S (by omega) h
    obtain ⟨S2, e2, h3⟩ := loopS_inv K (ds := ds) (k := k + 1) (fun d hd => hb d (List.mem_cons_of_mem _ hd)) (by omega) h2
    exact ⟨S2, by rw [loopS_cons e]; exact e2, by rw [List.length_cons, show k + (ds.length + 1) = k + 1 + ds.length by omega]; exact h3⟩
theorem flat_leafs {ds : List D} : (leafs ds).all OT.isLeaf = true := by simp [leafs, OT.isLeaf]
theorem frzs_app : ∀ {a b : List OT}, OT.frzs (a ++ b) = OT.frzs a ++ OT.frzs b
  | [], _ => rfl
  | t :: a, b => congrArg (t.frz :: ·) (frzs_app (a := a) (b := b))
theorem runD_ret {g : G} {d : Def} {ts : List OT} {S0 S1 : SS} {t : OT} {ps : List (Option OT)} (h : ts.length = d.np) (hs : ts.map .own ++ List.replicate (d.ns - d.np) .un = S0) (hb : dS g d.br d.body S0 = .ret t S1) (hl : lastOf S1 d.br d.np 0 = some ps) : runD g d ts = .ok t ps := by
  rw [runD_eq h, hs, hb]
  show (match lastOf S1 d.br d.np 0 with | some ps => FR.ok t ps | none => .bad) = _
  rw [hl]
theorem runD_exc {g : G} {d : Def} {ts : List OT} {S0 S1 : SS} {x : D} {ps : List (Option OT)} (h : ts.length = d.np) (hs : ts.map .own ++ List.replicate (d.ns - d.np) .un = S0) (hb : dS g d.br d.body S0 = .exc x S1) (hl : lastOf S1 d.br d.np 0 = some ps) : runD g d ts = .exc x ps := by
  rw [runD_eq h, hs, hb]
  show (match lastOf S1 d.br d.np 0 with | some ps => FR.exc x ps | none => .bad) = _
  rw [hl]
theorem asg_nm {g : G} {br : List Nat} {i : Nat} {e : E} {S S1 : SS} {u : OT} (he : (den g e).v S = .ok u S1) (h : (Tg.nm i).free br = true) (hi : i < S1.length) : dS g br (.asg (.nm i) e) S = .nx (S1.set i (.own u)) := by
  rw [dS_asg, he, fl_ok']
  unfold setO
  rw [if_pos h]
  exact if_pos hi
theorem seq_of {g : G} {br : List Nat} {a b : Tk.S} {S S1 : SS} (h : dS g br a S = .nx S1) : dS g br (.seq a b) S = dS g br b S1 := by rw [dS_seq, h, seq_nx]
def intT (xs : List Int) : OT := .lst (leafs (xs.map .int))
theorem intT_app {xs : List Int} {i : Int} : OT.lst (leafs (xs.map .int) ++ [.leaf (.int i)]) = intT (xs ++ [i]) := by simp [intT, leafs]
theorem intT_len {xs : List Int} : (leafs (xs.map D.int)).length = xs.length := by simp [leafs]
theorem s_mul {sup : Str → List Str} {a b : Int} (h : b.natAbs < 100000) : P.mul.sem sup [.int a, .int b] = some (.int (a * b)) := by
  show Tk.chk (wideOk a b) _ = _
  have e : wideOk a b = true := by
    unfold wideOk
    rw [decide_eq_true (p := b.natAbs < 2 ^ 64) (by omega)]
    simp
  rw [e]
  rfl
section
variable (g : G) (is : List Int)
def drS (is xs : List Int) (s : Int) (c : Sl) (m : Sl) : SS := [.own (.leaf (.scr is)), .own (intT xs), .own (.leaf (.int s)), c, m, .un]
theorem dr1 (xs : List Int) (hx : xs.length < lim) (s m : Int) (c : Sl) (d : D) : ∃ xs' m', dS g [] b_law_draws_1 [.own (.leaf (.scr is)), .own (intT xs), .own (.leaf (.int s)), c, .own (.leaf (.int m)), .own (.leaf d)] =
    .nx [.own (.leaf (.scr is)), .own (intT xs'), .own (.leaf (.int s)), c, .own (.leaf (.int m')), .own (.leaf d)] ∧ xs'.length ≤ xs.length + 1 := by
  have hx' : (leafs (xs.map D.int)).length < lim := by rw [intT_len]; exact hx
  have e1 := sem_mod (sup := g.sup) (a := m) (b := 997) (by decide)
  have e2 := sem_fdiv (sup := g.sup) (a := m) (b := 997) (by decide) (by decide)
  by_cases h : (0 : Int) < m
  · refine ⟨xs ++ [m.fmod 997], m.fdiv 997, ?_, by simp⟩
    rw [← intT_app]
    simp_arith [b_law_draws_1, h, M.fits, intT, e1, e2, hx']
  · refine ⟨xs, m, ?_, by omega⟩
    simp_arith [b_law_draws_1, h, M.fits, intT]
theorem range_len (lo : Int) : ∀ k : Nat, (rangeD lo k).length = k
  | 0 => rfl
  | k + 1 => congrArg (· + 1) (range_len (lo + 1) k)
theorem dr1l (xs : List Int) (hx : xs.length ≤ 100000) (s m : Int) (c : Sl) : ∃ xs' m', dS g [] l_law_draws_1 (drS is xs s c (.own (.leaf (.int m)))) = .nx (drS is xs' s c (.own (.leaf (.int m')))) ∧ xs'.length ≤ xs.length + 60 := by
  obtain ⟨S', e, k⟩ := loopS_inv (kill := [5]) (f := fun d T => match setT (.nm 5) d T with
      | none => .bad
      | some T1 => dS g [] b_law_draws_1 T1) (P := fun k S => ∃ xs' m', S = drS is xs' s c (.own (.leaf (.int m'))) ∧ xs'.length ≤ k) 1000000 (ds := rangeD 0 60) (k := xs.length) (S := drS is xs s c (.own (.leaf (.int m)))) (by
    rintro d _ k S hK ⟨xs1, m1, rfl, hk⟩
    obtain ⟨xs2, m2, e, h2⟩ := dr1 g is xs1 (by unfold lim; omega) s m1 c d
    exact ⟨_, e, xs2, m2, rfl, by omega⟩) (by rw [range_len]; omega) ⟨xs, m, rfl, Nat.le_refl _⟩
  obtain ⟨xs', m', rfl, h2⟩ := k
  rw [range_len] at h2
  exact ⟨xs', m', e, h2⟩
theorem dr2 (xs : List Int) (hx : xs.length ≤ 90000) (s i : Int) : ∃ xs' s' m', dS g [] b_law_draws_2 (drS is xs s (.own (.leaf (.int i))) .un) = .nx (drS is xs' s' (.own (.leaf (.int i))) (.own (.leaf (.int m')))) ∧ xs'.length ≤ xs.length + 62 := by
  have w1 := s_mul (sup := g.sup) (a := s) (b := 48271) (by decide)
  have e1 : ∀ a, P.mod.sem g.sup [.int a, .int 2147483647] = some (.int (a.fmod 2147483647)) := fun a => sem_mod (by decide)
  have e2 : ∀ a, P.mod.sem g.sup [.int a, .int 997] = some (.int (a.fmod 997)) := fun a => sem_mod (by decide)
  have e3 : ∀ a, P.mod.sem g.sup [.int a, .int 65521] = some (.int (a.fmod 65521)) := fun a => sem_mod (by decide)
  have e4 : P.pow.sem g.sup [.int 10, .int 18] = some (.int 1000000000000000000) := by kernel_rfl
  have hx' : (leafs (xs.map D.int)).length < lim := by rw [intT_len]; unfold lim; omega
  have hx2 : ∀ a : OT, (leafs (xs.map D.int) ++ [a]).length < lim := fun a => by rw [List.length_append, intT_len]; show xs.length + 1 < lim; unfold lim; omega
  generalize hm : (if i < 0 then -i else i) = m
  generalize hs : (s * 48271 + m + 1).fmod 2147483647 = s1
  by_cases hlt : m < 1000000000000000000
  · obtain ⟨xs', m', e, hl⟩ := dr1l g is (xs ++ [m.fmod 997] ++ [s1.fmod 65521]) (by simp; omega) s1 0 (.own (.leaf (.int i)))
    refine ⟨xs', s1, m', ?_, by simp at hl; omega⟩
    have hx3 := hx2 (.leaf (.int (m.fmod 997)))
    rw [← e]
    unfold drS
    rw [← intT_app]
    simp_arith [b_law_draws_2, M.fits, intT, w1, e1, e2, e3, e4, hm, hs, hlt, hx', hx3, drS]
    simp only [List.map_append, List.map_cons, List.map_nil, leafs, List.append_assoc, List.cons_append, List.nil_append]
  · obtain ⟨xs', m', e, hl⟩ := dr1l g is xs (by omega) s1 m (.own (.leaf (.int i)))
    refine ⟨xs', s1, m', ?_, by omega⟩
    rw [← e]
    simp_arith [b_law_draws_2, M.fits, intT, w1, e1, e2, e3, e4, hm, hs, hlt, drS]
theorem dr2l (h : is.length ≤ 63) : ∃ xs' s', dS g [] l_law_draws_2 (drS is [] 11 .un .un) = .nx (drS is xs' s' .un .un) ∧ xs'.length ≤ 10000 := by
  obtain ⟨S', e, k⟩ := loopS_inv (kill := [3, 4, 5]) (f := fun d T => match setT (.nm 3) d T with
      | none => .bad
      | some T1 => dS g [] b_law_draws_2 T1) (P := fun k S => ∃ xs' s', S = drS is xs' s' .un .un ∧ xs'.length ≤ 62 * k) 100 (ds := is.map .int) (k := 0) (S := drS is [] 11 .un .un) (by
    rintro d hd k S hK ⟨xs1, s1, rfl, hk⟩
    obtain ⟨i, _, rfl⟩ := List.mem_map.mp hd
    obtain ⟨xs2, s2, m2, e, h2⟩ := dr2 g is xs1 (by omega) s1 i
    exact ⟨_, e, xs2, s2, rfl, by omega⟩) (by rw [List.length_map]; omega) ⟨[], 11, rfl, Nat.le_refl _⟩
  obtain ⟨xs', s', rfl, h2⟩ := k
  rw [List.length_map] at h2
  exact ⟨xs', s', e, by omega⟩
theorem dr3 (xs : List Int) (hx : xs.length ≤ 90000) (s : Int) (d : D) : ∃ xs' s', dS g [] b_law_draws_3 [.own (.leaf (.scr is)), .own (intT xs), .own (.leaf (.int s)), .un, .un, .own (.leaf d)] =
    .nx [.own (.leaf (.scr is)), .own (intT xs'), .own (.leaf (.int s')), .un, .un, .own (.leaf d)] ∧ xs'.length = xs.length + 1 := by
  have hx' : (leafs (xs.map D.int)).length < lim := by rw [intT_len]; unfold lim; omega
  have w1 := s_mul (sup := g.sup) (a := s) (b := 48271) (by decide)
  have e1 : ∀ a, P.mod.sem g.sup [.int a, .int 2147483647] = some (.int (a.fmod 2147483647)) := fun a => sem_mod (by decide)
  have e2 : ∀ a, P.fdiv.sem g.sup [.int a, .int 5] = some (.int (a.fdiv 5)) := fun a => sem_fdiv (by decide) (by decide)
  generalize hs : (s * 48271 + 69621).fmod 2147483647 = s1
  refine ⟨xs ++ [s1.fdiv 5], s1, ?_, by simp⟩
  rw [← intT_app]
  simp_arith [b_law_draws_3, M.fits, intT, w1, e1, e2, hs, hx']
theorem dr3l (xs : List Int) (hx : xs.length ≤ 10000) (s : Int) : ∃ xs' s', dS g [] l_law_draws_3 (drS is xs s .un .un) = .nx (drS is xs' s' .un .un) ∧ xs'.length ≤ xs.length + 900 := by
  obtain ⟨S', e, k⟩ := loopS_inv (kill := [5]) (f := fun d T => match setT (.nm 5) d T with
      | none => .bad
      | some T1 => dS g [] b_law_draws_3 T1) (P := fun k S => ∃ xs' s', S = drS is xs' s' .un .un ∧ xs'.length ≤ k) 20000 (ds := rangeD 0 900) (k := xs.length) (S := drS is xs s .un .un) (by
    rintro d _ k S hK ⟨xs1, m1, rfl, hk⟩
    obtain ⟨xs2, m2, e, h2⟩ := dr3 g is xs1 (by omega) m1 d
    exact ⟨_, e, xs2, m2, rfl, by omega⟩) (by rw [range_len]; omega) ⟨xs, s, rfl, Nat.le_refl _⟩
  obtain ⟨xs', s', rfl, h2⟩ := k
  rw [range_len] at h2
  exact ⟨xs', s', e, h2⟩
theorem r_draws (h : is.length ≤ 63) : ∃ xs, runD g d_law_draws [.leaf (.scr is)] = .ok (intT xs) [none] := by
  obtain ⟨xs1, s1, e1, h1⟩ := dr2l g is h
  obtain ⟨xs2, s2, e2, h2⟩ := dr3l g is xs1 h1 s1
  refine ⟨xs2.reverse, ?_⟩
  rw [runD_eq rfl]
  unfold drS intT at e1 e2
  have pn : plainName (.prim .lrev [.pl 1 []]) = none := rfl
  have e : intT xs2.reverse = .lst (leafs (xs2.map D.int).reverse) := by unfold intT; rw [List.map_reverse]
  rw [e]
  have l0 : 0 ≤ lim := Nat.zero_le _
  simp only [List.map_nil, leafs_nil] at e1
  simp_arith [d_law_draws, e1, e2, pn, l0, flat_leafs]
end
/-! ### one draw -/
theorem r_take (g : G) (xs : List Int) (b : Int) (hb : 0 < b) : ∃ k xs', runD g d_law_take [intT xs, .leaf (.int b)] = .ok (.leaf (.int k)) [some (intT xs'), none] ∧ 0 ≤ k ∧ k < b := by
  rcases List.eq_nil_or_concat xs with rfl | ⟨ys, y, rfl⟩
  · refine ⟨0, [], ?_, Int.le_refl _, hb⟩
    rw [runD_eq rfl]
    simp_arith [d_law_take, intT, List.map_nil]
  · refine ⟨y.fmod b, ys, ?_, Int.fmod_nonneg_of_pos _ hb, Int.fmod_lt_of_pos _ hb⟩
    rw [runD_eq rfl]
    have e1 := sem_mod (sup := g.sup) (a := y) (b := b) (by omega)
    have e2 : ¬ (((leafs ((ys.concat y).map D.int)).length : Nat) : Int) = 0 := by rw [intT_len]; simp; omega
    have e3 : leafs (ys.map D.int ++ [D.int y]) = leafs (ys.map .int) ++ [.leaf (.int y)] := by simp [leafs]
    have e4 : (leafs (ys.map D.int) ++ [OT.leaf (.int y)]).getLast? = some (.leaf (.int y)) := by simp
    have e5 : (leafs (ys.map D.int) ++ [OT.leaf (.int y)]).dropLast = leafs (ys.map .int) := by simp
    have e6 : ¬ (((ys.map D.int ++ [D.int y]).length : Nat) : Int) = 0 := by simp; omega
    have e7 : (ys.concat y).map D.int = ys.map .int ++ [.int y] := by simp
    simp_arith [d_law_take, intT, e1, e3, e4, e5, e6, e7, M.fits, frzs_app]
theorem r_pick (g : G) (xs : List Int) (ds : List D) (hd : ds ≠ []) (u : OT) (hu : u = .lst (leafs ds) ∨ u = .leaf (.lst ds)) (ht : ∀ xs b, 0 < b → ∃ k xs', g.fn "_law_take" [intT xs, .leaf (.int b)] = .ok (.leaf (.int k)) [some (intT xs'), none] ∧ 0 ≤ k ∧ k < b) :
    ∃ d xs', runD g d_law_pick [intT xs, u] = .ok (.leaf d) [some (intT xs'), none] ∧ d ∈ ds := by
  have hl : 0 < ds.length := List.length_pos_iff.mpr hd
  obtain ⟨k, xs', e, h1, h2⟩ := ht xs ds.length (by omega)
  have hk : k.toNat < ds.length := by omega
  refine ⟨ds[k.toNat], xs', ?_, List.getElem_mem hk⟩
  rw [runD_eq rfl]
  have e1 : atL ds k = some ds[k.toNat] := by
    have := atL_nat (l := ds) (k := k.toNat) hk
    rw [show ((k.toNat : Nat) : Int) = k by omega] at this
    rw [this, List.getElem?_eq_getElem hk]
  have e0 : intT xs = .lst (leafs (xs.map .int)) := rfl
  rcases hu with rfl | rfl
  · simp_arith [d_law_pick, e, e1]
  · simp_arith [d_law_pick, e, e1]
end K02
end
section
set_option linter.all false
set_option maxRecDepth 100000
set_option maxHeartbeats 0
/-! The law's nets. -/
namespace K02
open PySem Tk
def TakeOk (g : G) : Prop := ∀ xs b, 0 < b → ∃ k xs', g.fn "_law_take" [intT xs, .leaf (.int b)] = .ok (.leaf (.int k)) [some (intT xs'), none] ∧ 0 ≤ k ∧ k < b
def PickOk (g : G) : Prop := ∀ xs (ds : List D) u, ds ≠ [] → (u = .lst (leafs ds) ∨ u = .leaf (.lst ds)) → ∃ d xs', g.fn "_law_pick" [intT xs, u] = .ok (.leaf d) [some (intT xs'), none] ∧ d ∈ ds
theorem range_nat {k : Nat} (h : k ≤ 100000) : range? [.int (k : Int)] = some (rangeD 0 k) := by
  rw [range_ok h, rangeD_eq]
  simp
def strT (ys : List Str) : OT := .lst (leafs (ys.map .str))
theorem strT_len {ys : List Str} : (leafs (ys.map D.str)).length = ys.length := by simp [leafs]
theorem leafs_get {ds : List D} {k : Nat} (h : k < ds.length) : (leafs ds)[k]? = some (.leaf ds[k]) := by
  unfold leafs
  rw [List.getElem?_map, List.getElem?_eq_getElem h]
  rfl
theorem leafs_erase : ∀ (ds : List D) (k : Nat), (leafs ds).eraseIdx k = leafs (ds.eraseIdx k)
  | [], _ => by simp [leafs]
  | d :: ds, 0 => rfl
  | d :: ds, k + 1 => congrArg (OT.leaf d :: ·) (leafs_erase ds k)
theorem map_erase {α β : Type} (f : α → β) : ∀ (ds : List α) (k : Nat), (ds.map f).eraseIdx k = (ds.eraseIdx k).map f
  | [], _ => rfl
  | d :: ds, 0 => rfl
  | d :: ds, k + 1 => congrArg (f d :: ·) (map_erase f ds k)
section
variable (g : G) (ht : TakeOk g)
include ht
theorem b_nof (xs : List Int) (u d : OT) (many : Int) (hm : 0 ≤ many) (ys : List Str) (hy : ys.length ≤ 1000) : ∃ xs' ys', dS g [0] b_law_names_of_1 [.own (intT xs), .own u, .own (.leaf (.int many)), .own (strT ys), .own d] =
    .nx [.own (intT xs'), .own u, .own (.leaf (.int many)), .own (strT ys'), .own d] ∧ ys'.Sublist ys := by
  have en : P.len.sem g.sup [.lst (ys.map .str)] = some (.int ys.length) := by show some (D.int ((ys.map D.str).length : Nat)) = _; rw [List.length_map]
  by_cases h : many < ys.length
  · obtain ⟨k, xs', e, h1, h2⟩ := ht xs ys.length (by omega)
    have hk : k.toNat < ys.length := by omega
    have e1 : ixOf k (leafs (ys.map D.str)).length = some k.toNat := by
      unfold ixOf
      rw [if_pos h1, strT_len, if_pos h2]
    have e2 : (leafs (ys.map D.str))[k.toNat]? = some (.leaf (.str ys[k.toNat])) := by rw [leafs_get (by simpa using hk)]; simp
    have e3 : (leafs (ys.map D.str)).length ≤ lim := by rw [strT_len]; unfold lim; omega
    refine ⟨xs', ys.eraseIdx k.toNat, ?_, List.eraseIdx_sublist ..⟩
    have e4 : (leafs (ys.map D.str)).eraseIdx k.toNat = leafs ((ys.eraseIdx k.toNat).map .str) := by rw [leafs_erase, map_erase]
    simp_arith [b_law_names_of_1, strT, flat_leafs, en, h, e, M.fits, e1, e2, e3, e4]
  · refine ⟨xs, ys, ?_, List.Sublist.refl _⟩
    simp_arith [b_law_names_of_1, strT, flat_leafs, en, h]
omit ht in
theorem nof1 (xs : List Int) (ns : List Str) (many : Int) : (den g (.prim .list [.pl 1 []])).v [.own (intT xs), .own (.leaf (.lst (ns.map .str))), .own (.leaf (.int many)), .un, .un] = .ok (strT ns) [.own (intT xs), .own (.leaf (.lst (ns.map .str))), .own (.leaf (.int many)), .un, .un] := by
  simp_arith [strT]
omit ht in
theorem nof2 (xs : List Int) (ys : List Str) (u : OT) (many : Int) : dS g [0] (.ret (.prim .tuple [.pl 3 []])) [.own (intT xs), .own u, .own (.leaf (.int many)), .own (strT ys), .un] = .ret (.leaf (names ys)) [.own (intT xs), .own u, .own (.leaf (.int many)), .own (strT ys), .un] := by
  have e2 : names ys = .tup (ys.map .str) := rfl
  unfold strT
  simp_arith [flat_leafs, e2]
theorem r_nof (xs : List Int) (ns : List Str) (hn : ns.length ≤ 1000) (many : Int) (hm : 0 ≤ many) : ∃ xs' ys, runD g d_law_names_of [intT xs, .leaf (.lst (ns.map .str)), .leaf (.int many)] = .ok (.leaf (names ys)) [some (intT xs'), none, none] ∧ ys.Sublist ns := by
  obtain ⟨S', e, k⟩ := loopS_inv (kill := [4]) (f := fun d T => match setT (.nm 4) d T with
      | none => .bad
      | some T1 => dS g [0] b_law_names_of_1 T1) (P := fun k S => ∃ xs' ys, S = [.own (intT xs'), .own (.leaf (.lst (ns.map .str))), .own (.leaf (.int many)), .own (strT ys), .un] ∧ ys.Sublist ns) 10000 (ds := rangeD 0 ns.length) (k := 0) (S := [.own (intT xs), .own (.leaf (.lst (ns.map .str))), .own (.leaf (.int many)), .own (strT ns), .un]) (by
    rintro d _ k S hK ⟨xs1, ys1, rfl, hk⟩
    obtain ⟨xs2, ys2, e, h2⟩ := b_nof g ht xs1 (.leaf (.lst (ns.map .str))) (.leaf d) many hm ys1 (by have := hk.length_le; omega)
    exact ⟨_, e, xs2, ys2, rfl, h2.trans hk⟩) (by rw [range_len]; omega) ⟨xs, ns, rfl, List.Sublist.refl _⟩
  obtain ⟨xs', ys, rfl, h2⟩ := k
  refine ⟨xs', ys, ?_, h2⟩
  have e1 : dS g [0] l_law_names_of_1 [.own (intT xs), .own (.leaf (.lst (ns.map .str))), .own (.leaf (.int many)), .own (strT ns), .un] = .nx [.own (intT xs'), .own (.leaf (.lst (ns.map .str))), .own (.leaf (.int many)), .own (strT ys), .un] := by
    rw [← e]
    unfold l_law_names_of_1
    rw [dS_for]
    have er : range? [.int ((ns.map D.str).length : Nat)] = some (rangeD 0 ns.length) := by
      rw [List.length_map, range_nat (by omega)]
    simp_arith [iRange, flat_leafs, er]
    try rfl
  exact runD_ret rfl rfl ((seq_of (asg_nm (nof1 g xs ns many) rfl (by simp))).trans ((seq_of e1).trans (nof2 g xs' ys _ many))) rfl
end
/-! ### arcs -/
def netS (xs : List Int) (ps ts : List Str) (as : List Arc) (th : Int) (ws : List Int) (p t : Sl) : SS := [.own (intT xs), .own (.leaf (.int 6)), .own (.leaf (.int 5)), .own (.leaf (names ps)), .own (.leaf (names ts)), .own (.lst (leafs (as.map Arc.d))), .own (.leaf (.int th)), .own (.leaf (.lst (ws.map .int))), p, t]
def arcHalf (i j : Nat) : Tk.S := .ite (.prim .lt [(.call "_law_take" [(.bor 0 []), (.cst (.int 6))]), (.pl 6 [])]) (.ex (.mut .append false 5 [] [(.tup [(.pl i []), (.pl j []), (.call "_law_pick" [(.bor 0 []), (.pl 7 [])])])])) .skip
theorem arcHalf_eq : b_law_net_1 = .seq (arcHalf 8 9) (arcHalf 9 8) := rfl
section
variable (g : G) (ht : TakeOk g) (hp : PickOk g)
include ht hp
theorem half1 (xs : List Int) (ps ts : List Str) (as : List Arc) (ha : as.length ≤ 10000) (th : Int) (ws : List Int) (hw : ws ≠ []) (p t : Str) : ∃ xs' w, (dS g [0] (arcHalf 8 9) (netS xs ps ts as th ws (.own (.leaf (.str p))) (.own (.leaf (.str t)))) = .nx (netS xs' ps ts (as ++ [Arc.mk p t w]) th ws (.own (.leaf (.str p))) (.own (.leaf (.str t)))) ∨ dS g [0] (arcHalf 8 9) (netS xs ps ts as th ws (.own (.leaf (.str p))) (.own (.leaf (.str t)))) = .nx (netS xs' ps ts as th ws (.own (.leaf (.str p))) (.own (.leaf (.str t))))) ∧ w ∈ ws := by
  obtain ⟨k, xs1, e, h1, h2⟩ := ht xs 6 (by decide)
  obtain ⟨d, xs2, e2, hd⟩ := hp xs1 (ws.map .int) (.leaf (.lst (ws.map .int))) (by simpa using hw) (.inr rfl)
  obtain ⟨w, hw2, rfl⟩ := List.mem_map.mp hd
  have hl : (leafs (as.map Arc.d)).length < lim := by simp only [leafs, List.length_map]; unfold lim; omega
  have h3 : 3 ≤ lim := by unfold lim; omega
  have e3 : leafs ((as ++ [Arc.mk p t w]).map Arc.d) = leafs (as.map Arc.d) ++ [.leaf (.tup [.str p, .str t, .int w])] := by simp [leafs, Arc.d]
  by_cases hk : k < th
  · refine ⟨xs2, w, .inl ?_, hw2⟩
    unfold netS
    rw [e3]
    unfold arcHalf
    simp_arith [e, e2, M.fits, hk, hl, h3, names]
  · refine ⟨xs1, w, .inr ?_, hw2⟩
    unfold netS
    unfold arcHalf
    simp_arith [e, hk]
theorem half2 (xs : List Int) (ps ts : List Str) (as : List Arc) (ha : as.length ≤ 10000) (th : Int) (ws : List Int) (hw : ws ≠ []) (p t : Str) : ∃ xs' w, (dS g [0] (arcHalf 9 8) (netS xs ps ts as th ws (.own (.leaf (.str p))) (.own (.leaf (.str t)))) = .nx (netS xs' ps ts (as ++ [Arc.mk t p w]) th ws (.own (.leaf (.str p))) (.own (.leaf (.str t)))) ∨ dS g [0] (arcHalf 9 8) (netS xs ps ts as th ws (.own (.leaf (.str p))) (.own (.leaf (.str t)))) = .nx (netS xs' ps ts as th ws (.own (.leaf (.str p))) (.own (.leaf (.str t))))) ∧ w ∈ ws := by
  obtain ⟨k, xs1, e, h1, h2⟩ := ht xs 6 (by decide)
  obtain ⟨d, xs2, e2, hd⟩ := hp xs1 (ws.map .int) (.leaf (.lst (ws.map .int))) (by simpa using hw) (.inr rfl)
  obtain ⟨w, hw2, rfl⟩ := List.mem_map.mp hd
  have hl : (leafs (as.map Arc.d)).length < lim := by simp only [leafs, List.length_map]; unfold lim; omega
  have h3 : 3 ≤ lim := by unfold lim; omega
  have e3 : leafs ((as ++ [Arc.mk t p w]).map Arc.d) = leafs (as.map Arc.d) ++ [.leaf (.tup [.str t, .str p, .int w])] := by simp [leafs, Arc.d]
  by_cases hk : k < th
  · refine ⟨xs2, w, .inl ?_, hw2⟩
    unfold netS
    rw [e3]
    unfold arcHalf
    simp_arith [e, e2, M.fits, hk, hl, h3, names]
  · refine ⟨xs1, w, .inr ?_, hw2⟩
    unfold netS
    unfold arcHalf
    simp_arith [e, hk]
end
end K02
end
section
set_option linter.all false
set_option maxRecDepth 100000
set_option maxHeartbeats 0
/-! The law's arcs, in order. -/
namespace K02
open PySem Tk
def Arc.kk (x : Arc) : Str × Str := (x.a, x.b)
section
variable (g : G) (ht : TakeOk g) (hp : PickOk g) (ps ts : List Str) (th : Int) (ws : List Int) (hw : ws ≠ [])
include ht hp hw
theorem arc1 (xs : List Int) (as : List Arc) (p t : Str) (hl : as.length + 2 ≤ 10000) (hpt : p ≠ t) (h1 : (p, t) ∉ as.map Arc.kk) (h2 : (t, p) ∉ as.map Arc.kk) (nd : (as.map Arc.kk).Nodup) :
    ∃ xs' as', dS g [0] b_law_net_1 (netS xs ps ts as th ws (.own (.leaf (.str p))) (.own (.leaf (.str t)))) = .nx (netS xs' ps ts as' th ws (.own (.leaf (.str p))) (.own (.leaf (.str t)))) ∧ (as'.map Arc.kk).Nodup ∧ as'.length ≤ as.length + 2 ∧ ∀ x, x ∈ as' → x ∈ as ∨ ((x.a = p ∧ x.b = t ∨ x.a = t ∧ x.b = p) ∧ x.m ∈ ws) := by
  rw [arcHalf_eq, dS_seq]
  obtain ⟨xs1, w1, q1, hw1⟩ := half1 g ht hp xs ps ts as (by omega) th ws hw p t
  rcases q1 with q1 | q1
  · rw [q1, seq_nx]
    have nd1 : ((as ++ [Arc.mk p t w1]).map Arc.kk).Nodup := by
      rw [List.map_append, List.nodup_append]
      refine ⟨nd, by simp, ?_⟩
      intro a ha b hb e
      have : b = (p, t) := by simpa [Arc.kk] using hb
      exact h1 (by rw [← this, ← e]; exact ha)
    obtain ⟨xs2, w2, q2, hw2⟩ := half2 g ht hp xs1 ps ts (as ++ [Arc.mk p t w1]) (by simp; omega) th ws hw p t
    rcases q2 with q2 | q2
    · refine ⟨xs2, _, q2, ?_, by simp, ?_⟩
      · rw [List.map_append, List.nodup_append]
        refine ⟨nd1, by simp, ?_⟩
        intro a ha b hb e
        have hb : b = (t, p) := by simpa [Arc.kk] using hb
        subst hb
        rw [List.map_append, List.mem_append] at ha
        rcases ha with ha | ha
        · exact h2 (e ▸ ha)
        · have : a = (p, t) := by simpa [Arc.kk] using ha
          rw [this] at e
          exact hpt (Prod.mk.inj e).1
      · intro x hx
        rcases List.mem_append.mp hx with hx | hx
        · rcases List.mem_append.mp hx with hx | hx
          · exact .inl hx
          · cases List.mem_singleton.mp hx; exact .inr ⟨.inl ⟨rfl, rfl⟩, hw1⟩
        · cases List.mem_singleton.mp hx; exact .inr ⟨.inr ⟨rfl, rfl⟩, hw2⟩
    · refine ⟨xs2, _, q2, nd1, by simp, ?_⟩
      intro x hx
      rcases List.mem_append.mp hx with hx | hx
      · exact .inl hx
      · cases List.mem_singleton.mp hx; exact .inr ⟨.inl ⟨rfl, rfl⟩, hw1⟩
  · rw [q1, seq_nx]
    obtain ⟨xs2, w2, q2, hw2⟩ := half2 g ht hp xs1 ps ts as (by omega) th ws hw p t
    rcases q2 with q2 | q2
    · refine ⟨xs2, _, q2, ?_, by simp, ?_⟩
      · rw [List.map_append, List.nodup_append]
        refine ⟨nd, by simp, ?_⟩
        intro a ha b hb e
        have hb : b = (t, p) := by simpa [Arc.kk] using hb
        subst hb
        exact h2 (e ▸ ha)
      · intro x hx
        rcases List.mem_append.mp hx with hx | hx
        · exact .inl hx
        · cases List.mem_singleton.mp hx; exact .inr ⟨.inr ⟨rfl, rfl⟩, hw2⟩
    · exact ⟨xs2, _, q2, nd, by omega, fun x hx => .inl hx⟩
theorem inner (p : Str) : ∀ (rest : List Str) (xs : List Int) (as : List Arc), rest.Nodup → (p ∉ rest) → (∀ t, t ∈ rest → (p, t) ∉ as.map Arc.kk ∧ (t, p) ∉ as.map Arc.kk) → (as.map Arc.kk).Nodup → as.length + 2 * rest.length ≤ 10000 →
    ∃ xs' as', loopS [9] (fun d T => match setT (.nm 9) d T with
      | none => .bad
      | some T1 => dS g [0] b_law_net_1 T1) (rest.map .str) (netS xs ps ts as th ws (.own (.leaf (.str p))) .un) = .nx (netS xs' ps ts as' th ws (.own (.leaf (.str p))) .un) ∧ (as'.map Arc.kk).Nodup ∧ as'.length ≤ as.length + 2 * rest.length ∧ ∀ x, x ∈ as' → x ∈ as ∨ ((x.a = p ∧ x.b ∈ rest ∨ x.a ∈ rest ∧ x.b = p) ∧ x.m ∈ ws)
  | [], xs, as, _, _, _, nd, _ => ⟨xs, as, rfl, nd, Nat.le_refl _, fun x hx => .inl hx⟩
  | t :: rest, xs, as, nr, hpr, hk, nd, hl => by
    rw [List.length_cons] at hl
    have nr := List.nodup_cons.mp nr
    have k0 := hk t List.mem_cons_self
    have hpt : p ≠ t := fun e => hpr (by rw [e]; exact List.mem_cons_self)
    obtain ⟨xs1, as1, e1, nd1, hl1, hx1⟩ := arc1 g ht hp ps ts th ws hw xs as p t (by omega) hpt k0.1 k0.2 nd
    have key : ∀ a b, (a, b) ∈ as1.map Arc.kk → (a, b) ∈ as.map Arc.kk ∨ (a = p ∧ b = t) ∨ (a = t ∧ b = p) := by
      intro a b hm
      obtain ⟨x, hx, e⟩ := List.mem_map.mp hm
      have e : x.a = a ∧ x.b = b := Prod.mk.inj e
      rcases hx1 x hx with h | h
      · exact .inl (List.mem_map.mpr ⟨x, h, by rw [Arc.kk, e.1, e.2]⟩)
      · rw [e.1, e.2] at h; exact .inr h.1
    obtain ⟨xs2, as2, e2, nd2, hl2, hx2⟩ := inner p rest xs1 as1 nr.2 (fun z => hpr (List.mem_cons_of_mem _ z)) (fun u hu => by
      have ku := hk u (List.mem_cons_of_mem _ hu)
      have hut : u ≠ t := fun e => nr.1 (e ▸ hu)
      have hup : u ≠ p := fun e => hpr (e ▸ List.mem_cons_of_mem _ hu)
      constructor
      · intro z
        rcases key _ _ z with z | z | z
        · exact ku.1 z
        · exact hut z.2
        · exact hup z.2
      · intro z
        rcases key _ _ z with z | z | z
        · exact ku.2 z
        · exact hup z.1
        · exact hut z.1) nd1 (by omega)
    refine ⟨xs2, as2, ?_, nd2, by rw [List.length_cons]; omega, ?_⟩
    · rw [List.map_cons, loopS_cons (S1 := netS xs1 ps ts as1 th ws (.own (.leaf (.str p))) (.own (.leaf (.str t)))) e1]
      exact e2
    · intro x hx
      rcases hx2 x hx with h | h
      · rcases hx1 x h with h | h
        · exact .inl h
        · refine .inr ⟨?_, h.2⟩
          rcases h.1 with z | z
          · exact .inl ⟨z.1, by rw [z.2]; exact List.mem_cons_self⟩
          · exact .inr ⟨by rw [z.1]; exact List.mem_cons_self, z.2⟩
      · refine .inr ⟨?_, h.2⟩
        rcases h.1 with z | z
        · exact .inl ⟨z.1, List.mem_cons_of_mem _ z.2⟩
        · exact .inr ⟨List.mem_cons_of_mem _ z.1, z.2⟩
theorem inner_d (nts : ts.Nodup) (lts : ts.length ≤ 100) (p : Str) (hpt : p ∉ ts) (xs : List Int) (as : List Arc) (hf : ∀ x, x ∈ as → x.a ≠ p ∧ x.b ≠ p) (nd : (as.map Arc.kk).Nodup) (hl : as.length ≤ 9000) :
    ∃ xs' as', dS g [0] b_law_net_2 (netS xs ps ts as th ws (.own (.leaf (.str p))) .un) = .nx (netS xs' ps ts as' th ws (.own (.leaf (.str p))) .un) ∧ (as'.map Arc.kk).Nodup ∧ as'.length ≤ as.length + 2 * ts.length ∧ ∀ x, x ∈ as' → x ∈ as ∨ ((x.a = p ∧ x.b ∈ ts ∨ x.a ∈ ts ∧ x.b = p) ∧ x.m ∈ ws) := by
  obtain ⟨xs1, as1, e1, k⟩ := inner g ht hp ps ts th ws hw p ts xs as nts hpt (fun t htt => by
    constructor
    · intro z
      obtain ⟨x, hx, e⟩ := List.mem_map.mp z
      exact (hf x hx).1 (Prod.mk.inj e).1
    · intro z
      obtain ⟨x, hx, e⟩ := List.mem_map.mp z
      exact (hf x hx).2 (Prod.mk.inj e).2) nd (by omega)
  refine ⟨xs1, as1, ?_, k⟩
  rw [← e1]
  unfold b_law_net_2 l_law_net_1
  rw [dS_for]
  rfl
theorem outer (nts : ts.Nodup) (lts : ts.length ≤ 100) : ∀ (rest : List Str) (xs : List Int) (as : List Arc), rest.Nodup → (∀ p, p ∈ rest → p ∉ ts) → (∀ p, p ∈ rest → ∀ x, x ∈ as → x.a ≠ p ∧ x.b ≠ p) → (as.map Arc.kk).Nodup → as.length + 200 * rest.length ≤ 9000 →
    ∃ xs' as', loopS [8, 9] (fun d T => match setT (.nm 8) d T with
      | none => .bad
      | some T1 => dS g [0] b_law_net_2 T1) (rest.map .str) (netS xs ps ts as th ws .un .un) = .nx (netS xs' ps ts as' th ws .un .un) ∧ (as'.map Arc.kk).Nodup ∧ as'.length ≤ as.length + 2 * ts.length * rest.length ∧ ∀ x, x ∈ as' → x ∈ as ∨ ((x.a ∈ rest ∧ x.b ∈ ts ∨ x.a ∈ ts ∧ x.b ∈ rest) ∧ x.m ∈ ws)
  | [], xs, as, _, _, _, nd, _ => ⟨xs, as, rfl, nd, Nat.le_add_right _ _, fun x hx => .inl hx⟩
  | p :: rest, xs, as, nr, hpt, hf, nd, hl => by
    rw [List.length_cons] at hl
    have nr := List.nodup_cons.mp nr
    obtain ⟨xs1, as1, e1, nd1, hl1, hx1⟩ := inner_d g ht hp ps ts th ws hw nts lts p (hpt p List.mem_cons_self) xs as (hf p List.mem_cons_self) nd (by omega)
    obtain ⟨xs2, as2, e2, nd2, hl2, hx2⟩ := outer nts lts rest xs1 as1 nr.2 (fun q hq => hpt q (List.mem_cons_of_mem _ hq)) (fun q hq x hx => by
      have hqp : q ≠ p := fun e => nr.1 (e ▸ hq)
      have hqt := hpt q (List.mem_cons_of_mem _ hq)
      rcases hx1 x hx with h | h
      · exact hf q (List.mem_cons_of_mem _ hq) x h
      · rcases h.1 with z | z
        · exact ⟨fun e => hqp (by rw [← e, z.1]), fun e => hqt (e ▸ z.2)⟩
        · exact ⟨fun e => hqt (e ▸ z.1), fun e => hqp (by rw [← e, z.2])⟩) nd1 (by omega)
    refine ⟨xs2, as2, ?_, nd2, by rw [List.length_cons, Nat.mul_succ]; omega, ?_⟩
    · rw [List.map_cons, loopS_cons (S1 := netS xs1 ps ts as1 th ws (.own (.leaf (.str p))) .un) e1]
      exact e2
    · intro x hx
      rcases hx2 x hx with h | h
      · rcases hx1 x h with h | h
        · exact .inl h
        · refine .inr ⟨?_, h.2⟩
          rcases h.1 with z | z
          · exact .inl ⟨by rw [z.1]; exact List.mem_cons_self, z.2⟩
          · exact .inr ⟨z.1, by rw [z.2]; exact List.mem_cons_self⟩
      · refine .inr ⟨?_, h.2⟩
        rcases h.1 with z | z
        · exact .inl ⟨List.mem_cons_of_mem _ z.1, z.2⟩
        · exact .inr ⟨z.1, List.mem_cons_of_mem _ z.2⟩
end
end K02
end
section
set_option linter.all false
set_option maxRecDepth 100000
set_option maxHeartbeats 0
/-! The law's nets, sorted. -/
namespace K02
open PySem Tk
structure Sto {α : Type} (r : α → α → Prop) : Prop where
  irr : ∀ a, ¬ r a a
  tra : ∀ a b c, r a b → r b c → r a c
  tri : ∀ a b, r a b ∨ a = b ∨ r b a
def lexR {α β : Type} (r : α → α → Prop) (s : β → β → Prop) (p q : α × β) : Prop := r p.1 q.1 ∨ (p.1 = q.1 ∧ s p.2 q.2)
theorem lex_sto {α β : Type} {r : α → α → Prop} {s : β → β → Prop} (hr : Sto r) (hs : Sto s) : Sto (lexR r s) where
  irr a h := h.elim (hr.irr _) fun h => hs.irr _ h.2
  tra a b c h1 h2 := by
    rcases h1 with h1 | h1
    · rcases h2 with h2 | h2
      · exact .inl (hr.tra _ _ _ h1 h2)
      · exact .inl (h2.1 ▸ h1)
    · rcases h2 with h2 | h2
      · exact .inl (by rw [h1.1]; exact h2)
      · exact .inr ⟨h1.1.trans h2.1, hs.tra _ _ _ h1.2 h2.2⟩
  tri a b := by
    rcases hr.tri a.1 b.1 with h | h | h
    · exact .inl (.inl h)
    · rcases hs.tri a.2 b.2 with k | k | k
      · exact .inl (.inr ⟨h, k⟩)
      · exact .inr (.inl (Prod.ext h k))
      · exact .inr (.inr (.inr ⟨h.symm, k⟩))
    · exact .inr (.inr (.inl h))
def strL (a b : Str) : Prop := a.cps.toList < b.cps.toList
theorem str_sto : Sto strL where
  irr a := List.lt_irrefl a.cps.toList
  tra a b c h1 h2 := List.lt_trans (l₂ := b.cps.toList) h1 h2
  tri a b := by
    by_cases h1 : a.cps.toList < b.cps.toList
    · exact .inl h1
    · by_cases h2 : b.cps.toList < a.cps.toList
      · exact .inr (.inr h2)
      · have e := List.le_antisymm (List.not_lt.mp h2) (List.not_lt.mp h1)
        refine .inr (.inl ?_)
        cases a; cases b
        congr
        exact Array.toList_inj.mp e
theorem int_sto : Sto (fun a b : Int => a < b) where
  irr a := Int.lt_irrefl a
  tra a b c := Int.lt_trans
  tri a b := by omega
def arcK (x : Arc) : Str × (Str × Int) := (x.a, (x.b, x.m))
def arcR : Str × (Str × Int) → Str × (Str × Int) → Prop := lexR strL (lexR strL fun a b => a < b)
theorem arc_sto : Sto arcR := lex_sto str_sto (lex_sto str_sto int_sto)
theorem arc_lt (x y : Arc) : D.lt x.d y.d = true ↔ arcR (arcK x) (arcK y) := by
  have e : D.lt x.d y.d = if decide (x.a = y.a) then (if decide (x.b = y.b) then (if decide (x.m = y.m) then false else decide (x.m < y.m)) else decide (x.b.cps.toList < y.b.cps.toList)) else decide (x.a.cps.toList < y.a.cps.toList) := rfl
  rw [e]
  have i1 : ¬ strL x.a x.a := str_sto.irr _
  have i2 : ¬ strL x.b x.b := str_sto.irr _
  unfold arcR arcK lexR
  by_cases h1 : x.a = y.a
  · rw [if_pos (decide_eq_true h1)]
    rw [h1] at i1 ⊢
    by_cases h2 : x.b = y.b
    · rw [if_pos (decide_eq_true h2)]
      rw [h2] at i2 ⊢
      by_cases h3 : x.m = y.m
      · rw [if_pos (decide_eq_true h3)]
        simp only [i1, i2, h3, Int.lt_irrefl, false_or, and_false, or_false, Bool.false_eq_true]
      · rw [if_neg (by simpa using h3)]
        simp only [i1, i2, false_or, true_and, decide_eq_true_eq]
    · rw [if_neg (by simpa using h2)]
      simp only [i1, h2, false_or, true_and, false_and, or_false, decide_eq_true_eq]
      exact Iff.rfl
  · rw [if_neg (by simpa using h1)]
    simp only [h1, false_and, or_false, decide_eq_true_eq]
    exact Iff.rfl
def arcLe (x y : Arc) : Bool := !D.lt y.d x.d
theorem arcLe_iff (x y : Arc) : arcLe x y = true ↔ ¬ arcR (arcK y) (arcK x) := by
  rw [← arc_lt]
  unfold arcLe
  simp
theorem arcLe_tra (x y z : Arc) (h1 : arcLe x y = true) (h2 : arcLe y z = true) : arcLe x z = true := by
  rw [arcLe_iff] at *
  intro h
  rcases arc_sto.tri (arcK x) (arcK y) with k | k | k
  · exact h2 (arc_sto.tra _ _ _ h k)
  · exact h2 (k ▸ h)
  · exact h1 k
theorem arcLe_tot (x y : Arc) : (arcLe x y || arcLe y x) = true := by
  rw [Bool.or_eq_true, arcLe_iff, arcLe_iff]
  by_cases h : arcR (arcK y) (arcK x)
  · exact .inr fun k => arc_sto.irr _ (arc_sto.tra _ _ _ h k)
  · exact .inl h
theorem pairs_pw {α : Type} {R : α → α → Prop} : ∀ {l : List α}, l.Pairwise R → ∀ p, p ∈ pairs l → R p.1 p.2
  | [], _, _, h => by cases h
  | [_], _, _, h => by cases h
  | x :: y :: r, hw, p, h => by
    have hw := List.pairwise_cons.mp hw
    rcases List.mem_cons.mp (show p ∈ (x, y) :: pairs (y :: r) from h) with e | h
    · rw [e]; exact hw.1 y List.mem_cons_self
    · exact pairs_pw hw.2 p h
theorem le_pairLt {x y : Arc} (h : arcLe x y = true) (hk : x.kk ≠ y.kk) : pairLt x.a x.b y.a y.b = true := by
  have h := (arcLe_iff x y).mp h
  unfold pairLt
  by_cases h1 : x.a = y.a
  · have h2 : x.b ≠ y.b := fun e => hk (Prod.ext h1 e)
    rw [if_pos h1, if_neg h2]
    rcases str_sto.tri x.b y.b with k | k | k
    · exact decide_eq_true k
    · exact absurd k h2
    · exact absurd (show arcR (arcK y) (arcK x) from .inr ⟨h1.symm, .inl k⟩) h
  · rw [if_neg h1]
    rcases str_sto.tri x.a y.a with k | k | k
    · exact decide_eq_true k
    · exact absurd k h1
    · exact absurd (show arcR (arcK y) (arcK x) from .inl k) h
theorem plains_arc : ∀ (xs : List Arc), D.plainsN 59 (xs.map Arc.d) = true
  | [] => rfl
  | x :: xs => by
    show (D.plainN 59 x.d && D.plainsN 59 (xs.map Arc.d)) = true
    rw [plains_arc xs]
    rfl
theorem sort_arcs (sup : Str → List Str) (as : List Arc) : P.sorted.sem sup [.lst (as.map Arc.d)] = some (.lst ((as.mergeSort arcLe).map Arc.d)) := by
  show Tk.chk (canSort (as.map Arc.d)) (.lst (sortD (as.map Arc.d))) = _
  have e1 : canSort (as.map Arc.d) = true := by
    unfold canSort alikeAll D.plains sortable
    rw [plains_arc]
    simp only [Bool.true_and, Bool.and_eq_true, List.all_eq_true, List.mem_map, Bool.or_eq_true]
    refine ⟨?_, .inl ?_⟩
    · rintro _ ⟨x, _, rfl⟩ _ ⟨y, _, rfl⟩; rfl
    · rintro _ ⟨x, _, rfl⟩; rfl
  have e2 : sortD (as.map Arc.d) = (as.mergeSort arcLe).map Arc.d := (List.map_mergeSort (r := arcLe) (s := fun a b => !D.lt b a) (f := Arc.d) (l := as) (fun a _ b _ => rfl)).symm
  rw [e1, e2]
  rfl
/-! ### the net -/
def nmP : List Str := ["a", "abcdefghijkl", "b1", "c", "free", "p", "p1", "q", "zz"]
def nmT : List Str := ["d", "e2", "f", "go", "t", "t1", "u", "y9"]
structure NetOk (n : Net) : Prop where
  ok : n.Ok
  hp : n.ps.Sublist nmP
  ht : n.ts.Sublist nmT
  srt : n.as.Pairwise fun x y => arcLe x y = true
theorem nmP_nd : nmP.Nodup := by decide +kernel
theorem nmT_nd : nmT.Nodup := by decide +kernel
theorem nm_dj : ∀ x, x ∈ nmP → x ∉ nmT := by decide +kernel
theorem nd_map {α β : Type} {f : α → β} (inj : ∀ a b, f a = f b → a = b) {l : List α} (h : l.Nodup) : (l.map f).Nodup := by
  unfold List.Nodup at *
  rw [List.pairwise_map]
  exact h.imp fun hn e => hn (inj _ _ e)
theorem net_ok {ps ts : List Str} {as : List Arc} {ws : List Int} (h1 : ps.Sublist nmP) (h2 : ts.Sublist nmT) (nd : (as.map Arc.kk).Nodup) (hl : as.length ≤ 1000) (hx : ∀ x, x ∈ as → (x.a ∈ ps ∧ x.b ∈ ts ∨ x.a ∈ ts ∧ x.b ∈ ps) ∧ x.m ∈ ws) (hw : ∀ w, w ∈ ws → 1 ≤ w ∧ w ≤ 9) : NetOk ⟨ps, ts, as.mergeSort arcLe⟩ where
  hp := h1
  ht := h2
  srt := List.pairwise_mergeSort arcLe_tra arcLe_tot as
  ok := by
    have pm := List.mergeSort_perm as arcLe
    have nd' : ((as.mergeSort arcLe).map Arc.kk).Nodup := (pm.map Arc.kk).nodup_iff.mpr nd
    exact {
      disj := fun x hx hx2 => nm_dj x (h1.subset hx) (h2.subset hx2)
      lp := Nat.le_trans h1.length_le (by decide)
      lt := Nat.le_trans h2.length_le (by decide)
      la := by rw [List.length_mergeSort]; exact hl
      arc := fun x h => by
        have := hx x (pm.mem_iff.mp h)
        exact ⟨this.1, hw _ this.2⟩
      nda := by
        have e : (fun x : Arc => D.tup [.str x.a, .str x.b]) = (fun p : Str × Str => D.tup [.str p.1, .str p.2]) ∘ Arc.kk := rfl
        show (List.map (fun x : Arc => D.tup [.str x.a, .str x.b]) (as.mergeSort arcLe)).Nodup
        rw [e, ← List.map_map]
        exact nd_map (fun a b e => by
          have e := D.tup.inj e
          exact Prod.ext (D.str.inj (List.cons.inj e).1) (D.str.inj (List.cons.inj (List.cons.inj e).2).1)) nd'
      ndt := nd_map (fun a b e => D.str.inj e) (h2.nodup nmT_nd)
      asc := fun p hp => by
        have w1 := pairs_pw (List.pairwise_mergeSort arcLe_tra arcLe_tot as) p hp
        have w2 : (as.mergeSort arcLe).Pairwise fun x y => x.kk ≠ y.kk := List.pairwise_map.mp nd'
        exact le_pairLt w1 (pairs_pw w2 p hp) }
section
variable (g : G) (ht : TakeOk g) (hp : PickOk g) (hn : ∀ xs (ns : List Str), ns.length ≤ 1000 → ∀ many : Int, 0 ≤ many → ∃ xs' ys, g.fn "_law_names_of" [intT xs, .leaf (.lst (ns.map .str)), .leaf (.int many)] = .ok (.leaf (names ys)) [some (intT xs'), none, none] ∧ ys.Sublist ns)
include ht hp hn
theorem r_lnet (xs : List Int) : ∃ xs' n, runD g d_law_net [intT xs, .leaf (.int 6), .leaf (.int 5)] = .ok (.leaf (Net.d n)) [some (intT xs'), none, none] ∧ NetOk n := by
  obtain ⟨k1, x1, e1, a1, b1⟩ := ht xs 7 (by decide)
  obtain ⟨x2, ps, e2, hps⟩ := hn x1 nmP (by decide) k1 a1
  obtain ⟨k2, x3, e3, a2, b2⟩ := ht x2 6 (by decide)
  obtain ⟨x4, ts, e4, hts⟩ := hn x3 nmT (by decide) k2 a2
  obtain ⟨d5, x5, e5, h5⟩ := hp x4 [.int 1, .int 2, .int 3] (.leaf (.lst [.int 1, .int 2, .int 3])) (by simp) (.inr rfl)
  obtain ⟨d6, x6, e6, h6⟩ := hp x5 [.lst [.int 1], .lst [.int 1, .int 1, .int 1, .int 2], .lst [.int 1, .int 2, .int 3, .int 9]] (.leaf (.lst [.lst [.int 1], .lst [.int 1, .int 1, .int 1, .int 2], .lst [.int 1, .int 2, .int 3, .int 9]])) (by simp) (.inr rfl)
  obtain ⟨th, rfl⟩ : ∃ th, d5 = .int th := by
    simp only [List.mem_cons, List.not_mem_nil, or_false] at h5
    rcases h5 with rfl | rfl | rfl <;> exact ⟨_, rfl⟩
  obtain ⟨ws, rfl, hw, hw2⟩ : ∃ ws : List Int, d6 = .lst (ws.map .int) ∧ ws ≠ [] ∧ ∀ w, w ∈ ws → 1 ≤ w ∧ w ≤ 9 := by
    simp only [List.mem_cons, List.not_mem_nil, or_false] at h6
    rcases h6 with rfl | rfl | rfl
    · exact ⟨[1], rfl, by simp, by simp⟩
    · exact ⟨[1, 1, 1, 2], rfl, by simp, by simp⟩
    · exact ⟨[1, 2, 3, 9], rfl, by simp, by simp⟩
  have np := hps.nodup nmP_nd
  have nt := hts.nodup nmT_nd
  have lp : ps.length ≤ 9 := hps.length_le
  have lt : ts.length ≤ 8 := hts.length_le
  obtain ⟨x7, as, e7, nd, hl, hx⟩ := outer g ht hp ps ts th ws hw nt (by omega) ps x6 [] np (fun p hp1 hp2 => nm_dj p (hps.subset hp1) (hts.subset hp2)) (fun _ _ x hx => by cases hx) List.nodup_nil (by simp; omega)
  have e7' : dS g [0] l_law_net_2 (netS x6 ps ts [] th ws .un .un) = .nx (netS x7 ps ts as th ws .un .un) := by
    rw [← e7]
    unfold l_law_net_2
    rw [dS_for]
    rfl
  refine ⟨x7, ⟨ps, ts, as.mergeSort arcLe⟩, ?_, net_ok hps hts nd ?_ ?_ hw2⟩
  · rw [runD_eq rfl]
    have ed : Net.d ⟨ps, ts, as.mergeSort arcLe⟩ = .tup [names ps, names ts, .tup ((as.mergeSort arcLe).map Arc.d)] := rfl
    have es := sort_arcs g.sup as
    have g2 : g.fn "_law_names_of" [intT x1, .leaf (.lst [.str "a", .str "abcdefghijkl", .str "b1", .str "c", .str "free", .str "p", .str "p1", .str "q", .str "zz"]), .leaf (.int k1)] = _ := e2
    have g4 : g.fn "_law_names_of" [intT x3, .leaf (.lst [.str "d", .str "e2", .str "f", .str "go", .str "t", .str "t1", .str "u", .str "y9"]), .leaf (.int k2)] = _ := e4
    unfold netS at e7'
    simp only [List.map_nil, leafs_nil] at e7'
    simp_arith [d_law_net, e1, g2, e3, g4, e5, e6, e7', es, ed, flat_leafs, lim]
  · have : 2 * ts.length * ps.length ≤ 2 * 8 * 9 := Nat.mul_le_mul (by omega) lp
    simp at hl
    omega
  · intro x hxa
    rcases hx x hxa with h | h
    · cases h
    · exact h
end
end K02
end
section
set_option linter.all false
set_option maxRecDepth 100000
set_option maxHeartbeats 0
/-! The law's own reckoning. -/
namespace K02
open PySem Tk
theorem sem_eq_str {sup : Str → List Str} {a b : Str} : P.eq.sem sup [.str a, .str b] = some (.bl (decide (a = b))) := rfl
theorem ne_nil {sup : Str → List Str} {ds : List D} (h : D.plainsN 59 ds = true) : P.ne.sem sup [.lst ds, .lst []] = some (.bl (!ds.isEmpty)) := by
  show Tk.chk (D.plainsN 59 ds && true) (.bl (!D.eqvs ds [])) = _
  rw [h]
  cases ds <;> rfl
theorem eq_nil {sup : Str → List Str} {ds : List D} (h : D.plainsN 59 ds = true) : P.eq.sem sup [.lst ds, .lst []] = some (.bl ds.isEmpty) := by
  show Tk.chk (D.plainsN 59 ds && true) (.bl (D.eqvs ds [])) = _
  rw [h]
  cases ds <;> rfl
theorem plains_int : ∀ (n : Nat) (xs : List Int), D.plainsN n (xs.map .int) = true
  | _, [] => rfl
  | n, x :: xs => by
    show (D.plainN n (.int x) && D.plainsN n (xs.map .int)) = true
    rw [plains_int n xs]
    cases n <;> rfl
theorem getI {ms : List Int} {k : Nat} (h : k < ms.length) (sup : Str → List Str) : P.idx.sem sup [.tup (ms.map .int), .int (k : Int)] = some (.int (ms.getD k 0)) := by
  rw [sem_idx_t, atL_map (by exact h), List.getD_eq_getElem?_getD, List.getElem?_eq_getElem h]
  rfl
section
variable (g : G) (n : Net) (h : n.Ok)
include h
theorem c_larc (a b : Str) : (den g e_law_arc_1).v [.own (.leaf n.d), .own (.leaf (.str a)), .own (.leaf (.str b)), .un, .un, .un] = .ok (.lst (leafs ((n.as.filter fun x => decide (x.a = a ∧ x.b = b)).map fun x => .int x.m))) [.own (.leaf n.d), .own (.leaf (.str a)), .own (.leaf (.str b)), .un, .un, .un] := by
  unfold e_law_arc_1
  rw [den_lcomp]
  refine (lcomp_filter n.as Arc.d (fun x => decide (x.a = a ∧ x.b = b)) (fun x => .leaf (.int x.m)) ?_ (fun x hp acc hac => ?_) ?_ ?_).trans ?_
  · show dit g _ _ _ = _
    rw [dit_seq]
    have e5 : n.d = .tup [names n.ps, names n.ts, .tup (n.as.map Arc.d)] := rfl
    simp_arith [iSeq, iterD, e5]
  · have e1 : x.d = .tup [.str x.a, .str x.b, .int x.m] := rfl
    by_cases h1 : x.a = a
    · by_cases h2 : x.b = b
      · simp_arith [turnL, evIfs, noX, OkW, e1, hac, sem_eq_str, h1, h2]
      · simp_arith [turnL, evIfs, noX, OkW, e1, hac, sem_eq_str, h1, h2, and_false]
    · simp_arith [turnL, evIfs, noX, OkW, e1, hac, sem_eq_str, h1, false_and]
  · have := h.la; unfold lim; omega
  · rfl
  · simp [leafs]
theorem r_larc (a b : Str) : runD g d_law_arc [.leaf n.d, .leaf (.str a), .leaf (.str b)] = .ok (.leaf (.int (arcV n.as a b))) [none, none, none] := by
  rw [runD_eq rfl]
  have c := c_larc g n h a b
  have s := sem_sum (sup := g.sup) (p := fun x : Arc => x.m) (l := n.as.filter fun x => decide (x.a = a ∧ x.b = b))
  simp_arith [d_law_arc, c, e_law_arc_1_x, s, arcV]
section
variable (ha : ∀ a b, g.fn "_law_arc" [.leaf n.d, .leaf (.str a), .leaf (.str b)] = .ok (.leaf (.int (arcV n.as a b))) [none, none, none])
include ha
theorem c_ltk (t : Str) : (den g e_law_taken_1).v [.own (.leaf n.d), .own (.leaf (.str t)), .un] = .ok (.lst (leafs ((n.tk t).map .int))) [.own (.leaf n.d), .own (.leaf (.str t)), .un] := by
  unfold e_law_taken_1
  rw [den_lcomp]
  refine (lcomp_map n.ps (fun p => .str p) (fun p => .leaf (.int (arcV n.as p t))) ?_ (fun p hp acc hac => ?_) ?_ ?_).trans ?_
  · show dit g _ _ _ = _
    rw [dit_seq]
    have e5 : n.d = .tup [names n.ps, names n.ts, .tup (n.as.map Arc.d)] := rfl
    simp_arith [iSeq, iterD, e5, names]
  · simp_arith [turnL, evIfs, noX, OkW, hac, ha]
  · have := h.lp; unfold lim; omega
  · rfl
  · simp [leafs, Net.tk, Function.comp_def]
theorem r_ltk (t : Str) : runD g d_law_taken [.leaf n.d, .leaf (.str t)] = .ok (.leaf (intD (n.tk t))) [none, none] := by
  rw [runD_eq rfl]
  have c := c_ltk g n h ha t
  have e : intD (n.tk t) = .tup ((n.tk t).map .int) := rfl
  rw [e]
  simp_arith [d_law_taken, c, e_law_taken_1_x]
theorem c_lpt (t : Str) : (den g e_law_put_by_1).v [.own (.leaf n.d), .own (.leaf (.str t)), .un] = .ok (.lst (leafs ((n.pt t).map .int))) [.own (.leaf n.d), .own (.leaf (.str t)), .un] := by
  unfold e_law_put_by_1
  rw [den_lcomp]
  refine (lcomp_map n.ps (fun p => .str p) (fun p => .leaf (.int (arcV n.as t p))) ?_ (fun p hp acc hac => ?_) ?_ ?_).trans ?_
  · show dit g _ _ _ = _
    rw [dit_seq]
    have e5 : n.d = .tup [names n.ps, names n.ts, .tup (n.as.map Arc.d)] := rfl
    simp_arith [iSeq, iterD, e5, names]
  · simp_arith [turnL, evIfs, noX, OkW, hac, ha]
  · have := h.lp; unfold lim; omega
  · rfl
  · simp [leafs, Net.pt, Function.comp_def]
theorem r_lpt (t : Str) : runD g d_law_put_by [.leaf n.d, .leaf (.str t)] = .ok (.leaf (intD (n.pt t))) [none, none] := by
  rw [runD_eq rfl]
  have c := c_lpt g n h ha t
  have e : intD (n.pt t) = .tup ((n.pt t).map .int) := rfl
  rw [e]
  simp_arith [d_law_put_by, c, e_law_put_by_1_x]
end
section
variable (htk : ∀ t, g.fn "_law_taken" [.leaf n.d, .leaf (.str t)] = .ok (.leaf (intD (n.tk t))) [none, none]) (hpt : ∀ t, g.fn "_law_put_by" [.leaf n.d, .leaf (.str t)] = .ok (.leaf (intD (n.pt t))) [none, none])
  (ms : List Int) (hl : ms.length = n.ps.length) (t : Str)
def shortB (n : Net) (ms : List Int) (t : Str) (k : Nat) : Bool := decide (ms.getD k 0 < (n.tk t).getD k 0)
include htk hpt hl
def lafS (n : Net) (ms : List Int) (t : Str) : SS := [.own (.leaf n.d), .own (.leaf (.tup (ms.map .int))), .own (.leaf (.str t)), .own (.leaf (.tup ((n.tk t).map .int))), .own (.leaf (.tup ((n.pt t).map .int))), .un]
omit htk hpt in
theorem c_laf1 : (den g e_law_after_1).v (lafS n ms t) = .ok (.lst (leafs (((List.range ms.length).filter (shortB n ms t)).map fun (k : Nat) => .int (k : Int)))) (lafS n ms t) := by
  unfold e_law_after_1
  rw [den_lcomp]
  refine (lcomp_filter (List.range ms.length) (fun (k : Nat) => .int (k : Int)) (shortB n ms t) (fun (k : Nat) => .leaf (.int (k : Int))) ?_ (fun k hk acc hac => ?_) ?_ ?_).trans ?_
  · simp only [dit_range, dens_cons, dens_nil]
    exact range_hit (by have := h.lp; omega) (by unfold lafS; simp_arith [List.length_map])
  · have hk := List.mem_range.mp hk
    have x1 := getI hk g.sup
    have x2 := getI (ms := n.tk t) (k := k) (by rw [tk_len, ← hl]; exact hk) g.sup
    unfold lafS
    by_cases hs : ms.getD k 0 < (n.tk t).getD k 0
    · have hb : shortB n ms t k = true := decide_eq_true hs
      simp_arith [turnL, evIfs, noX, OkW, hac, x1, x2, hs, hb]
    · have hb : shortB n ms t k = false := decide_eq_false hs
      simp_arith [turnL, evIfs, noX, OkW, hac, x1, x2, hs, hb]
  · have := h.lp; rw [List.length_range]; unfold lim; omega
  · rfl
  · simp [leafs]
omit htk hpt in
theorem c_laf2 : (den g e_law_after_2).v (lafS n ms t) = .ok (.lst (leafs ((List.range ms.length).map fun (k : Nat) => .int (ms.getD k 0 - (n.tk t).getD k 0 + (n.pt t).getD k 0)))) (lafS n ms t) := by
  unfold e_law_after_2
  rw [den_lcomp]
  refine (lcomp_map (List.range ms.length) (fun (k : Nat) => .int (k : Int)) (fun (k : Nat) => .leaf (.int (ms.getD k 0 - (n.tk t).getD k 0 + (n.pt t).getD k 0))) ?_ (fun k hk acc hac => ?_) ?_ ?_).trans ?_
  · simp only [dit_range, dens_cons, dens_nil]
    exact range_hit (by have := h.lp; omega) (by unfold lafS; simp_arith [List.length_map])
  · have hk := List.mem_range.mp hk
    have x1 := getI hk g.sup
    have x2 := getI (ms := n.tk t) (k := k) (by rw [tk_len, ← hl]; exact hk) g.sup
    have x3 := getI (ms := n.pt t) (k := k) (by unfold Net.pt; rw [List.length_map, ← hl]; exact hk) g.sup
    unfold lafS
    simp_arith [turnL, evIfs, noX, OkW, hac, x1, x2, x3]
  · have := h.lp; rw [List.length_range]; unfold lim; omega
  · rfl
  · simp [leafs]
omit h htk hpt in
theorem short_can : ((List.range ms.length).filter (shortB n ms t)).isEmpty = canB n ms t := by
  rw [Bool.eq_iff_iff, List.isEmpty_iff, List.filter_eq_nil_iff]
  unfold canB
  rw [List.all_eq_true]
  have e : ∀ k, k < ms.length → (ms.zip (n.tk t))[k]? = some (ms.getD k 0, (n.tk t).getD k 0) := fun k hk => by
    have hk2 : k < (n.tk t).length := by rw [tk_len, ← hl]; exact hk
    rw [List.getElem?_zip_eq_some]
    rw [List.getD_eq_getElem?_getD, List.getElem?_eq_getElem hk, List.getD_eq_getElem?_getD, List.getElem?_eq_getElem hk2]
    exact ⟨rfl, rfl⟩
  constructor
  · intro H p hp
    obtain ⟨k, hk, rfl⟩ := List.mem_iff_getElem.mp hp
    have hk1 : k < ms.length := by rw [List.length_zip] at hk; omega
    have := H k (List.mem_range.mpr hk1)
    have e1 := e k hk1
    rw [List.getElem?_eq_getElem hk] at e1
    rw [Option.some.inj e1]
    simp only [shortB, decide_eq_true_eq] at this ⊢
    omega
  · intro H k hk
    have hk := List.mem_range.mp hk
    have := H _ (List.mem_of_getElem? (e k hk))
    simp only [shortB, decide_eq_true_eq] at this ⊢
    omega
omit h htk hpt in
theorem aft_eq : ((List.range ms.length).map fun (k : Nat) => ms.getD k 0 - (n.tk t).getD k 0 + (n.pt t).getD k 0) = aft n ms t := by
  apply List.ext_getElem
  · rw [List.length_map, List.length_range, aft_len hl, hl]
  · intro k h1 h2
    rw [List.length_map, List.length_range] at h1
    have hp : k < n.ps.length := by omega
    have e1 : (n.tk t).getD k 0 = arcV n.as n.ps[k] t := by
      rw [List.getD_eq_getElem?_getD, List.getElem?_eq_getElem (by rw [tk_len]; exact hp)]
      simp [Net.tk]
    have e2 : (n.pt t).getD k 0 = arcV n.as t n.ps[k] := by
      rw [List.getD_eq_getElem?_getD, List.getElem?_eq_getElem (by unfold Net.pt; rw [List.length_map]; exact hp)]
      simp [Net.pt]
    have e3 : ms.getD k 0 = ms[k] := by rw [List.getD_eq_getElem?_getD, List.getElem?_eq_getElem h1]; rfl
    simp only [List.getElem_map, List.getElem_range, aft, List.getElem_zip, Net.ch, e1, e2, e3]
    omega
theorem r_laft : runD g d_law_after [.leaf n.d, .leaf (intD ms), .leaf (.str t)] = .ok (.leaf (if canB n ms t = true then intD (aft n ms t) else .non)) [none, none, none] := by
  rw [runD_eq rfl]
  have c1 := c_laf1 g n h ms hl t
  have c2 := c_laf2 g n h ms hl t
  have e0 : intD ms = .tup (ms.map .int) := rfl
  have e1 : intD (n.tk t) = .tup ((n.tk t).map .int) := rfl
  have e2 : intD (n.pt t) = .tup ((n.pt t).map .int) := rfl
  have g1 := htk t
  have g2 := hpt t
  rw [e1] at g1
  rw [e2] at g2
  rw [e0]
  have sc := short_can n ms hl t
  have p1 : D.plainsN 59 (((List.range ms.length).filter (shortB n ms t)).map fun (k : Nat) => D.int (k : Int)) = true := by
    have := plains_int 59 (((List.range ms.length).filter (shortB n ms t)).map fun (k : Nat) => (k : Int))
    rw [List.map_map] at this
    exact this
  have p2 := ne_nil (sup := g.sup) p1
  rw [List.isEmpty_map, sc] at p2
  have e3 : ((List.range ms.length).map fun (k : Nat) => D.int (ms.getD k 0 - (n.tk t).getD k 0 + (n.pt t).getD k 0)) = (aft n ms t).map .int := by rw [← aft_eq n ms hl t, List.map_map]; rfl
  rw [e3] at c2
  unfold lafS at c1 c2
  by_cases hc : canB n ms t = true
  · rw [hc] at p2
    rw [if_pos hc]
    have e4 : intD (aft n ms t) = .tup ((aft n ms t).map .int) := rfl
    rw [e4]
    simp_arith [d_law_after, g1, g2, c1, c2, e_law_after_1_x, e_law_after_2_x, p2, lim]
  · rw [if_neg hc]
    rw [show canB n ms t = false by simpa using hc] at p2
    simp_arith [d_law_after, g1, g2, c1, e_law_after_1_x, p2, lim]
end
end
end K02
end
section
set_option linter.all false
set_option maxRecDepth 100000
set_option maxHeartbeats 0
/-! The law's own lines; what is the same; what is told. -/
namespace K02
open PySem Tk
/-! ### the same -/
theorem r_same_str (g : G) (x : Str) : runD g d_law_same [.leaf (.str x), .leaf (.str x)] = .ok (.leaf (.bl true)) [none, none] := by
  rw [runD_eq rfl]
  have i1 : (P.isinst ["tuple"]).sem g.sup [.str x] = some (.bl false) := rfl
  have i2 : (P.isinst ["list"]).sem g.sup [.str x] = some (.bl false) := rfl
  have i3 : (P.isinst ["dict"]).sem g.sup [.str x] = some (.bl false) := rfl
  have i4 : (P.isinst ["bool"]).sem g.sup [.str x] = some (.bl false) := rfl
  have i5 : (P.isinst ["int"]).sem g.sup [.str x] = some (.bl false) := rfl
  have n1 : P.ne.sem g.sup [.bl false, .bl false] = some (.bl false) := rfl
  have n2 : P.ne.sem g.sup [.bl true, .bl true] = some (.bl false) := rfl
  simp_arith [d_law_same, i1, i2, i3, i4, i5, n1, n2, isi_str_s, sem_eq_str]
theorem r_same_bl (g : G) (x : Bool) : runD g d_law_same [.leaf (.bl x), .leaf (.bl x)] = .ok (.leaf (.bl true)) [none, none] := by
  rw [runD_eq rfl]
  have i1 : (P.isinst ["tuple"]).sem g.sup [.bl x] = some (.bl false) := rfl
  have i2 : (P.isinst ["list"]).sem g.sup [.bl x] = some (.bl false) := rfl
  have i3 : (P.isinst ["dict"]).sem g.sup [.bl x] = some (.bl false) := rfl
  have i4 : (P.isinst ["bool"]).sem g.sup [.bl x] = some (.bl true) := rfl
  have i5 : (P.isinst ["int"]).sem g.sup [.bl x] = some (.bl true) := rfl
  have i6 : (P.isinst ["str"]).sem g.sup [.bl x] = some (.bl false) := rfl
  have n1 : P.ne.sem g.sup [.bl false, .bl false] = some (.bl false) := rfl
  have n2 : P.ne.sem g.sup [.bl true, .bl true] = some (.bl false) := rfl
  have n3 : P.eq.sem g.sup [.bl x, .bl x] = some (.bl true) := by cases x <;> rfl
  simp_arith [d_law_same, i1, i2, i3, i4, i5, i6, n1, n2, n3]
theorem b_same (g : G) (ds : List D) (h : ∀ d, d ∈ ds → g.fn "_law_same" [.leaf d, .leaf d] = .ok (.leaf (.bl true)) [none, none]) (k : Nat) (hk : k < ds.length) : dS g [] b_law_same_1 [.own (.leaf (.lst ds)), .own (.leaf (.lst ds)), .own (.leaf (.int (k : Int))), .un] = .nx [.own (.leaf (.lst ds)), .own (.leaf (.lst ds)), .own (.leaf (.int (k : Int))), .un] := by
  have h1 := h ds[k] (List.getElem_mem hk)
  have e1 : atL ds (k : Int) = some ds[k] := by rw [atL_nat hk, List.getElem?_eq_getElem hk]
  simp_arith [b_law_same_1, e1, h1]
theorem r_same_lst (g : G) (ds : List D) (hl : ds.length ≤ 10000) (h : ∀ d, d ∈ ds → g.fn "_law_same" [.leaf d, .leaf d] = .ok (.leaf (.bl true)) [none, none]) : runD g d_law_same [.leaf (.lst ds), .leaf (.lst ds)] = .ok (.leaf (.bl true)) [none, none] := by
  obtain ⟨S', e, rfl⟩ := loopS_inv (kill := [2]) (f := fun d T => match setT (.nm 2) d T with
      | none => .bad
      | some T1 => dS g [] b_law_same_1 T1) (P := fun k S => S = [.own (.leaf (.lst ds)), .own (.leaf (.lst ds)), .un, .un]) 100000 (ds := (List.range ds.length).map fun (i : Nat) => D.int (i : Int)) (k := 0) (S := [.own (.leaf (.lst ds)), .own (.leaf (.lst ds)), .un, .un]) (by
    rintro d hd k S hK rfl
    obtain ⟨i, hi, rfl⟩ := List.mem_map.mp hd
    exact ⟨_, b_same g ds h i (List.mem_range.mp hi), rfl⟩) (by simp; omega) rfl
  have e1 : dS g [] l_law_same_1 [.own (.leaf (.lst ds)), .own (.leaf (.lst ds)), .un, .un] = .nx [.own (.leaf (.lst ds)), .own (.leaf (.lst ds)), .un, .un] := by
    rw [← e]
    unfold l_law_same_1
    rw [dS_for]
    have er := range_ok (k := ds.length) (by omega)
    simp_arith [iRange, er]
    try rfl
  rw [runD_eq rfl]
  have i1 : (P.isinst ["tuple"]).sem g.sup [.lst ds] = some (.bl false) := rfl
  have i2 : (P.isinst ["list"]).sem g.sup [.lst ds] = some (.bl true) := rfl
  have n1 : P.ne.sem g.sup [.bl false, .bl false] = some (.bl false) := rfl
  have n2 : P.ne.sem g.sup [.bl true, .bl true] = some (.bl false) := rfl
  simp_arith [d_law_same, i1, i2, n1, n2, e1]
end K02
end
section
set_option linter.all false
set_option maxRecDepth 100000
set_option maxHeartbeats 0
/-! Turned nets, more tokens. -/
namespace K02
open PySem Tk
def swap (x : Arc) : Arc := ⟨x.b, x.a, x.m⟩
def flip (n : Net) : Net := ⟨n.ps, n.ts, (n.as.map swap).mergeSort arcLe⟩
theorem swap_swap (l : List Arc) : (l.map swap).map swap = l := by
  rw [List.map_map]
  exact List.map_id l
theorem arcLe_anti {x y : Arc} (h1 : arcLe x y = true) (h2 : arcLe y x = true) : x = y := by
  rw [arcLe_iff] at h1 h2
  rcases arc_sto.tri (arcK x) (arcK y) with k | k | k
  · exact absurd k h2
  · have k1 := Prod.mk.inj k
    have k2 := Prod.mk.inj k1.2
    cases x; cases y
    obtain ⟨a, b, c⟩ := (⟨k1.1, k2.1, k2.2⟩ : _ ∧ _ ∧ _)
    simp only at a b c
    subst a b c
    rfl
  · exact absurd k h1
theorem flip_flip {n : Net} (h : NetOk n) : flip (flip n) = n := by
  have e : (((n.as.map swap).mergeSort arcLe).map swap).mergeSort arcLe = n.as := by
    refine List.Perm.eq_of_pairwise (le := fun x y => arcLe x y = true) (fun a b _ _ => arcLe_anti) (List.pairwise_mergeSort arcLe_tra arcLe_tot _) h.srt ?_
    have p1 := List.mergeSort_perm (((n.as.map swap).mergeSort arcLe).map swap) arcLe
    have p2 := (List.mergeSort_perm (n.as.map swap) arcLe).map swap
    rw [swap_swap] at p2
    exact p1.trans p2
  show (⟨n.ps, n.ts, (((n.as.map swap).mergeSort arcLe).map swap).mergeSort arcLe⟩ : Net) = n
  rw [e]
theorem kk_nd {n : Net} (h : n.Ok) : (n.as.map Arc.kk).Nodup := by
  have h1 := h.nda
  unfold List.Nodup at *
  rw [List.pairwise_map] at *
  exact h1.imp fun hn e => hn (by
    have e := Prod.mk.inj e
    rw [e.1, e.2])
theorem flip_ok {n : Net} (h : NetOk n) : NetOk (flip n) := by
  refine net_ok (ws := n.as.map (·.m)) h.hp h.ht ?_ (by rw [List.length_map]; exact h.ok.la) (fun x hx => ?_) (fun w hw => ?_)
  · have h1 := kk_nd h.ok
    unfold List.Nodup at *
    rw [List.map_map, List.pairwise_map] at *
    exact h1.imp fun hn e => hn (by
      have e := Prod.mk.inj e
      exact Prod.ext e.2 e.1)
  · obtain ⟨y, hy, rfl⟩ := List.mem_map.mp hx
    have := (h.ok.arc y hy).1
    refine ⟨?_, List.mem_map.mpr ⟨y, hy, rfl⟩⟩
    rcases this with z | z
    · exact .inr ⟨z.2, z.1⟩
    · exact .inl ⟨z.2, z.1⟩
  · obtain ⟨y, hy, rfl⟩ := List.mem_map.mp hw
    exact (h.ok.arc y hy).2
theorem arcV_cons (x : Arc) (r : List Arc) (a b : Str) : arcV (x :: r) a b = (if x.a = a ∧ x.b = b then x.m else 0) + arcV r a b := by
  unfold arcV
  rw [List.filter_cons]
  by_cases h : x.a = a ∧ x.b = b
  · rw [if_pos (by simpa using h), if_pos h, List.map_cons, List.sum_cons]
  · rw [if_neg (by simpa using h), if_neg h, Int.zero_add]
theorem arcV_perm {a b : Str} {l1 l2 : List Arc} (p : l1.Perm l2) : arcV l1 a b = arcV l2 a b := by
  induction p with
  | nil => rfl
  | cons x _ ih => rw [arcV_cons, arcV_cons, ih]
  | swap x y l => rw [arcV_cons, arcV_cons, arcV_cons, arcV_cons]; omega
  | trans _ _ i1 i2 => exact i1.trans i2
theorem arcV_swap (a b : Str) : ∀ l : List Arc, arcV (l.map swap) a b = arcV l b a
  | [] => rfl
  | x :: l => by
    rw [List.map_cons, arcV_cons, arcV_cons, arcV_swap a b l]
    congr 1
    show (if x.b = a ∧ x.a = b then x.m else 0) = _
    by_cases h : x.a = b ∧ x.b = a
    · rw [if_pos h, if_pos ⟨h.2, h.1⟩]
    · rw [if_neg h, if_neg fun z => h ⟨z.2, z.1⟩]
theorem arcV_flip (n : Net) (a b : Str) : arcV (flip n).as a b = arcV n.as b a := by
  show arcV ((n.as.map swap).mergeSort arcLe) a b = _
  rw [arcV_perm (List.mergeSort_perm (n.as.map swap) arcLe), arcV_swap]
/-! ### steps -/
theorem tk_get {n : Net} {t : Str} {k : Nat} (h : k < n.ps.length) : (n.tk t)[k]'(by rw [tk_len]; exact h) = arcV n.as n.ps[k] t := by simp [Net.tk]
theorem ch_get {n : Net} {t : Str} {k : Nat} (h : k < n.ps.length) : (n.ch t)[k]'(by rw [ch_len]; exact h) = arcV n.as t n.ps[k] - arcV n.as n.ps[k] t := by simp [Net.ch]
theorem aft_get {n : Net} {ms : List Int} {t : Str} (hl : ms.length = n.ps.length) {k : Nat} (h : k < n.ps.length) (h1 : k < (aft n ms t).length) : (aft n ms t)[k] = ms[k]'(by omega) + (arcV n.as t n.ps[k] - arcV n.as n.ps[k] t) := by
  simp only [aft, List.getElem_map, List.getElem_zip, ch_get h]
theorem can_iff {n : Net} {ms : List Int} {t : Str} (hl : ms.length = n.ps.length) : canB n ms t = true ↔ ∀ k (h : k < n.ps.length), arcV n.as n.ps[k] t ≤ ms[k]'(by omega) := by
  unfold canB
  rw [List.all_eq_true]
  constructor
  · intro H k h
    have hz : k < (ms.zip (n.tk t)).length := by rw [List.length_zip, tk_len]; omega
    have := H _ (List.getElem_mem hz)
    rw [List.getElem_zip, decide_eq_true_eq] at this
    show arcV n.as n.ps[k] t ≤ ms[k]
    rw [← tk_get (t := t) h]
    exact this
  · intro H p hp
    obtain ⟨k, hk, rfl⟩ := List.mem_iff_getElem.mp hp
    have h : k < n.ps.length := by rw [List.length_zip, tk_len] at hk; omega
    have := H k h
    rw [← tk_get (t := t) h] at this
    rw [List.getElem_zip, decide_eq_true_eq]
    exact this
theorem back1 {n : Net} {ms : List Int} {t : Str} (hl : ms.length = n.ps.length) (hc : canB n ms t = true) : canB (flip n) (aft n ms t) t = true ∧ aft (flip n) (aft n ms t) t = ms := by
  have la : (aft n ms t).length = n.ps.length := aft_len hl
  have lf : (aft n ms t).length = (flip n).ps.length := la
  have hc := (can_iff hl).mp hc
  constructor
  · rw [can_iff lf]
    intro k h
    have h : k < n.ps.length := h
    rw [arcV_flip]
    show arcV n.as t n.ps[k] ≤ _
    have := hc k h
    rw [aft_get hl h]
    omega
  · apply List.ext_getElem
    · rw [aft_len lf, hl]; rfl
    · intro k h1 h2
      have h : k < n.ps.length := by omega
      rw [aft_get lf h, arcV_flip, arcV_flip, aft_get hl h]
      show ms[k] + (arcV n.as t n.ps[k] - arcV n.as n.ps[k] t) + (arcV n.as n.ps[k] t - arcV n.as t n.ps[k]) = ms[k]
      omega
theorem go_len {n : Net} : ∀ {run : List Str} {ms m : List Int}, ms.length = n.ps.length → go n ms run = some m → m.length = n.ps.length
  | [], _, _, hl, h => by cases h; exact hl
  | t :: run, ms, m, hl, h => by
    rw [goEq] at h
    by_cases hc : t ∈ n.ts ∧ canB n ms t = true
    · rw [if_pos hc] at h
      exact go_len (aft_len hl) h
    · rw [if_neg hc] at h; cases h
theorem go_app {n : Net} {t : Str} : ∀ {run : List Str} {ms ms' : List Int}, go n ms run = some ms' → go n ms (run ++ [t]) = if t ∈ n.ts ∧ canB n ms' t = true then some (aft n ms' t) else none
  | [], ms, ms', h => by
    cases h
    rw [List.nil_append, goEq]
    rfl
  | u :: run, ms, ms', h => by
    rw [goEq] at h
    rw [List.cons_append, goEq]
    by_cases hc : u ∈ n.ts ∧ canB n ms u = true
    · rw [if_pos hc] at h ⊢
      exact go_app h
    · rw [if_neg hc] at h
      cases h
theorem go_mem {n : Net} : ∀ {run : List Str} {ms m : List Int}, go n ms run = some m → ∀ t, t ∈ run → t ∈ n.ts
  | [], _, _, _, _, h => by cases h
  | u :: run, ms, m, h, t, ht => by
    rw [goEq] at h
    by_cases hc : u ∈ n.ts ∧ canB n ms u = true
    · rw [if_pos hc] at h
      rcases List.mem_cons.mp ht with rfl | ht
      · exact hc.1
      · exact go_mem h t ht
    · rw [if_neg hc] at h; cases h
/-- a run from behind is one of the turned net -/
theorem go_back {n : Net} : ∀ {run : List Str} {ms m : List Int}, ms.length = n.ps.length → go n ms run = some m → go (flip n) m run.reverse = some ms
  | [], ms, m, _, h => by cases h; rfl
  | t :: run, ms, m, hl, h => by
    rw [goEq] at h
    by_cases hc : t ∈ n.ts ∧ canB n ms t = true
    · rw [if_pos hc] at h
      have ih := go_back (aft_len hl) h
      have b := back1 hl hc.2
      rw [List.reverse_cons, go_app ih, if_pos ⟨hc.1, b.1⟩, b.2]
    · rw [if_neg hc] at h; cases h
def addV (a b : List Int) : List Int := (a.zip b).map fun p => p.1 + p.2
theorem addV_len {a b : List Int} (h : a.length = b.length) : (addV a b).length = a.length := by
  unfold addV
  rw [List.length_map, List.length_zip, h, Nat.min_self]
theorem addV_get {a b : List Int} {k : Nat} (h1 : k < (addV a b).length) (ha : k < a.length) (hb : k < b.length) : (addV a b)[k] = a[k] + b[k] := by
  simp only [addV, List.getElem_map, List.getElem_zip]
theorem more1 {n : Net} {ms e : List Int} {t : Str} (hl : ms.length = n.ps.length) (he : e.length = n.ps.length) (h0 : ∀ i, i ∈ e → 0 ≤ i) (hc : canB n ms t = true) : canB n (addV ms e) t = true ∧ aft n (addV ms e) t = addV (aft n ms t) e := by
  have la : (addV ms e).length = n.ps.length := by rw [addV_len (hl.trans he.symm), hl]
  have hc := (can_iff hl).mp hc
  constructor
  · rw [can_iff la]
    intro k h
    have := hc k h
    have := h0 e[k] (List.getElem_mem (by omega))
    rw [addV_get (by omega) (by omega) (by omega)]
    omega
  · apply List.ext_getElem
    · rw [aft_len la, addV_len (by rw [aft_len hl, he]), aft_len hl]
    · intro k h1 h2
      have h : k < n.ps.length := by rw [aft_len la] at h1; exact h1
      rw [aft_get la h, addV_get (by omega) (by omega) (by omega), addV_get h2 (by rw [aft_len hl]; exact h) (by omega), aft_get hl h]
      omega
theorem go_more {n : Net} {e : List Int} (he : e.length = n.ps.length) (h0 : ∀ i, i ∈ e → 0 ≤ i) : ∀ {run : List Str} {ms m : List Int}, ms.length = n.ps.length → go n ms run = some m → go n (addV ms e) run = some (addV m e)
  | [], ms, m, _, h => by cases h; rfl
  | t :: run, ms, m, hl, h => by
    rw [goEq] at h ⊢
    by_cases hc : t ∈ n.ts ∧ canB n ms t = true
    · rw [if_pos hc] at h
      have b := more1 hl he h0 hc.2
      rw [if_pos ⟨hc.1, b.1⟩, b.2]
      exact go_more he h0 (aft_len hl) h
    · rw [if_neg hc] at h; cases h
/-! ### neighbours -/
def srcs (n : Net) (x : Str) : List Str := (n.as.filter fun y => decide (y.b = x)).map (·.a)
def gls (n : Net) (x : Str) : List Str := (n.as.filter fun y => decide (y.a = x)).map (·.b)
def strLe (a b : Str) : Bool := !decide (b.cps.toList < a.cps.toList)
theorem strLe_iff (x y : Str) : strLe x y = true ↔ ¬ strL y x := by
  unfold strLe strL
  simp
theorem strLe_tra (x y z : Str) (h1 : strLe x y = true) (h2 : strLe y z = true) : strLe x z = true := by
  rw [strLe_iff] at *
  intro h
  rcases str_sto.tri x y with k | k | k
  · exact h2 (str_sto.tra _ _ _ h k)
  · exact h2 (k ▸ h)
  · exact h1 k
theorem strLe_tot (x y : Str) : (strLe x y || strLe y x) = true := by
  rw [Bool.or_eq_true, strLe_iff, strLe_iff]
  by_cases h : strL y x
  · exact .inr fun k => str_sto.irr _ (str_sto.tra _ _ _ h k)
  · exact .inl h
theorem strLe_anti {x y : Str} (h1 : strLe x y = true) (h2 : strLe y x = true) : x = y := by
  rw [strLe_iff] at *
  rcases str_sto.tri x y with k | k | k
  · exact absurd k h2
  · exact k
  · exact absurd k h1
/-- arcs in order, with the same end: their beginnings are in order -/
theorem le_a {x y : Arc} (h : arcLe x y = true) : strLe x.a y.a = true := by
  rw [arcLe_iff] at h
  rw [strLe_iff]
  exact fun k => h (.inl k)
theorem le_b {x y : Arc} (h : arcLe x y = true) (e : x.a = y.a) : strLe x.b y.b = true := by
  rw [arcLe_iff] at h
  rw [strLe_iff]
  exact fun k => h (.inr ⟨e.symm, .inl k⟩)
theorem srcs_pw {n : Net} (h : NetOk n) (x : Str) : (srcs n x).Pairwise fun a b => strLe a b = true :=
  (h.srt.filter _).map _ fun _ _ z => le_a z
theorem gls_pw {n : Net} (h : NetOk n) (x : Str) : (gls n x).Pairwise fun a b => strLe a b = true := by
  unfold gls
  rw [List.pairwise_map]
  have h1 := h.srt.filter fun y => decide (y.a = x)
  refine List.Pairwise.imp_of_mem (fun {a b} ha hb z => ?_) h1
  have ha := (List.mem_filter.mp ha).2
  have hb := (List.mem_filter.mp hb).2
  simp only [decide_eq_true_eq] at ha hb
  exact le_b z (ha.trans hb.symm)
theorem srcs_flip {n : Net} (h : NetOk n) (x : Str) : srcs (flip n) x = gls n x := by
  refine List.Perm.eq_of_pairwise (le := fun x y => strLe x y = true) (fun a b _ _ => strLe_anti) (srcs_pw (flip_ok h) x) (gls_pw h x) ?_
  have p1 := ((List.mergeSort_perm (n.as.map swap) arcLe).filter fun y => decide (y.b = x)).map (·.a)
  have e : ((n.as.map swap).filter fun y => decide (y.b = x)).map (·.a) = gls n x := by
    rw [List.filter_map, List.map_map]
    rfl
  rw [e] at p1
  exact p1
theorem strs_plain : ∀ (xs : List Str), D.plainsN 59 (xs.map .str) = true := plains_str 59
theorem sort_strs (sup : Str → List Str) (xs : List Str) : P.sorted.sem sup [.lst (xs.map .str)] = some (.lst ((xs.mergeSort strLe).map .str)) := by
  show Tk.chk (canSort (xs.map D.str)) (.lst (sortD (xs.map D.str))) = _
  have e1 : canSort (xs.map D.str) = true := by
    unfold canSort alikeAll D.plains sortable
    rw [strs_plain]
    simp only [Bool.true_and, Bool.and_eq_true, List.all_eq_true, List.mem_map, Bool.or_eq_true]
    refine ⟨?_, .inr ?_⟩
    · rintro _ ⟨x, _, rfl⟩ _ ⟨y, _, rfl⟩; rfl
    · rintro _ ⟨x, _, rfl⟩; rfl
  have e2 : sortD (xs.map D.str) = (xs.mergeSort strLe).map D.str := (List.map_mergeSort (r := strLe) (s := fun a b => !D.lt b a) (f := D.str) (l := xs) (fun a _ b _ => rfl)).symm
  rw [e1, e2]
  rfl
theorem sort_same {xs : List Str} (h : xs.Pairwise fun a b => strLe a b = true) : xs.mergeSort strLe = xs := List.mergeSort_of_pairwise h
end K02
end
section
set_option linter.all false
set_option maxRecDepth 100000
set_option maxHeartbeats 0
/-! What the program's defs say: turned nets, neighbours, runs. -/
namespace K02
open PySem Tk
theorem sem_nin_str {sup : Str → List Str} {x : Str} {xs : List Str} : P.nin.sem sup [.str x, names xs] = some (.bl (!decide (x ∈ xs))) := by
  show Tk.chk (D.plain (.str x) && D.plains (xs.map .str)) (.bl (!(xs.map D.str).any fun d => D.eqv d (.str x))) = _
  rw [any_str, show D.plains (xs.map .str) = true from plains_str 59 xs]
  show some (D.bl _) = _
  congr 3
  rw [Bool.eq_iff_iff]
  simp
def xNT (s : String) : D := .exn "NotThere" [] [.str (Str.ofString s)]
section
variable (g : G) (n : Net) (x : Str)
theorem dEq (n : Net) : n.d = .tup [names n.ps, names n.ts, .tup (n.as.map Arc.d)] := rfl
theorem r_known (h : x ∈ n.ps ∨ x ∈ n.ts) : runD g d_check_known [.leaf n.d, .leaf (.str x)] = .ok (.leaf .non) [none, none] := by
  rw [runD_eq rfl]
  by_cases h1 : x ∈ n.ps
  · simp_arith [d_check_known, dEq, sem_nin_str, h1]
  · have h2 := h.resolve_left h1
    simp_arith [d_check_known, dEq, sem_nin_str, h1, h2]
theorem r_known_no (h1 : x ∉ n.ps) (h2 : x ∉ n.ts) : runD g d_check_known [.leaf n.d, .leaf (.str x)] = .exc (xNT "there is no such place or step") [none, none] := by
  rw [runD_eq rfl]
  simp_arith [d_check_known, dEq, sem_nin_str, h1, h2]
  rfl
theorem r_step (h : x ∈ n.ts) : runD g d_check_step [.leaf n.d, .leaf (.str x)] = .ok (.leaf .non) [none, none] := by
  rw [runD_eq rfl]
  simp_arith [d_check_step, dEq, sem_nin_str, h]
theorem c_turned (h : n.Ok) : (den g e_turned_1).v [.own (.leaf n.d), .un, .un, .un] = .ok (.lst (leafs ((n.as.map swap).map Arc.d))) [.own (.leaf n.d), .un, .un, .un] := by
  unfold e_turned_1
  rw [den_lcomp]
  refine (lcomp_map n.as Arc.d (fun x => .leaf (.tup [.str x.b, .str x.a, .int x.m])) ?_ (fun x hp acc hac => ?_) ?_ ?_).trans ?_
  · show dit g _ _ _ = _
    rw [dit_seq]
    simp_arith [iSeq, iterD, dEq]
  · have e1 : x.d = .tup [.str x.a, .str x.b, .int x.m] := rfl
    have c3 : 3 ≤ lim := by unfold lim; omega
    simp_arith [turnL, evIfs, noX, OkW, e1, hac, c3]
  · have := h.la; unfold lim; omega
  · rfl
  · simp [leafs, swap, Arc.d, Function.comp_def]
theorem r_turned (h : n.Ok) (hc : g.fn "check_net" [.leaf n.d] = .ok (.leaf .non) [none]) : runD g d_turned [.leaf n.d] = .ok (.leaf (flip n).d) [none] := by
  rw [runD_eq rfl]
  have c := c_turned g n h
  have s := sort_arcs g.sup (n.as.map swap)
  have c3 : 3 ≤ lim := by unfold lim; omega
  have e : (flip n).d = .tup [names n.ps, names n.ts, .tup (((n.as.map swap).mergeSort arcLe).map Arc.d)] := rfl
  rw [e]
  rw [dEq] at c hc ⊢
  simp_arith [d_turned, hc, c, e_turned_1_x, s, c3]
theorem r_turned_x (N x : D) (hc : g.fn "check_net" [.leaf N] = .exc x [none]) : runD g d_turned [.leaf N] = .exc x [none] := by
  rw [runD_eq rfl]
  simp_arith [d_turned, hc]
theorem c_src (h : n.Ok) : (den g e_sources_of_1).v [.own (.leaf n.d), .own (.leaf (.str x)), .un, .un, .un] = .ok (.lst (leafs ((srcs n x).map .str))) [.own (.leaf n.d), .own (.leaf (.str x)), .un, .un, .un] := by
  unfold e_sources_of_1
  rw [den_lcomp]
  refine (lcomp_filter n.as Arc.d (fun y => decide (y.b = x)) (fun y => .leaf (.str y.a)) ?_ (fun y hp acc hac => ?_) ?_ ?_).trans ?_
  · show dit g _ _ _ = _
    rw [dit_seq]
    simp_arith [iSeq, iterD, dEq]
  · have e1 : y.d = .tup [.str y.a, .str y.b, .int y.m] := rfl
    by_cases h1 : y.b = x
    · simp_arith [turnL, evIfs, noX, OkW, e1, hac, sem_eq_str, h1]
    · simp_arith [turnL, evIfs, noX, OkW, e1, hac, sem_eq_str, h1]
  · have := h.la; unfold lim; omega
  · rfl
  · simp [leafs, srcs, Function.comp_def]
theorem c_gls (h : n.Ok) : (den g e_goals_of_1).v [.own (.leaf n.d), .own (.leaf (.str x)), .un, .un, .un] = .ok (.lst (leafs ((gls n x).map .str))) [.own (.leaf n.d), .own (.leaf (.str x)), .un, .un, .un] := by
  unfold e_goals_of_1
  rw [den_lcomp]
  refine (lcomp_filter n.as Arc.d (fun y => decide (y.a = x)) (fun y => .leaf (.str y.b)) ?_ (fun y hp acc hac => ?_) ?_ ?_).trans ?_
  · show dit g _ _ _ = _
    rw [dit_seq]
    simp_arith [iSeq, iterD, dEq]
  · have e1 : y.d = .tup [.str y.a, .str y.b, .int y.m] := rfl
    by_cases h1 : y.a = x
    · simp_arith [turnL, evIfs, noX, OkW, e1, hac, sem_eq_str, h1]
    · simp_arith [turnL, evIfs, noX, OkW, e1, hac, sem_eq_str, h1]
  · have := h.la; unfold lim; omega
  · rfl
  · simp [leafs, gls, Function.comp_def]
theorem r_src (h : n.Ok) (hc : g.fn "check_net" [.leaf n.d] = .ok (.leaf .non) [none]) (hk : g.fn "check_known" [.leaf n.d, .leaf (.str x)] = .ok (.leaf .non) [none, none]) : runD g d_sources_of [.leaf n.d, .leaf (.str x)] = .ok (.leaf (names (srcs n x))) [none, none] := by
  rw [runD_eq rfl]
  have c := c_src g n x h
  have e : names (srcs n x) = .tup ((srcs n x).map .str) := rfl
  rw [e]
  simp_arith [d_sources_of, hc, hk, c, e_sources_of_1_x]
theorem r_gls (h : n.Ok) (hc : g.fn "check_net" [.leaf n.d] = .ok (.leaf .non) [none]) (hk : g.fn "check_known" [.leaf n.d, .leaf (.str x)] = .ok (.leaf .non) [none, none]) : runD g d_goals_of [.leaf n.d, .leaf (.str x)] = .ok (.leaf (names (gls n x))) [none, none] := by
  rw [runD_eq rfl]
  have c := c_gls g n x h
  have e : names (gls n x) = .tup ((gls n x).map .str) := rfl
  rw [e]
  simp_arith [d_goals_of, hc, hk, c, e_goals_of_1_x]
theorem r_src_x (N X y : D) (hc : g.fn "check_net" [.leaf N] = .exc y [none]) : runD g d_sources_of [.leaf N, .leaf X] = .exc y [none, none] := by
  rw [runD_eq rfl]
  simp_arith [d_sources_of, hc]
theorem r_gls_x (N X y : D) (hc : g.fn "check_net" [.leaf N] = .exc y [none]) : runD g d_goals_of [.leaf N, .leaf X] = .exc y [none, none] := by
  rw [runD_eq rfl]
  simp_arith [d_goals_of, hc]
theorem r_src_k (N X y : D) (hc : g.fn "check_net" [.leaf N] = .ok (.leaf .non) [none]) (hk : g.fn "check_known" [.leaf N, .leaf X] = .exc y [none, none]) : runD g d_sources_of [.leaf N, .leaf X] = .exc y [none, none] := by
  rw [runD_eq rfl]
  simp_arith [d_sources_of, hc, hk]
theorem r_gls_k (N X y : D) (hc : g.fn "check_net" [.leaf N] = .ok (.leaf .non) [none]) (hk : g.fn "check_known" [.leaf N, .leaf X] = .exc y [none, none]) : runD g d_goals_of [.leaf N, .leaf X] = .exc y [none, none] := by
  rw [runD_eq rfl]
  simp_arith [d_goals_of, hc, hk]
end
/-! ### runs -/
section
variable (g : G) (n : Net) (h : n.Ok) (ms : List Int) (hl : ms.length = n.ps.length)
def able (n : Net) (ms : List Int) : List Str := n.ts.filter (canB n ms)
include h hl
theorem c_able (hcan : ∀ t, t ∈ n.ts → g.fn (methName "Moves" "can") [movF n, .leaf (intD ms), .leaf (.str t)] = .ok (.leaf (.bl (canB n ms t))) [some (movF n), none, none]) : (den g e_Moves_able_1).v [.own (movF n), .own (.leaf (intD ms)), .un] = .ok (.lst (leafs ((able n ms).map .str))) [.own (movF n), .own (.leaf (intD ms)), .un] := by
  unfold e_Moves_able_1
  rw [den_lcomp]
  have e1 : (movT n).frz.get (.attr "steps") = some (names n.ts) := by
    show lookN fieldN _ _ = _
    simp_arith [fieldN, lookN, fne]
  refine (lcomp_filter n.ts (fun t => .str t) (canB n ms) (fun t => .leaf (.str t)) ?_ (fun t ht acc hac => ?_) ?_ ?_).trans ?_
  · show dit g _ _ _ = _
    rw [dit_seq]
    have e2 : names n.ts = .tup (n.ts.map .str) := rfl
    rw [e2] at e1
    simp_arith [iSeq, iterD, OT.get, e1]
  · have rok : recvOk "Moves" "can" (movF n) = true := by kernel_rfl
    have h1 := hcan t ht
    cases hc : canB n ms t with
    | true =>
      rw [hc] at h1
      simp_arith [turnL, evIfs, noX, OkW, hac, rok, h1]
    | false =>
      rw [hc] at h1
      simp_arith [turnL, evIfs, noX, OkW, hac, rok, h1]
  · have := h.lt; unfold lim; omega
  · rfl
  · simp [leafs, able]
theorem r_able (hcan : ∀ t, t ∈ n.ts → g.fn (methName "Moves" "can") [movF n, .leaf (intD ms), .leaf (.str t)] = .ok (.leaf (.bl (canB n ms t))) [some (movF n), none, none]) : runD g d_Moves_able [movF n, .leaf (intD ms)] = .ok (.lst (leafs ((able n ms).map .str))) [some (movF n), none] := by
  rw [runD_eq rfl]
  have c := c_able g n h ms hl hcan
  have pn : plainName e_Moves_able_1 = none := rfl
  simp_arith [d_Moves_able, c, e_Moves_able_1_x, pn]
omit h hl in
section
variable (hck : g.fn "check_marked" [.leaf n.d, .leaf (intD ms)] = .ok (.leaf .non) [none, none]) (hin : g.fn (methName "Moves" initName) [.ins "Moves" [] [], .leaf n.d] = .ok (.leaf .non) [some (movT n), none])
include hck hin
omit h hl in
theorem r_steps_at (ha : g.fn (methName "Moves" "able") [movF n, .leaf (intD ms)] = .ok (.lst (leafs ((able n ms).map .str))) [some (movF n), none]) : runD g d_steps_at [.leaf n.d, .leaf (intD ms)] = .ok (.lst (leafs ((able n ms).map .str))) [none, none] := by
  rw [runD_eq rfl]
  have rok : recvOk "Moves" "able" (movT n) = true := by kernel_rfl
  simp_arith [d_steps_at, hck, hin, ha, doNew, rok]
omit h hl in
theorem r_is_run (run m' : List Int) (R : D) (ha : g.fn (methName "Moves" "end") [movF n, .leaf (intD ms), .leaf R] = .ok (.leaf (intD m')) [some (movF n), none, none]) : runD g d_is_run [.leaf n.d, .leaf (intD ms), .leaf R] = .ok (.leaf (.bl true)) [none, none, none] := by
  rw [runD_eq rfl]
  have rok : recvOk "Moves" "end" (movT n) = true := by kernel_rfl
  have hn : ¬ intD m' = .non := fun e => by cases e
  simp_arith [d_is_run, hck, hin, ha, doNew, rok, hn]
omit h hl in
theorem r_end_of (run : List Str) (hr : run.length ≤ 100) (m' : List Int) (hs : ∀ t, t ∈ run → g.fn "check_step" [.leaf n.d, .leaf (.str t)] = .ok (.leaf .non) [none, none]) (ha : g.fn (methName "Moves" "end") [movF n, .leaf (intD ms), .leaf (.lst (run.map .str))] = .ok (.leaf (intD m')) [some (movF n), none, none]) : runD g d_end_of [.leaf n.d, .leaf (intD ms), .leaf (.lst (run.map .str))] = .ok (.leaf (intD m')) [none, none, none] := by
  obtain ⟨S', e, rfl⟩ := loopS_inv (kill := [3]) (f := fun d T => match setT (.nm 3) d T with
      | none => .bad
      | some T1 => dS g [] b_end_of_1 T1) (P := fun k S => S = [.own (.leaf n.d), .own (.leaf (intD ms)), .own (.leaf (.lst (run.map .str))), .un, .un]) 10000 (ds := run.map .str) (k := 0) (S := [.own (.leaf n.d), .own (.leaf (intD ms)), .own (.leaf (.lst (run.map .str))), .un, .un]) (by
    rintro d hd k S hK rfl
    obtain ⟨t, ht, rfl⟩ := List.mem_map.mp hd
    have h1 := hs t ht
    refine ⟨[.own (.leaf n.d), .own (.leaf (intD ms)), .own (.leaf (.lst (run.map .str))), .own (.leaf (.str t)), .un], ?_, rfl⟩
    show dS g [] b_end_of_1 [.own (.leaf n.d), .own (.leaf (intD ms)), .own (.leaf (.lst (run.map .str))), .own (.leaf (.str t)), .un] = _
    simp_arith [b_end_of_1, h1]) (by rw [List.length_map]; omega) rfl
  have e1 : dS g [] l_end_of_1 [.own (.leaf n.d), .own (.leaf (intD ms)), .own (.leaf (.lst (run.map .str))), .un, .un] = .nx [.own (.leaf n.d), .own (.leaf (intD ms)), .own (.leaf (.lst (run.map .str))), .un, .un] := by
    rw [← e]
    unfold l_end_of_1
    rw [dS_for]
    rfl
  rw [runD_eq rfl]
  have rok : recvOk "Moves" "end" (movT n) = true := by kernel_rfl
  have hn : ¬ intD m' = .non := fun e => by cases e
  simp_arith [d_end_of, hck, e1, hin, ha, doNew, rok, hn]
end
end
end K02
end
section
set_option linter.all false
set_option maxRecDepth 100000
set_option maxHeartbeats 0
/-! The law's marking, what it tells, what it needs. -/
namespace K02
open PySem Tk
section
variable {p keep : Bool} {own : List Nat} {e : Den} {gd : GenD} {S : SS}
theorem loopW_inv {α : Type} {own : List Nat} {f : D → List OT → SS → R (List OT)} {φ : α → D} {I : SS → Prop} {V : OT → Prop} : ∀ {l : List α} {acc : List OT} {T : SS}, (∀ d, d ∈ l → ∀ (acc : List OT) T, I T → acc.length < lim → ∃ v T', f (φ d) acc T = .ok (acc ++ [v]) T' ∧ V v ∧ I (wipeS T' own)) → I T → acc.length + l.length ≤ lim →
    ∃ vs T', loopW own f (l.map φ) acc T = .ok (acc ++ vs) T' ∧ vs.length = l.length ∧ (∀ v, v ∈ vs → V v) ∧ I T'
  | [], acc, T, _, hi, _ => ⟨[], T, by rw [List.append_nil]; rfl, rfl, (fun _ h => by cases h), hi⟩
  | d :: l, acc, T, hb, hi, hl => by
    rw [List.length_cons] at hl
    obtain ⟨v, T1, e1, hv, hi1⟩ := hb d List.mem_cons_self acc T hi (by omega)
    obtain ⟨vs, T2, e2, hn, hvs, hi2⟩ := loopW_inv (l := l) (acc := acc ++ [v]) (fun d hd => hb d (List.mem_cons_of_mem _ hd)) hi1 (by rw [List.length_append, List.length_singleton]; omega)
    refine ⟨v :: vs, T2, ?_, by simp [hn], ?_, hi2⟩
    · show (f (φ d) acc T).bind (fun b' S' => loopW own f (l.map φ) b' (wipeS S' own)) = _
      rw [e1]
      show loopW own f (l.map φ) (acc ++ [v]) (wipeS T1 own) = _
      rw [e2, List.append_assoc]
      rfl
    · intro w hw
      rcases List.mem_cons.mp hw with rfl | hw
      · exact hv
      · exact hvs w hw
theorem lcomp_inv {α : Type} (l : List α) (φ : α → D) (I : SS → Prop) (V : OT → Prop) (hit : gd.it S = .ok (l.map φ) S) (hi : I (wipeS S own)) (hb : ∀ d, d ∈ l → ∀ (acc : List OT) T, I T → acc.length < lim → ∃ v T', turnL keep gd e (φ d) acc T = .ok (acc ++ [v]) T' ∧ V v ∧ I (wipeS T' own)) (hl : l.length ≤ lim) :
    ∃ vs T, (dLcomp p keep own e [gd]).v S = .ok (.lst vs) (backL S T own) ∧ vs.length = l.length ∧ (∀ v, v ∈ vs → V v) ∧ I T := by
  obtain ⟨vs, T, e1, hn, hv, hI⟩ := loopW_inv (own := own) (f := turnL keep gd e) (φ := φ) (I := I) (V := V) (l := l) (acc := []) (T := wipeS S own) hb hi (by simpa using hl)
  refine ⟨vs, T, ?_, hn, hv, hI⟩
  show ((gd.it S).bind fun ds S1 => (loopW own (turnL keep gd e) ds [] (wipeS S1 own)).bind fun acc T => R.ok (OT.lst acc) (backL S1 T own)) = _
  rw [hit]
  show ((loopW own (turnL keep gd e) (l.map φ) [] (wipeS S own)).bind fun acc T => R.ok (OT.lst acc) (backL S T own)) = _
  rw [e1]
  rfl
end
theorem sem_add_lst {sup : Str → List Str} {a b : List D} (h : a.length + b.length ≤ lim) : P.add.sem sup [.lst a, .lst b] = some (.lst (a ++ b)) := by
  show Tk.chk (decide (a.length + b.length ≤ lim)) _ = _
  rw [decide_eq_true h]
  rfl
theorem sem_add_tup {sup : Str → List Str} {a b : List D} (h : a.length + b.length ≤ lim) : P.add.sem sup [.tup a, .tup b] = some (.tup (a ++ b)) := by
  show Tk.chk (decide (a.length + b.length ≤ lim)) _ = _
  rw [decide_eq_true h]
  rfl
theorem loopS_brk {kill : List Nat} {f : D → SS → Fl} {d : D} {ds : List D} {S S1 : SS} (h : f d S = .brk S1) : loopS kill f (d :: ds) S = .nx S1 := by
  show (match f d S with
    | .nx S' => loopS kill f ds (wipeS S' kill)
    | .cnt S' => loopS kill f ds (wipeS S' kill)
    | .brk S' => .nx S'
    | r => r) = _
  rw [h]
theorem leaf_ints (b : Int) : ∀ (vs : List OT), (∀ v, v ∈ vs → ∃ i : Int, v = .leaf (.int i) ∧ 0 ≤ i ∧ i ≤ b) → ∃ ms : List Int, vs = leafs (ms.map .int) ∧ ∀ i, i ∈ ms → 0 ≤ i ∧ i ≤ b
  | [], _ => ⟨[], rfl, fun _ h => by cases h⟩
  | v :: vs, h => by
    obtain ⟨i, rfl, h1, h2⟩ := h v List.mem_cons_self
    obtain ⟨ms, rfl, hb⟩ := leaf_ints b vs fun v hv => h v (List.mem_cons_of_mem _ hv)
    refine ⟨i :: ms, rfl, fun j hj => ?_⟩
    rcases List.mem_cons.mp hj with rfl | hj
    · exact ⟨h1, h2⟩
    · exact hb j hj
theorem r_lmark (g : G) (ht : TakeOk g) (hp : PickOk g) (n : Net) (h : n.Ok) (xs : List Int) : ∃ xs' ms, runD g d_law_marking [intT xs, .leaf n.d] = .ok (.leaf (intD ms)) [some (intT xs'), none] ∧ ms.length = n.ps.length ∧ Bnd ms 11 := by
  have key : ∃ vs T, (den g e_law_marking_1).v [.own (intT xs), .own (.leaf n.d), .un] = .ok (.lst vs) (backL [.own (intT xs), .own (.leaf n.d), .un] T [2]) ∧ vs.length = n.ps.length ∧ (∀ v, v ∈ vs → ∃ i : Int, v = .leaf (.int i) ∧ 0 ≤ i ∧ i ≤ 11) ∧ ∃ xs', T = [.own (intT xs'), .own (.leaf n.d), .un] := by
    unfold e_law_marking_1
    rw [den_lcomp]
    refine lcomp_inv n.ps (fun p => .str p) (fun T => ∃ xs', T = [.own (intT xs'), .own (.leaf n.d), .un]) (fun v => ∃ i : Int, v = .leaf (.int i) ∧ 0 ≤ i ∧ i ≤ 11) ?_ ?_ (fun q hq acc T hT hac => ?_) ?_
    · show dit g _ _ _ = _
      rw [dit_seq]
      simp_arith [iSeq, iterD, dEq, names]
    · exact ⟨xs, rfl⟩
    · obtain ⟨xs1, rfl⟩ := hT
      obtain ⟨k, xs2, e1, k1, k2⟩ := ht xs1 12 (by decide)
      obtain ⟨d, xs3, e2, hd⟩ := hp xs2 [.int 0, .int 0, .int 1, .int 1, .int 2, .int k] (.leaf (.lst [.int 0, .int 0, .int 1, .int 1, .int 2, .int k])) (by simp) (.inr rfl)
      refine ⟨.leaf d, [.own (intT xs3), .own (.leaf n.d), .own (.leaf (.str q))], ?_, ?_, xs3, rfl⟩
      · have c7 : 6 ≤ lim := by unfold lim; omega
        simp_arith [turnL, evIfs, noX, hac, e1, e2, c7]
      · simp only [List.mem_cons, List.not_mem_nil, or_false] at hd
        rcases hd with rfl | rfl | rfl | rfl | rfl | rfl
        all_goals exact ⟨_, rfl, by omega, by omega⟩
    · have := h.lp; unfold lim; omega
  obtain ⟨vs, T, e, hn, hv, xs', rfl⟩ := key
  obtain ⟨ms, rfl, hb⟩ := leaf_ints 11 vs hv
  refine ⟨xs', ms, ?_, by simpa [leafs] using hn, hb⟩
  have e1 : intD ms = .tup (ms.map .int) := rfl
  have e2 : backL [.own (intT xs), .own (.leaf n.d), .un] [.own (intT xs'), .own (.leaf n.d), .un] [2] = [.own (intT xs'), .own (.leaf n.d), .un] := rfl
  rw [e2] at e
  rw [runD_eq rfl, e1]
  simp_arith [d_law_marking, e, e_law_marking_1_x]
/-! ### the same, so deep -/
inductive Sm : Nat → D → Prop
  | str {k} (x : Str) : Sm k (.str x)
  | bl {k} (b : Bool) : Sm k (.bl b)
  | int {k} (i : Int) : Sm k (.int i)
  | lst {k} (ds : List D) (hl : ds.length ≤ 10000) (h : ∀ d, d ∈ ds → Sm k d) : Sm (k + 1) (.lst ds)
  | tup {k} (ds : List D) (hl : ds.length ≤ 10000) (h : ∀ d, d ∈ ds → Sm k d) : Sm (k + 1) (.tup ds)
theorem r_same_int (g : G) (x : Int) : runD g d_law_same [.leaf (.int x), .leaf (.int x)] = .ok (.leaf (.bl true)) [none, none] := by
  rw [runD_eq rfl]
  have i1 : (P.isinst ["tuple"]).sem g.sup [.int x] = some (.bl false) := rfl
  have i2 : (P.isinst ["list"]).sem g.sup [.int x] = some (.bl false) := rfl
  have i3 : (P.isinst ["dict"]).sem g.sup [.int x] = some (.bl false) := rfl
  have i4 : (P.isinst ["bool"]).sem g.sup [.int x] = some (.bl false) := rfl
  have i5 : (P.isinst ["int"]).sem g.sup [.int x] = some (.bl true) := rfl
  have i6 : (P.isinst ["str"]).sem g.sup [.int x] = some (.bl false) := rfl
  have n1 : P.ne.sem g.sup [.bl false, .bl false] = some (.bl false) := rfl
  have n2 : P.ne.sem g.sup [.bl true, .bl true] = some (.bl false) := rfl
  simp_arith [d_law_same, i1, i2, i3, i4, i5, i6, n1, n2]
theorem b_sameT (g : G) (ds : List D) (h : ∀ d, d ∈ ds → g.fn "_law_same" [.leaf d, .leaf d] = .ok (.leaf (.bl true)) [none, none]) (k : Nat) (hk : k < ds.length) : dS g [] b_law_same_1 [.own (.leaf (.tup ds)), .own (.leaf (.tup ds)), .own (.leaf (.int (k : Int))), .un] = .nx [.own (.leaf (.tup ds)), .own (.leaf (.tup ds)), .own (.leaf (.int (k : Int))), .un] := by
  have h1 := h ds[k] (List.getElem_mem hk)
  have e1 : atL ds (k : Int) = some ds[k] := by rw [atL_nat hk, List.getElem?_eq_getElem hk]
  simp_arith [b_law_same_1, e1, h1]
theorem r_same_tup (g : G) (ds : List D) (hl : ds.length ≤ 10000) (h : ∀ d, d ∈ ds → g.fn "_law_same" [.leaf d, .leaf d] = .ok (.leaf (.bl true)) [none, none]) : runD g d_law_same [.leaf (.tup ds), .leaf (.tup ds)] = .ok (.leaf (.bl true)) [none, none] := by
  obtain ⟨S', e, rfl⟩ := loopS_inv (kill := [2]) (f := fun d T => match setT (.nm 2) d T with
      | none => .bad
      | some T1 => dS g [] b_law_same_1 T1) (P := fun k S => S = [.own (.leaf (.tup ds)), .own (.leaf (.tup ds)), .un, .un]) 100000 (ds := (List.range ds.length).map fun (i : Nat) => D.int (i : Int)) (k := 0) (S := [.own (.leaf (.tup ds)), .own (.leaf (.tup ds)), .un, .un]) (by
    rintro d hd k S hK rfl
    obtain ⟨i, hi, rfl⟩ := List.mem_map.mp hd
    exact ⟨_, b_sameT g ds h i (List.mem_range.mp hi), rfl⟩) (by simp; omega) rfl
  have e1 : dS g [] l_law_same_1 [.own (.leaf (.tup ds)), .own (.leaf (.tup ds)), .un, .un] = .nx [.own (.leaf (.tup ds)), .own (.leaf (.tup ds)), .un, .un] := by
    rw [← e]
    unfold l_law_same_1
    rw [dS_for]
    have er := range_ok (k := ds.length) (by omega)
    simp_arith [iRange, er]
    try rfl
  rw [runD_eq rfl]
  have i2 : (P.isinst ["list"]).sem g.sup [.tup ds] = some (.bl false) := rfl
  have n1 : P.ne.sem g.sup [.bl false, .bl false] = some (.bl false) := rfl
  have n2 : P.ne.sem g.sup [.bl true, .bl true] = some (.bl false) := rfl
  simp_arith [d_law_same, i2, n1, n2, e1]
/-! ### what is told -/
def no3 : List (Option OT) := [none, none, none]
def flNR : D := .lst [.bl true, .bl false, .bl false, .bl false, .bl false]
def flNT : D := .lst [.bl false, .bl true, .bl false, .bl false, .bl false]
def outNR : OT := .lst [.leaf (.bl true), .leaf (.bl false), .leaf (.bl false), .leaf (.bl false), .leaf (.bl false)]
def outNT : OT := .lst [.leaf (.bl false), .leaf (.bl true), .leaf (.bl false), .leaf (.bl false), .leaf (.bl false)]
def SupOk (g : G) : Prop := ∀ ds S, 3 < S.length → flagsF g.sup "TokenError" 3 ["NotRight", "NotThere", "NoAnswer", "TooLarge", "Malformed"] (.exn "NotRight" [] ds) S = .ret outNR S ∧ flagsF g.sup "TokenError" 3 ["NotRight", "NotThere", "NoAnswer", "TooLarge", "Malformed"] (.exn "NotThere" [] ds) S = .ret outNT S
theorem sup_ok (g : G) (h : g.sup = supOf sl) : SupOk g := by
  intro ds S hS
  rw [h]
  have e1 : (supOf sl "NotRight").isEmpty = false := by kernel_rfl
  have e2 : (supOf sl "NotRight").contains (Str.ofString "TokenError") = true := by kernel_rfl
  have e3 : (["NotRight", "NotThere", "NoAnswer", "TooLarge", "Malformed"] : List Str).map (fun f => OT.leaf (.bl ((supOf sl "NotRight").contains f))) = [.leaf (.bl true), .leaf (.bl false), .leaf (.bl false), .leaf (.bl false), .leaf (.bl false)] := by kernel_rfl
  have e4 : (supOf sl "NotThere").isEmpty = false := by kernel_rfl
  have e5 : (supOf sl "NotThere").contains (Str.ofString "TokenError") = true := by kernel_rfl
  have e6 : (["NotRight", "NotThere", "NoAnswer", "TooLarge", "Malformed"] : List Str).map (fun f => OT.leaf (.bl ((supOf sl "NotThere").contains f))) = [.leaf (.bl false), .leaf (.bl true), .leaf (.bl false), .leaf (.bl false), .leaf (.bl false)] := by kernel_rfl
  constructor
  · unfold flagsF
    dsimp only
    rw [e1]
    dsimp only
    rw [e2]
    dsimp only
    rw [if_pos hS, e3]
    rfl
  · unfold flagsF
    dsimp only
    rw [e4]
    dsimp only
    rw [e5]
    dsimp only
    rw [if_pos hS, e6]
    rfl
section
variable (g : G) (hs : SupOk g) (N X : D)
theorem t2_ok (u : OT) (h : g.fn "turned" [.leaf N] = .ok u [none]) : runD g d_law_told [.leaf (.int 2), .leaf N, .leaf X] = .ok u no3 := by
  rw [runD_eq rfl]
  simp_arith [d_law_told, h, no3]
theorem t0_ok (u : OT) (h : g.fn "sources_of" [.leaf N, .leaf X] = .ok u [none, none]) : runD g d_law_told [.leaf (.int 0), .leaf N, .leaf X] = .ok u no3 := by
  rw [runD_eq rfl]
  simp_arith [d_law_told, h, no3]
theorem t1_ok (u : OT) (h : g.fn "goals_of" [.leaf N, .leaf X] = .ok u [none, none]) : runD g d_law_told [.leaf (.int 1), .leaf N, .leaf X] = .ok u no3 := by
  rw [runD_eq rfl]
  simp_arith [d_law_told, h, no3]
include hs
theorem t2_x (ds : List D) (h : g.fn "turned" [.leaf N] = .exc (.exn "NotRight" [] ds) [none]) : runD g d_law_told [.leaf (.int 2), .leaf N, .leaf X] = .ok outNR no3 := by
  rw [runD_eq rfl]
  have f := (hs ds [.own (.leaf (.int 2)), .own (.leaf N), .own (.leaf X), .un] (by simp)).1
  simp_arith [d_law_told, h, f, no3]
theorem t0_x (ds : List D) (h : g.fn "sources_of" [.leaf N, .leaf X] = .exc (.exn "NotRight" [] ds) [none, none]) : runD g d_law_told [.leaf (.int 0), .leaf N, .leaf X] = .ok outNR no3 := by
  rw [runD_eq rfl]
  have f := (hs ds [.own (.leaf (.int 0)), .own (.leaf N), .own (.leaf X), .un] (by simp)).1
  simp_arith [d_law_told, h, f, no3]
theorem t1_x (ds : List D) (h : g.fn "goals_of" [.leaf N, .leaf X] = .exc (.exn "NotRight" [] ds) [none, none]) : runD g d_law_told [.leaf (.int 1), .leaf N, .leaf X] = .ok outNR no3 := by
  rw [runD_eq rfl]
  have f := (hs ds [.own (.leaf (.int 1)), .own (.leaf N), .own (.leaf X), .un] (by simp)).1
  simp_arith [d_law_told, h, f, no3]
theorem t0_n (ds : List D) (h : g.fn "sources_of" [.leaf N, .leaf X] = .exc (.exn "NotThere" [] ds) [none, none]) : runD g d_law_told [.leaf (.int 0), .leaf N, .leaf X] = .ok outNT no3 := by
  rw [runD_eq rfl]
  have f := (hs ds [.own (.leaf (.int 0)), .own (.leaf N), .own (.leaf X), .un] (by simp)).2
  simp_arith [d_law_told, h, f, no3]
theorem t1_n (ds : List D) (h : g.fn "goals_of" [.leaf N, .leaf X] = .exc (.exn "NotThere" [] ds) [none, none]) : runD g d_law_told [.leaf (.int 1), .leaf N, .leaf X] = .ok outNT no3 := by
  rw [runD_eq rfl]
  have f := (hs ds [.own (.leaf (.int 1)), .own (.leaf N), .own (.leaf X), .un] (by simp)).2
  simp_arith [d_law_told, h, f, no3]
end
end K02
end
section
set_option linter.all false
set_option maxRecDepth 100000
set_option maxHeartbeats 0
/-! The law's turn. -/
namespace K02
open PySem Tk
def su1 : Tk.S := (.asg (.nm 3) (.call "_law_net" [(.bor 1 []), (.cst (.int 6)), (.cst (.int 5))]))
def su2 : Tk.S := (.asg (.nm 4) (.tup [(.prim .idx [(.pl 3 []), (.cst (.int 0))]), (.prim .idx [(.pl 3 []), (.cst (.int 1))]), (.prim .tuple [(.prim .sorted [e_law_1])])]))
def su3 : Tk.S := (.ite (.not_ (.call "_law_same" [(.lst false [(.call "_law_told" [(.cst (.int 2)), (.pl 3 []), (.cst (.int 0))]), (.call "_law_told" [(.cst (.int 2)), (.pl 4 []), (.cst (.int 0))])]), (.lst false [(.pl 4 []), (.pl 3 [])])])) (.ret (.cst (.bl false))) .skip)
def su4 : Tk.S := l_law_1
def su5 : Tk.S := l_law_3
def su6 : Tk.S := (.ite (.not_ (.call "_law_same" [(.lst false [(.call "_law_told" [(.cst (.int 0)), (.pl 3 []), (.cst (.str "q0"))]), (.call "_law_told" [(.cst (.int 1)), (.pl 3 []), (.cst (.str ""))])]), (.prim .mul [(.lst false [(.lst false [(.cst (.bl false)), (.cst (.bl true)), (.cst (.bl false)), (.cst (.bl false)), (.cst (.bl false))])]), (.cst (.int 2))])])) (.ret (.cst (.bl false))) .skip)
def su7 : Tk.S := (.asg (.nm 7) (.call "_law_pick" [(.bor 1 []), (.lst false [(.cst .non), (.tup []), (.tup [(.tup [(.cst (.str "a"))]), (.tup [(.cst (.str "a"))]), (.tup [])]), (.tup [(.tup [(.cst (.str "b")), (.cst (.str "a"))]), (.tup []), (.tup [])]), (.tup [(.tup [(.cst (.str "a"))]), (.tup [(.cst (.str "t"))]), (.tup [(.tup [(.cst (.str "a")), (.cst (.str "t")), (.cst (.int 10))])])]), (.tup [(.tup [(.cst (.str "a"))]), (.tup [(.cst (.str "t"))]), (.tup [(.tup [(.cst (.str "a")), (.cst (.str "t")), (.cst (.int 1))]), (.tup [(.cst (.str "a")), (.cst (.str "t")), (.cst (.int 2))])])])])]))
def su8 : Tk.S := (.ite (.not_ (.call "_law_same" [e_law_9, (.prim .mul [(.lst false [(.lst false [(.cst (.bl true)), (.cst (.bl false)), (.cst (.bl false)), (.cst (.bl false)), (.cst (.bl false))])]), (.cst (.int 3))])])) (.ret (.cst (.bl false))) .skip)
theorem su_eq : b_law_4 = (.seq su1 (.seq su2 (.seq su3 (.seq su4 (.seq su5 (.seq su6 (.seq su7 su8))))))) := rfl
def st1 : Tk.S := (.asg (.nm 9) (.call "_law_marking" [(.bor 1 []), (.pl 3 [])]))
def st2 : Tk.S := (.asg (.nm 10) (.prim .tuple [e_law_4]))
def st3 : Tk.S := (.asgN [12, 13] [(.lst false []), (.pl 9 [])])
def st4 : Tk.S := l_law_2
def st5 : Tk.S := (.asgN [15, 16] [(.prim .tuple [e_law_6]), (.prim .tuple [e_law_7])])
def st6 : Tk.S := (.ite (.not_ (.call "_law_same" [(.lst false [(.call "end_of" [(.pl 3 []), (.pl 9 []), (.pl 12 [])]), (.call "end_of" [(.pl 4 []), (.pl 13 []), (.prim .lrev [(.pl 12 [])])]), (.call "end_of" [(.pl 3 []), (.pl 15 []), (.pl 12 [])]), (.call "is_run" [(.pl 4 []), (.pl 16 []), (.prim .lrev [(.pl 12 [])])])]), (.lst false [(.pl 13 []), (.pl 9 []), (.pl 16 []), (.cst (.bl true))])])) (.ret (.cst (.bl false))) .skip)
def st7 : Tk.S := (.ite (.prim .ne [e_law_8, (.lst false [])]) (.ret (.cst (.bl false))) .skip)
theorem st_eq : b_law_3 = (.seq st1 (.seq st2 (.seq st3 (.seq st4 (.seq st5 (.seq st6 st7)))))) := rfl
def sw1 : Tk.S := (.asg (.nm 14) e_law_5)
def sw2 : Tk.S := (.ite (.prim .eq [(.pl 14 []), (.lst false [])]) .brk .skip)
def sw3 : Tk.S := (.ex (.mut .append false 12 [] [(.call "_law_pick" [(.bor 1 []), (.pl 14 [])])]))
def sw4 : Tk.S := (.asg (.nm 13) (.call "_law_after" [(.pl 3 []), (.pl 13 []), (.prim .idx [(.pl 12 []), (.prim .sub [(.prim .len [(.pl 12 [])]), (.cst (.int 1))])])]))
theorem sw_eq : b_law_2 = (.seq sw1 (.seq sw2 (.seq sw3 sw4))) := rfl
def sv1 : Tk.S := (.asg (.nm 8) (.lst false [(.prim .tuple [(.prim .sorted [e_law_2])]), (.prim .tuple [(.prim .sorted [e_law_3])])]))
def sv2 : Tk.S := (.ite (.not_ (.call "_law_same" [(.lst false [(.call "_law_told" [(.cst (.int 0)), (.pl 3 []), (.pl 5 [])]), (.call "_law_told" [(.cst (.int 1)), (.pl 3 []), (.pl 5 [])]), (.call "_law_told" [(.cst (.int 0)), (.pl 4 []), (.pl 5 [])])]), (.prim .add [(.pl 8 []), (.prim (.slc true false) [(.pl 8 []), (.cst (.int 1))])])])) (.ret (.cst (.bl false))) .skip)
theorem sv_eq : b_law_1 = (.seq sv1 sv2) := rfl
def strD (xs : List Str) : D := .lst (xs.map .str)
def lstS (xs : List Str) : OT := .lst (leafs (xs.map .str))
def badN : List D := [.non, .tup [], .tup [.tup [.str "a"], .tup [.str "a"], .tup []], .tup [.tup [.str "b", .str "a"], .tup [], .tup []], .tup [.tup [.str "a"], .tup [.str "t"], .tup [.tup [.str "a", .str "t", .int 10]]], .tup [.tup [.str "a"], .tup [.str "t"], .tup [.tup [.str "a", .str "t", .int 1], .tup [.str "a", .str "t", .int 2]]]]
structure LawG (g : G) : Prop where
  take : TakeOk g
  pick : PickOk g
  net : ∀ xs, ∃ xs' n, g.fn "_law_net" [intT xs, .leaf (.int 6), .leaf (.int 5)] = .ok (.leaf (Net.d n)) [some (intT xs'), none, none] ∧ NetOk n
  mark : ∀ xs n, NetOk n → ∃ xs' ms, g.fn "_law_marking" [intT xs, .leaf (Net.d n)] = .ok (.leaf (intD ms)) [some (intT xs'), none] ∧ ms.length = n.ps.length ∧ Bnd ms 11
  after : ∀ n : Net, n.Ok → ∀ ms t, ms.length = n.ps.length → g.fn "_law_after" [.leaf n.d, .leaf (intD ms), .leaf (.str t)] = .ok (.leaf (if canB n ms t = true then intD (aft n ms t) else .non)) [none, none, none]
  same : ∀ d, Sm 4 d → g.fn "_law_same" [.leaf d, .leaf d] = .ok (.leaf (.bl true)) [none, none]
  told2 : ∀ n, NetOk n → ∀ X, g.fn "_law_told" [.leaf (.int 2), .leaf n.d, .leaf X] = .ok (.leaf (flip n).d) no3
  told0 : ∀ n, NetOk n → ∀ x, x ∈ n.ps ∨ x ∈ n.ts → g.fn "_law_told" [.leaf (.int 0), .leaf n.d, .leaf (.str x)] = .ok (.leaf (names (srcs n x))) no3
  told1 : ∀ n, NetOk n → ∀ x, x ∈ n.ps ∨ x ∈ n.ts → g.fn "_law_told" [.leaf (.int 1), .leaf n.d, .leaf (.str x)] = .ok (.leaf (names (gls n x))) no3
  told0n : ∀ n, NetOk n → ∀ x, x ∉ n.ps → x ∉ n.ts → g.fn "_law_told" [.leaf (.int 0), .leaf n.d, .leaf (.str x)] = .ok outNT no3
  told1n : ∀ n, NetOk n → ∀ x, x ∉ n.ps → x ∉ n.ts → g.fn "_law_told" [.leaf (.int 1), .leaf n.d, .leaf (.str x)] = .ok outNT no3
  bad0 : ∀ N, N ∈ badN → g.fn "_law_told" [.leaf (.int 0), .leaf N, .leaf (.str "q0")] = .ok outNR no3
  bad1 : ∀ N, N ∈ badN → g.fn "_law_told" [.leaf (.int 1), .leaf N, .leaf (.str "q0")] = .ok outNR no3
  bad2 : ∀ N, N ∈ badN → g.fn "_law_told" [.leaf (.int 2), .leaf N, .leaf (.str "q0")] = .ok outNR no3
  end_ : ∀ n, NetOk n → ∀ ms m', ms.length = n.ps.length → Bnd ms 1000 → ∀ run : List Str, run.length ≤ 50 → go n ms run = some m' → g.fn "end_of" [.leaf n.d, .leaf (intD ms), .leaf (strD run)] = .ok (.leaf (intD m')) [none, none, none]
  isrun : ∀ n, NetOk n → ∀ ms m', ms.length = n.ps.length → Bnd ms 1000 → ∀ run : List Str, run.length ≤ 50 → go n ms run = some m' → g.fn "is_run" [.leaf n.d, .leaf (intD ms), .leaf (strD run)] = .ok (.leaf (.bl true)) [none, none, none]
  steps : ∀ n, NetOk n → ∀ ms, ms.length = n.ps.length → Bnd ms 1000 → g.fn "steps_at" [.leaf n.d, .leaf (intD ms)] = .ok (.lst (leafs ((able n ms).map .str))) [none, none]
/-- the slots of a turn -/
def lawS (is xs : List Int) (a2 a3 a4 a5 a7 a8 : Sl) : SS := [.own (.leaf (.scr is)), .own (intT xs), a2, a3, a4, a5, .un, a7, a8, .un, .un, .un, .un, .un, .un, .un, .un, .un, .un, .un, .un, .un, .un]
theorem sm_names {k : Nat} {xs : List Str} (h : xs.length ≤ 10000) : Sm (k + 1) (names xs) := .tup _ (by simpa using h) fun d hd => by
  obtain ⟨x, _, rfl⟩ := List.mem_map.mp hd
  exact .str x
theorem sm_ints {k : Nat} {xs : List Int} (h : xs.length ≤ 10000) : Sm (k + 1) (intD xs) := .tup _ (by simpa using h) fun d hd => by
  obtain ⟨x, _, rfl⟩ := List.mem_map.mp hd
  exact .int x
theorem sm_net {k : Nat} {n : Net} (h : n.Ok) : Sm (k + 3) n.d := by
  refine .tup _ (by simp) fun d hd => ?_
  simp only [List.mem_cons, List.not_mem_nil, or_false] at hd
  rcases hd with rfl | rfl | rfl
  · exact sm_names (by have := h.lp; omega)
  · exact sm_names (by have := h.lt; omega)
  · refine .tup _ (by have := h.la; simpa using Nat.le_trans this (by decide)) fun d hd => ?_
    obtain ⟨x, _, rfl⟩ := List.mem_map.mp hd
    refine .tup _ (by simp) fun d hd => ?_
    simp only [List.mem_cons, List.not_mem_nil, or_false] at hd
    rcases hd with rfl | rfl | rfl
    · exact .str _
    · exact .str _
    · exact .int _
theorem sm_fl {k : Nat} {d : D} (h : d = flNR ∨ d = flNT) : Sm (k + 1) d := by
  rcases h with rfl | rfl
  all_goals
    refine .lst _ (by simp) fun d hd => ?_
    simp only [List.mem_cons, List.not_mem_nil, or_false] at hd
    rcases hd with rfl | rfl | rfl | rfl | rfl <;> exact .bl _
theorem sem_slT1 {sup : Str → List Str} {ds : List D} : (P.slc true false).sem sup [.lst ds, .int 1] = some (.lst (ds.drop 1)) := by
  show some (D.lst ((ds.drop (min 1 ds.length)).take (ds.length - min 1 ds.length))) = _
  rw [List.take_of_length_le (by rw [List.length_drop]; omega)]
  cases ds with
  | nil => rfl
  | cons a l => rw [show min 1 (a :: l).length = 1 from Nat.min_eq_left (by simp)]
section
variable (g : G) (L : LawG g) (is : List Int) (a2 : Sl)
include L
theorem x_u1 (xs : List Int) : ∃ xs' n, dS g [] su1 (lawS is xs a2 .un .un .un .un .un) = .nx (lawS is xs' a2 (.own (.leaf (Net.d n))) .un .un .un .un) ∧ NetOk n := by
  obtain ⟨xs', n, e, h⟩ := L.net xs
  refine ⟨xs', n, ?_, h⟩
  simp_arith [su1, lawS, e]
variable (xs : List Int) (n : Net) (h : NetOk n)
include h
omit L in
theorem c_u2 : (den g e_law_1).v (lawS is xs a2 (.own (.leaf n.d)) .un .un .un .un) = .ok (.lst (leafs ((n.as.map swap).map Arc.d))) (lawS is xs a2 (.own (.leaf n.d)) .un .un .un .un) := by
  unfold e_law_1
  rw [den_lcomp]
  refine (lcomp_map n.as Arc.d (fun x => .leaf (.tup [.str x.b, .str x.a, .int x.m])) ?_ (fun x hp acc hac => ?_) ?_ ?_).trans ?_
  · show dit g _ _ _ = _
    rw [dit_seq]
    simp_arith [iSeq, iterD, dEq, lawS]
  · have e1 : x.d = .tup [.str x.a, .str x.b, .int x.m] := rfl
    have c3 : 3 ≤ lim := by unfold lim; omega
    unfold lawS
    simp_arith [turnL, evIfs, noX, OkW, e1, hac, c3]
  · have := h.ok.la; unfold lim; omega
  · rfl
  · simp [leafs, swap, Arc.d, Function.comp_def]
omit L in
theorem x_u2 : dS g [] su2 (lawS is xs a2 (.own (.leaf n.d)) .un .un .un .un) = .nx (lawS is xs a2 (.own (.leaf n.d)) (.own (.leaf (flip n).d)) .un .un .un) := by
  have c := c_u2 g is a2 xs n h
  have s := sort_arcs g.sup (n.as.map swap)
  have c3 : 3 ≤ lim := by unfold lim; omega
  have e : (flip n).d = .tup [names n.ps, names n.ts, .tup (((n.as.map swap).mergeSort arcLe).map Arc.d)] := rfl
  rw [e]
  unfold lawS at c ⊢
  rw [dEq] at c ⊢
  simp_arith [su2, c, e_law_1_x, s, c3]
theorem x_u3 : dS g [] su3 (lawS is xs a2 (.own (.leaf n.d)) (.own (.leaf (flip n).d)) .un .un .un) = .nx (lawS is xs a2 (.own (.leaf n.d)) (.own (.leaf (flip n).d)) .un .un .un) := by
  have t1 := L.told2 n h (.int 0)
  have t2 := L.told2 (flip n) (flip_ok h) (.int 0)
  rw [flip_flip h] at t2
  have s1 : Sm 4 (.lst [(flip n).d, n.d]) := by
    refine .lst _ (by simp) fun d hd => ?_
    simp only [List.mem_cons, List.not_mem_nil, or_false] at hd
    rcases hd with rfl | rfl
    · exact sm_net (flip_ok h).ok
    · exact sm_net h.ok
  have s := L.same _ s1
  have c2 : 2 ≤ lim := by unfold lim; omega
  unfold no3 at t1 t2
  unfold lawS
  simp_arith [su3, t1, t2, s, c2]
/-! neighbours -/
omit L in
theorem c_v2 (x : Str) : (den g e_law_2).v (lawS is xs a2 (.own (.leaf n.d)) (.own (.leaf (flip n).d)) (.own (.leaf (.str x))) .un .un) = .ok (lstS (srcs n x)) (lawS is xs a2 (.own (.leaf n.d)) (.own (.leaf (flip n).d)) (.own (.leaf (.str x))) .un .un) := by
  unfold e_law_2
  rw [den_lcomp]
  refine (lcomp_filter n.as Arc.d (fun y => decide (y.b = x)) (fun y => .leaf (.str y.a)) ?_ (fun y hp acc hac => ?_) ?_ ?_).trans ?_
  · show dit g _ _ _ = _
    rw [dit_seq]
    simp_arith [iSeq, iterD, dEq, lawS]
  · have e1 : y.d = .tup [.str y.a, .str y.b, .int y.m] := rfl
    unfold lawS
    by_cases h1 : y.b = x
    · simp_arith [turnL, evIfs, noX, OkW, e1, hac, sem_eq_str, h1]
    · simp_arith [turnL, evIfs, noX, OkW, e1, hac, sem_eq_str, h1]
  · have := h.ok.la; unfold lim; omega
  · rfl
  · simp [leafs, srcs, lstS, Function.comp_def]
omit L in
theorem c_v3 (x : Str) : (den g e_law_3).v (lawS is xs a2 (.own (.leaf n.d)) (.own (.leaf (flip n).d)) (.own (.leaf (.str x))) .un .un) = .ok (lstS (gls n x)) (lawS is xs a2 (.own (.leaf n.d)) (.own (.leaf (flip n).d)) (.own (.leaf (.str x))) .un .un) := by
  unfold e_law_3
  rw [den_lcomp]
  refine (lcomp_filter n.as Arc.d (fun y => decide (y.a = x)) (fun y => .leaf (.str y.b)) ?_ (fun y hp acc hac => ?_) ?_ ?_).trans ?_
  · show dit g _ _ _ = _
    rw [dit_seq]
    simp_arith [iSeq, iterD, dEq, lawS]
  · have e1 : y.d = .tup [.str y.a, .str y.b, .int y.m] := rfl
    unfold lawS
    by_cases h1 : y.a = x
    · simp_arith [turnL, evIfs, noX, OkW, e1, hac, sem_eq_str, h1]
    · simp_arith [turnL, evIfs, noX, OkW, e1, hac, sem_eq_str, h1]
  · have := h.ok.la; unfold lim; omega
  · rfl
  · simp [leafs, gls, lstS, Function.comp_def]
theorem b_law1 (x : Str) (hx : x ∈ n.ps ∨ x ∈ n.ts) : ∃ a8, dS g [] b_law_1 (lawS is xs a2 (.own (.leaf n.d)) (.own (.leaf (flip n).d)) (.own (.leaf (.str x))) .un .un) = .nx (lawS is xs a2 (.own (.leaf n.d)) (.own (.leaf (flip n).d)) (.own (.leaf (.str x))) .un a8) := by
  have c2 := c_v2 g is a2 xs n h x
  have c3 := c_v3 g is a2 xs n h x
  have s2 := sort_strs g.sup (srcs n x)
  have s3 := sort_strs g.sup (gls n x)
  rw [sort_same (srcs_pw h x)] at s2
  rw [sort_same (gls_pw h x)] at s3
  have e2 : names (srcs n x) = .tup ((srcs n x).map .str) := rfl
  have e3 : names (gls n x) = .tup ((gls n x).map .str) := rfl
  have l2 : 2 ≤ lim := by unfold lim; omega
  have l3 : 3 ≤ lim := by unfold lim; omega
  have v1 : dS g [] sv1 (lawS is xs a2 (.own (.leaf n.d)) (.own (.leaf (flip n).d)) (.own (.leaf (.str x))) .un .un) = .nx (lawS is xs a2 (.own (.leaf n.d)) (.own (.leaf (flip n).d)) (.own (.leaf (.str x))) .un (.own (.lst [.leaf (names (srcs n x)), .leaf (names (gls n x))]))) := by
    rw [e2, e3]
    unfold lawS lstS at *
    simp_arith [sv1, c2, c3, e_law_2_x, e_law_3_x, s2, s3, l2, flat_leafs]
  have t0 := L.told0 n h x hx
  have t1 := L.told1 n h x hx
  have t2 := L.told0 (flip n) (flip_ok h) x hx
  rw [srcs_flip h] at t2
  have hls : (srcs n x).length ≤ 10000 := by
    unfold srcs
    rw [List.length_map]
    exact Nat.le_trans (List.length_filter_le _ _) (Nat.le_trans h.ok.la (by decide))
  have hlg : (gls n x).length ≤ 10000 := by
    unfold gls
    rw [List.length_map]
    exact Nat.le_trans (List.length_filter_le _ _) (Nat.le_trans h.ok.la (by decide))
  have s1 : Sm 4 (.lst [names (srcs n x), names (gls n x), names (gls n x)]) := by
    refine .lst _ (by simp) fun d hd => ?_
    simp only [List.mem_cons, List.not_mem_nil, or_false] at hd
    rcases hd with rfl | rfl | rfl
    · exact sm_names hls
    · exact sm_names hlg
    · exact sm_names hlg
  have s := L.same _ s1
  have ad := sem_add_lst (sup := g.sup) (a := [names (srcs n x), names (gls n x)]) (b := [names (gls n x)]) (by simp; unfold lim; omega)
  have sl1 := sem_slT1 (sup := g.sup) (ds := [names (srcs n x), names (gls n x)])
  have dr : List.drop 1 [names (srcs n x), names (gls n x)] = [names (gls n x)] := rfl
  rw [dr] at sl1
  have fl : OT.flat (.lst [.leaf (names (srcs n x)), .leaf (names (gls n x))]) = true := rfl
  refine ⟨.own (.lst [.leaf (names (srcs n x)), .leaf (names (gls n x))]), ?_⟩
  rw [sv_eq, seq_of v1]
  unfold no3 at t0 t1 t2
  unfold lawS
  have al : (List.all [OT.leaf (names (srcs n x)), OT.leaf (names (gls n x))] OT.isLeaf) = true := rfl
  simp_arith [sv2, t0, t1, t2, l3, ad, sl1, s, al, leafs_nil]
end
end K02
end
section
set_option linter.all false
set_option maxRecDepth 100000
set_option maxHeartbeats 0
/-! The law's runs. -/
namespace K02
open PySem Tk
def lawR (is xs : List Int) (a2 : Sl) (n : Net) (a6 a9 a10 a11 a12 a13 a14 a15 a16 : Sl) : SS := [.own (.leaf (.scr is)), .own (intT xs), a2, .own (.leaf n.d), .own (.leaf (flip n).d), .un, a6, .un, .un, a9, a10, a11, a12, a13, a14, a15, a16, .un, .un, .un, .un, .un, .un]
theorem sem_nin_lst {sup : Str → List Str} {x : Str} {xs : List Str} : P.nin.sem sup [.str x, .lst (xs.map .str)] = some (.bl (!decide (x ∈ xs))) := by
  show Tk.chk (D.plain (.str x) && D.plains (xs.map .str)) (.bl (!(xs.map D.str).any fun d => D.eqv d (.str x))) = _
  rw [any_str, show D.plains (xs.map .str) = true from plains_str 59 xs]
  show some (D.bl _) = _
  congr 3
  rw [Bool.eq_iff_iff]
  simp
structure RunOk (n : Net) (ms here : List Int) (run : List Str) (k : Nat) : Prop where
  hh : here.length = n.ps.length
  hb : Bnd here (11 + 9 * run.length)
  hg : go n ms run = some here
  hk : run.length ≤ k
section
variable (g : G) (L : LawG g) (is : List Int) (a2 : Sl) (n : Net) (h : NetOk n) (a6 : Sl)
include L h
theorem x_u4 (xs : List Int) : dS g [] su4 (lawS is xs a2 (.own (.leaf n.d)) (.own (.leaf (flip n).d)) .un .un .un) = .nx (lawS is xs a2 (.own (.leaf n.d)) (.own (.leaf (flip n).d)) .un .un .un) := by
  have hlp := h.ok.lp
  have hlt := h.ok.lt
  obtain ⟨S', e, rfl⟩ := loopS_inv (kill := [5, 8, 20, 21, 22]) (f := fun d T => match setT (.nm 5) d T with
      | none => .bad
      | some T1 => dS g [] b_law_1 T1) (P := fun k S => S = lawS is xs a2 (.own (.leaf n.d)) (.own (.leaf (flip n).d)) .un .un .un) 1000 (ds := (n.ps ++ n.ts).map .str) (k := 0) (S := lawS is xs a2 (.own (.leaf n.d)) (.own (.leaf (flip n).d)) .un .un .un) (by
    rintro d hd k S hK rfl
    obtain ⟨t, ht, rfl⟩ := List.mem_map.mp hd
    obtain ⟨a8, b⟩ := b_law1 g L is a2 xs n h t (List.mem_append.mp ht)
    exact ⟨_, b, by unfold lawS; simp_arith []⟩) (by rw [List.length_map, List.length_append]; omega) rfl
  have hit : dit g false (.seq (.prim .add [(.prim .idx [(.pl 3 []), (.cst (.int 0))]), (.prim .idx [(.pl 3 []), (.cst (.int 1))])])) (lawS is xs a2 (.own (.leaf n.d)) (.own (.leaf (flip n).d)) .un .un .un) = .ok ((n.ps ++ n.ts).map .str) (lawS is xs a2 (.own (.leaf n.d)) (.own (.leaf (flip n).d)) .un .un .un) := by
    have ad := sem_add_tup (sup := g.sup) (a := n.ps.map .str) (b := n.ts.map .str) (by simp; unfold lim; omega)
    rw [List.map_append]
    simp_arith [iSeq, iterD, dEq, names, lawS, ad]
  have hw : wipeS (lawS is xs a2 (.own (.leaf n.d)) (.own (.leaf (flip n).d)) .un .un .un) [5, 8, 20, 21, 22] = lawS is xs a2 (.own (.leaf n.d)) (.own (.leaf (flip n).d)) .un .un .un := by unfold lawS; simp_arith []
  show dS g [] l_law_1 _ = _
  unfold l_law_1
  rw [dS_for, if_neg (by decide), hit, fl_ok', hw]
  exact e
theorem x_w1 (xs : List Int) : ∃ xs' ms, dS g [] st1 (lawR is xs a2 n a6 .un .un .un .un .un .un .un .un) = .nx (lawR is xs' a2 n a6 (.own (.leaf (intD ms))) .un .un .un .un .un .un .un) ∧ ms.length = n.ps.length ∧ Bnd ms 11 := by
  obtain ⟨xs', ms, e, h1, h2⟩ := L.mark xs n h
  refine ⟨xs', ms, ?_, h1, h2⟩
  simp_arith [st1, lawR, e]
theorem x_w2 (xs : List Int) (ms : List Int) : ∃ xs' es, dS g [] st2 (lawR is xs a2 n a6 (.own (.leaf (intD ms))) .un .un .un .un .un .un .un) = .nx (lawR is xs' a2 n a6 (.own (.leaf (intD ms))) (.own (.leaf (intD es))) .un .un .un .un .un .un) ∧ es.length = n.ps.length ∧ ∀ i, i ∈ es → 0 ≤ i ∧ i ≤ 2 := by
  have key : ∃ vs T, (den g e_law_4).v (lawR is xs a2 n a6 (.own (.leaf (intD ms))) .un .un .un .un .un .un .un) = .ok (.lst vs) (backL (lawR is xs a2 n a6 (.own (.leaf (intD ms))) .un .un .un .un .un .un .un) T [17]) ∧ vs.length = n.ps.length ∧ (∀ v, v ∈ vs → ∃ i : Int, v = .leaf (.int i) ∧ 0 ≤ i ∧ i ≤ 2) ∧ ∃ xs', T = lawR is xs' a2 n a6 (.own (.leaf (intD ms))) .un .un .un .un .un .un .un := by
    unfold e_law_4
    rw [den_lcomp]
    refine lcomp_inv n.ps (fun p => .str p) (fun T => ∃ xs', T = lawR is xs' a2 n a6 (.own (.leaf (intD ms))) .un .un .un .un .un .un .un) (fun v => ∃ i : Int, v = .leaf (.int i) ∧ 0 ≤ i ∧ i ≤ 2) ?_ ?_ (fun q hq acc T hT hac => ?_) ?_
    · show dit g _ _ _ = _
      rw [dit_seq]
      simp_arith [iSeq, iterD, dEq, names, lawR]
    · exact ⟨xs, rfl⟩
    · obtain ⟨xs1, rfl⟩ := hT
      obtain ⟨k, xs2, e1, k1, k2⟩ := L.take xs1 3 (by decide)
      refine ⟨.leaf (.int k), (lawR is xs2 a2 n a6 (.own (.leaf (intD ms))) .un .un .un .un .un .un .un).set 17 (.own (.leaf (.str q))), ?_, ⟨k, rfl, k1, by omega⟩, xs2, rfl⟩
      simp_arith [turnL, evIfs, noX, hac, e1, lawR]
    · have := h.ok.lp; unfold lim; omega
  obtain ⟨vs, T, e, hn, hv, xs', rfl⟩ := key
  obtain ⟨es, rfl, hb⟩ := leaf_ints 2 vs hv
  refine ⟨xs', es, ?_, by simpa [leafs] using hn, hb⟩
  have e1 : intD es = .tup (es.map .int) := rfl
  have e2 : backL (lawR is xs a2 n a6 (.own (.leaf (intD ms))) .un .un .un .un .un .un .un) (lawR is xs' a2 n a6 (.own (.leaf (intD ms))) .un .un .un .un .un .un .un) [17] = lawR is xs' a2 n a6 (.own (.leaf (intD ms))) .un .un .un .un .un .un .un := rfl
  rw [e2] at e
  have fl : (leafs (es.map D.int)).all OT.isLeaf = true := flat_leafs
  have e3 : (den g (.prim .tuple [e_law_4])).v (lawR is xs a2 n a6 (.own (.leaf (intD ms))) .un .un .un .un .un .un .un) = .ok (.leaf (intD es)) (lawR is xs' a2 n a6 (.own (.leaf (intD ms))) .un .un .un .un .un .un .un) := by
    rw [e1]
    simp_arith [e, e_law_4_x, fl]
  exact asg_nm e3 rfl (by unfold lawR; simp)
/-- a run so far -/
def runV (is xs : List Int) (a2 : Sl) (n : Net) (a6 : Sl) (ms es here : List Int) (a11 : Sl) (run : List Str) (a14 : Sl) : SS := lawR is xs a2 n a6 (.own (.leaf (intD ms))) (.own (.leaf (intD es))) a11 (.own (lstS run)) (.own (.leaf (intD here))) a14 .un .un
omit L h in
theorem x_w3 (xs ms es : List Int) : dS g [] st3 (lawR is xs a2 n a6 (.own (.leaf (intD ms))) (.own (.leaf (intD es))) .un .un .un .un .un .un) = .nx (runV is xs a2 n a6 ms es ms .un [] .un) := by
  have c0 : 0 ≤ lim := Nat.zero_le _
  have e0 : lstS [] = .lst [] := rfl
  unfold runV
  rw [e0]
  unfold lawR
  have n1 : (12 ∈ [13]) = False := by simp
  have n2 : (13 ∈ ([] : List Nat)) = False := by simp
  simp_arith [st3, c0, valsA, n1, n2]
theorem c_sw1 (xs ms es here : List Int) (hh : here.length = n.ps.length) (d : D) (run : List Str) : (den g e_law_5).v (runV is xs a2 n a6 ms es here (.own (.leaf d)) run .un) = .ok (lstS (able n here)) (runV is xs a2 n a6 ms es here (.own (.leaf d)) run .un) := by
  unfold e_law_5
  rw [den_lcomp]
  refine (lcomp_filter n.ts (fun t => .str t) (canB n here) (fun t => .leaf (.str t)) ?_ (fun t ht acc hac => ?_) ?_ ?_).trans ?_
  · show dit g _ _ _ = _
    rw [dit_seq]
    simp_arith [iSeq, iterD, dEq, names, runV, lawR]
  · have g1 := L.after n h.ok here t hh
    have nn : ¬ intD (aft n here t) = .non := fun e => by cases e
    unfold runV lawR
    by_cases hc : canB n here t = true
    · rw [if_pos hc] at g1
      simp_arith [turnL, evIfs, noX, OkW, hac, g1, nn, hc]
    · rw [if_neg hc] at g1
      have hc' : canB n here t = false := by simpa using hc
      simp_arith [turnL, evIfs, noX, OkW, hac, g1, hc']
  · have := h.ok.lt; unfold lim; omega
  · rfl
  · simp [leafs, lstS, able]
theorem b_law2 (xs ms es here : List Int) (hh : here.length = n.ps.length) (d : D) (run : List Str) (hr : run.length ≤ 100) :
    (dS g [] b_law_2 (runV is xs a2 n a6 ms es here (.own (.leaf d)) run .un) = .brk (runV is xs a2 n a6 ms es here (.own (.leaf d)) run (.own (lstS [])))) ∨
    ∃ xs' t a14, t ∈ n.ts ∧ canB n here t = true ∧ dS g [] b_law_2 (runV is xs a2 n a6 ms es here (.own (.leaf d)) run .un) = .nx (runV is xs' a2 n a6 ms es (aft n here t) (.own (.leaf d)) (run ++ [t]) a14) := by
  rw [sw_eq]
  have s1 : dS g [] sw1 (runV is xs a2 n a6 ms es here (.own (.leaf d)) run .un) = .nx (runV is xs a2 n a6 ms es here (.own (.leaf d)) run (.own (lstS (able n here)))) :=
    asg_nm (c_sw1 g L is a2 n h a6 xs ms es here hh d run) rfl (by unfold runV lawR; simp)
  rw [seq_of s1]
  by_cases hn : able n here = []
  · refine .inl ?_
    rw [hn, dS_seq]
    have eq := eq_nil (sup := g.sup) (ds := []) rfl
    have c0 : 0 ≤ lim := Nat.zero_le _
    unfold runV lawR
    have e0 : lstS [] = .lst [] := rfl
    rw [e0]
    simp_arith [sw2, eq, c0, List.all_nil]
  · refine .inr ?_
    generalize ha : able n here = ab at hn
    have s2 : dS g [] sw2 (runV is xs a2 n a6 ms es here (.own (.leaf d)) run (.own (lstS ab))) = .nx (runV is xs a2 n a6 ms es here (.own (.leaf d)) run (.own (lstS ab))) := by
      have eq := eq_nil (sup := g.sup) (ds := ab.map .str) (plains_str 59 ab)
      have e9 : (ab.map D.str).isEmpty = false := by cases ab with
        | nil => exact absurd rfl hn
        | cons => rfl
      rw [e9] at eq
      have c0 : 0 ≤ lim := Nat.zero_le _
      unfold runV lawR lstS
      simp_arith [sw2, eq, c0, flat_leafs]
    rw [seq_of s2]
    obtain ⟨dd, xs1, e1, hd⟩ := L.pick xs (ab.map .str) (.leaf (.lst (ab.map .str))) (by simpa using hn) (.inr rfl)
    obtain ⟨t, ht, rfl⟩ := List.mem_map.mp hd
    have ht2 : t ∈ n.ts ∧ canB n here t = true := List.mem_filter.mp (show t ∈ able n here from ha ▸ ht)
    refine ⟨xs1, t, .own (.leaf (.lst (ab.map .str))), ht2.1, ht2.2, ?_⟩
    have s3 : dS g [] sw3 (runV is xs a2 n a6 ms es here (.own (.leaf d)) run (.own (lstS ab))) = .nx (runV is xs1 a2 n a6 ms es here (.own (.leaf d)) (run ++ [t]) (.own (.leaf (.lst (ab.map .str))))) := by
      have c6 : (leafs (run.map D.str)).length < lim := by simp only [leafs, List.length_map]; unfold lim; omega
      have e2 : lstS (run ++ [t]) = .lst (leafs (run.map .str) ++ [.leaf (.str t)]) := by simp [leafs, lstS]
      unfold runV
      rw [e2]
      unfold lawR lstS
      simp_arith [sw3, e1, M.fits, c6]
    rw [seq_of s3]
    have hrl : (run ++ [t]).length = run.length + 1 := by simp
    have hlast : atL ((run ++ [t]).map D.str) (((run ++ [t]).length : Int) - 1) = some (.str t) := by
      rw [hrl, show ((run.length + 1 : Nat) : Int) - 1 = (run.length : Int) by omega, atL_map (by simp)]
      simp
    generalize hrun : run ++ [t] = run' at hrl hlast
    have g1 := L.after n h.ok here t hh
    rw [if_pos ht2.2] at g1
    unfold runV lawR lstS
    simp_arith [sw4, flat_leafs, List.length_map, hlast, g1]
theorem l_law2 : ∀ (l : List D) (xs ms es here : List Int) (run : List Str), RunOk n ms here run 9 → run.length + l.length ≤ 9 → ∃ xs' here' run' a11 a14, loopS [11, 14] (fun d T => match setT (.nm 11) d T with
      | none => .bad
      | some T1 => dS g [] b_law_2 T1) l (runV is xs a2 n a6 ms es here .un run .un) = .nx (runV is xs' a2 n a6 ms es here' a11 run' a14) ∧ RunOk n ms here' run' 9 ∧ (a11 = .un ∨ ∃ d, a11 = .own (.leaf d))
  | [], xs, ms, es, here, run, ho, _ => ⟨xs, here, run, .un, .un, rfl, ho, .inl rfl⟩
  | d :: l, xs, ms, es, here, run, ho, hk => by
    rw [List.length_cons] at hk
    have e0 : ∀ S, (fun d T => match setT (.nm 11) d T with
      | none => .bad
      | some T1 => dS g [] b_law_2 T1) d (runV is xs a2 n a6 ms es here .un run .un) = S ↔ dS g [] b_law_2 (runV is xs a2 n a6 ms es here (.own (.leaf d)) run .un) = S := fun S => Iff.rfl
    rcases b_law2 g L is a2 n h a6 xs ms es here ho.hh d run (by omega) with b | ⟨xs1, t, a14, ht, hc, b⟩
    · exact ⟨xs, here, run, _, _, loopS_brk ((e0 _).mpr b), ho, .inr ⟨d, rfl⟩⟩
    · have ho1 : RunOk n ms (aft n here t) (run ++ [t]) 9 := ⟨aft_len ho.hh, by
        have := aft_bd h.ok ho.hh ho.hb hc
        rw [List.length_append, List.length_singleton, show 11 + 9 * (run.length + 1) = 11 + 9 * run.length + 9 by omega]
        exact this, by rw [go_app ho.hg, if_pos ⟨ht, hc⟩], by rw [List.length_append, List.length_singleton]; omega⟩
      rw [loopS_cons ((e0 _).mpr b)]
      exact l_law2 l xs1 ms es (aft n here t) (run ++ [t]) ho1 (by rw [List.length_append, List.length_singleton]; omega)
theorem x_w4 (xs ms es : List Int) (hl : ms.length = n.ps.length) (hb : Bnd ms 11) : ∃ xs' here run a11 a14, dS g [] st4 (runV is xs a2 n a6 ms es ms .un [] .un) = .nx (runV is xs' a2 n a6 ms es here a11 run a14) ∧ RunOk n ms here run 9 ∧ (a11 = .un ∨ ∃ d, a11 = .own (.leaf d)) := by
  obtain ⟨k, xs1, e1, k1, k2⟩ := L.take xs 9 (by decide)
  have ho : RunOk n ms ms [] 9 := ⟨hl, hb, rfl, Nat.zero_le _⟩
  obtain ⟨xs', here, run, a11, a14, e2, h2, h3⟩ := l_law2 g L is a2 n h a6 ((List.range k.toNat).map fun (i : Nat) => D.int (i : Int)) xs1 ms es ms [] ho (by simp; omega)
  refine ⟨xs', here, run, a11, a14, ?_, h2, h3⟩
  show dS g [] l_law_2 _ = _
  rw [← e2]
  unfold l_law_2
  rw [dS_for]
  have hit : dit g false (.range [.call "_law_take" [.bor 1 [], .cst (.int 9)]]) (runV is xs a2 n a6 ms es ms .un [] .un) = .ok ((List.range k.toNat).map fun (k : Nat) => .int (k : Int)) (runV is xs1 a2 n a6 ms es ms .un [] .un) := by
    have ek : ((k.toNat : Nat) : Int) = k := by omega
    simp only [dit_range, dens_cons, dens_nil]
    exact range_hit (by omega) (by unfold runV lawR; simp_arith [e1, ek])
  rw [hit]
  rfl
end
end K02
end
section
set_option linter.all false
set_option maxRecDepth 100000
set_option maxHeartbeats 0
/-! The law's runs, to their end. -/
namespace K02
open PySem Tk
/-- a run's slots with what is great -/
def farV (is xs : List Int) (a2 : Sl) (n : Net) (a6 : Sl) (ms es here : List Int) (a11 a12 a14 a15 a16 : Sl) : SS := lawR is xs a2 n a6 (.own (.leaf (intD ms))) (.own (.leaf (intD es))) a11 a12 (.own (.leaf (intD here))) a14 a15 a16
theorem addV_range {a b : List Int} (h : a.length = b.length) : ((List.range b.length).map fun (k : Nat) => a.getD k 0 + b.getD k 0) = addV a b := by
  apply List.ext_getElem
  · rw [List.length_map, List.length_range, addV_len h, h]
  · intro k h1 h2
    rw [List.length_map, List.length_range] at h1
    have ha : k < a.length := by omega
    rw [addV_get h2 ha h1]
    simp [List.getD_eq_getElem?_getD, List.getElem?_eq_getElem ha, List.getElem?_eq_getElem h1]
section
variable (g : G) (L : LawG g) (is : List Int) (a2 : Sl) (n : Net) (h : NetOk n) (a6 : Sl) (xs ms es here : List Int) (a11 a12 : Sl) (run : List Str) (a14 : Sl)
theorem getI' {ms : List Int} {k : Nat} (h : k < ms.length) : atL (ms.map D.int) (k : Int) = some (.int (ms.getD k 0)) := by
  rw [atL_map h, List.getD_eq_getElem?_getD, List.getElem?_eq_getElem h]
  rfl
theorem c_fst (hm : ms.length = es.length) (hk : es.length ≤ 1000) : (den g e_law_6).v (farV is xs a2 n a6 ms es here a11 a12 a14 .un .un) = .ok (.lst (leafs ((addV ms es).map .int))) (farV is xs a2 n a6 ms es here a11 a12 a14 .un .un) := by
  unfold e_law_6
  rw [den_lcomp]
  refine (lcomp_map (List.range es.length) (fun (k : Nat) => .int (k : Int)) (fun (k : Nat) => .leaf (.int (ms.getD k 0 + es.getD k 0))) ?_ (fun k hk acc hac => ?_) ?_ ?_).trans ?_
  · simp only [dit_range, dens_cons, dens_nil]
    exact range_hit (by omega) (by unfold farV lawR intD; simp_arith [List.length_map])
  · have hk := List.mem_range.mp hk
    have x1 := getI' (ms := ms) (k := k) (by omega)
    have x2 := getI' (ms := es) (k := k) hk
    unfold farV lawR intD
    simp_arith [turnL, evIfs, noX, OkW, hac, x1, x2]
  · rw [List.length_range]; unfold lim; omega
  · rfl
  · rw [← addV_range hm]
    simp [leafs, Function.comp_def]
theorem c_snd (hm : here.length = es.length) (hk : es.length ≤ 1000) : (den g e_law_7).v (farV is xs a2 n a6 ms es here a11 a12 a14 .un .un) = .ok (.lst (leafs ((addV here es).map .int))) (farV is xs a2 n a6 ms es here a11 a12 a14 .un .un) := by
  unfold e_law_7
  rw [den_lcomp]
  refine (lcomp_map (List.range es.length) (fun (k : Nat) => .int (k : Int)) (fun (k : Nat) => .leaf (.int (here.getD k 0 + es.getD k 0))) ?_ (fun k hk acc hac => ?_) ?_ ?_).trans ?_
  · simp only [dit_range, dens_cons, dens_nil]
    exact range_hit (by omega) (by unfold farV lawR intD; simp_arith [List.length_map])
  · have hk := List.mem_range.mp hk
    have x1 := getI' (ms := here) (k := k) (by omega)
    have x2 := getI' (ms := es) (k := k) hk
    unfold farV lawR intD
    simp_arith [turnL, evIfs, noX, OkW, hac, x1, x2]
  · rw [List.length_range]; unfold lim; omega
  · rfl
  · rw [← addV_range hm]
    simp [leafs, Function.comp_def]
def farW (is xs : List Int) (a2 : Sl) (n : Net) (a6 : Sl) (ms es here : List Int) (a11 a12 a14 : Sl) : SS := farV is xs a2 n a6 ms es here a11 a12 a14 (.own (.leaf (intD (addV ms es)))) (.own (.leaf (intD (addV here es))))
theorem x_w5 (hm : ms.length = es.length) (hh : here.length = es.length) (hk : es.length ≤ 1000) : dS g [] st5 (farV is xs a2 n a6 ms es here a11 a12 a14 .un .un) = .nx (farW is xs a2 n a6 ms es here a11 a12 a14) := by
  have c1 := c_fst g is a2 n a6 xs ms es here a11 a12 a14 hm hk
  have c2 := c_snd g is a2 n a6 xs ms es here a11 a12 a14 hh hk
  have n1 : (15 ∈ [16]) = False := by simp
  have n2 : (16 ∈ ([] : List Nat)) = False := by simp
  have i1 : intD (addV ms es) = .tup ((addV ms es).map .int) := rfl
  have i2 : intD (addV here es) = .tup ((addV here es).map .int) := rfl
  unfold farW
  rw [i1, i2]
  unfold farV lawR at *
  simp_arith [st5, c1, c2, e_law_6_x, e_law_7_x, flat_leafs, valsA, n1, n2]
include L h in
theorem x_w6 (hl : ms.length = n.ps.length) (hb : Bnd ms 11) (he : es.length = n.ps.length) (h0 : ∀ i, i ∈ es → 0 ≤ i ∧ i ≤ 2) (ho : RunOk n ms here run 9) : dS g [] st6 (farW is xs a2 n a6 ms es here a11 (.own (lstS run)) a14) = .nx (farW is xs a2 n a6 ms es here a11 (.own (.leaf (strD run))) a14) := by
  have hlp := h.ok.lp
  have r9 := ho.hk
  have badd : ∀ {v : List Int} {k : Nat}, v.length = es.length → Bnd v k → Bnd (addV v es) (k + 2) := fun {v k} hv hb i hi => by
    obtain ⟨j, hj, rfl⟩ := List.mem_iff_getElem.mp hi
    have hj1 : j < v.length := by rw [addV_len hv] at hj; exact hj
    have := hb v[j] (List.getElem_mem hj1)
    have := h0 es[j] (List.getElem_mem (by omega))
    rw [addV_get hj hj1 (by omega)]
    omega
  have up : ∀ {v : List Int} {k m : Nat}, k ≤ m → Bnd v k → Bnd v m := fun {v k m} hkm hb i hi => by have := hb i hi; omega
  have b1 : Bnd here 92 := up (by omega) ho.hb
  have bk := go_back hl ho.hg
  have hlf : (flip n).ps.length = n.ps.length := rfl
  have m1 := go_more he (fun i hi => (h0 i hi).1) hl ho.hg
  have m2 := go_more (n := flip n) (e := es) (by rw [hlf]; exact he) (fun i hi => (h0 i hi).1) (by rw [hlf]; exact ho.hh) bk
  have t1 := L.end_ n h ms here hl (up (by omega) hb) run (by omega) ho.hg
  have t2 := L.end_ (flip n) (flip_ok h) here ms (by rw [hlf]; exact ho.hh) (up (by omega) b1) run.reverse (by rw [List.length_reverse]; omega) bk
  have t3 := L.end_ n h (addV ms es) (addV here es) (by rw [addV_len (hl.trans he.symm)]; exact hl) (up (by omega) (badd (hl.trans he.symm) hb)) run (by omega) m1
  have t4 := L.isrun (flip n) (flip_ok h) (addV here es) (addV ms es) (by rw [hlf, addV_len (ho.hh.trans he.symm)]; exact ho.hh) (up (by omega) (badd (ho.hh.trans he.symm) b1)) run.reverse (by rw [List.length_reverse]; omega) m2
  have l1 : (addV here es).length ≤ 10000 := by rw [addV_len (ho.hh.trans he.symm), ho.hh]; omega
  have s1 : Sm 4 (.lst [intD here, intD ms, intD (addV here es), .bl true]) := by
    refine .lst _ (by simp) fun d hd => ?_
    simp only [List.mem_cons, List.not_mem_nil, or_false] at hd
    rcases hd with rfl | rfl | rfl | rfl
    · exact sm_ints (by rw [ho.hh]; omega)
    · exact sm_ints (by rw [hl]; omega)
    · exact sm_ints l1
    · exact .bl _
  have s := L.same _ s1
  have c4 : 4 ≤ lim := by unfold lim; omega
  have rv : (run.map D.str).reverse = run.reverse.map D.str := by rw [List.map_reverse]
  unfold strD at t1 t2 t3 t4 ⊢
  unfold farW farV lawR lstS
  simp_arith [st6, t1, t2, t3, t4, s, c4, flat_leafs, rv]
include L h in
theorem x_w7 (hl : ms.length = n.ps.length) (hb : Bnd ms 11) (he : es.length = n.ps.length) (h0 : ∀ i, i ∈ es → 0 ≤ i ∧ i ≤ 2) (h11 : a11 = .un ∨ ∃ d, a11 = .own (.leaf d)) : dS g [] st7 (farW is xs a2 n a6 ms es here a11 a12 a14) = .nx (farW is xs a2 n a6 ms es here a11 a12 a14) := by
  have badd : Bnd (addV ms es) 13 := fun i hi => by
    have hv := hl.trans he.symm
    obtain ⟨j, hj, rfl⟩ := List.mem_iff_getElem.mp hi
    have hj1 : j < ms.length := by rw [addV_len hv] at hj; exact hj
    have := hb ms[j] (List.getElem_mem hj1)
    have := h0 es[j] (List.getElem_mem (by omega))
    rw [addV_get hj hj1 (by omega)]
    omega
  have up : ∀ {v : List Int} {k m : Nat}, k ≤ m → Bnd v k → Bnd v m := fun {v k m} hkm hb i hi => by have := hb i hi; omega
  have t1 := L.steps n h ms hl (up (by omega) hb)
  have t2 := L.steps n h (addV ms es) (by rw [addV_len (hl.trans he.symm)]; exact hl) (up (by omega) badd)
  have sub : ∀ t, t ∈ able n ms → t ∈ able n (addV ms es) := fun t ht => by
    have ht := List.mem_filter.mp ht
    exact List.mem_filter.mpr ⟨ht.1, (more1 hl he (fun i hi => (h0 i hi).1) ht.2).1⟩
  have key : (den g e_law_8).v (farW is xs a2 n a6 ms es here a11 a12 a14) = .ok (.lst []) (farW is xs a2 n a6 ms es here a11 a12 a14) := by
    unfold e_law_8
    rw [den_lcomp]
    refine (lcomp_filter (able n ms) (fun t => .str t) (fun _ => false) (fun t => .leaf (.str t)) ?_ (fun t ht acc hac => ?_) ?_ ?_).trans ?_
    · show dit g _ _ _ = _
      rw [dit_seq]
      unfold farW farV lawR
      simp_arith [iSeq, iterD, t1, flat_leafs]
    · have ns := sem_nin_lst (sup := g.sup) (x := t) (xs := able n (addV ms es))
      have e1 : (!decide (t ∈ able n (addV ms es))) = false := by rw [decide_eq_true (sub t ht)]; rfl
      rw [e1] at ns
      unfold farW farV lawR
      simp_arith [turnL, evIfs, noX, OkW, hac, t2, ns, flat_leafs]
    · have := h.ok.lt
      have : (able n ms).length ≤ n.ts.length := List.length_filter_le _ _
      unfold lim; omega
    · rcases h11 with rfl | ⟨d, rfl⟩
      · rfl
      · rfl
    · have : (able n ms).filter (fun _ => false) = [] := by simp
      rw [this]
      rfl
  have ne : P.ne.sem g.sup [.lst [], .lst []] = some (.bl false) := rfl
  have c0 : 0 ≤ lim := Nat.zero_le _
  unfold farW farV lawR at *
  simp_arith [st7, key, e_law_8_x, ne, c0, List.all_nil]
end
end K02
end
section
set_option linter.all false
set_option maxRecDepth 100000
set_option maxHeartbeats 0
/-! The law's turn, whole. -/
namespace K02
open PySem Tk
section
variable (g : G) (L : LawG g) (is : List Int) (a2 : Sl) (n : Net) (h : NetOk n)
include L h
theorem b_law3 (a6 : Sl) (xs : List Int) : ∃ xs' S', dS g [] b_law_3 (lawR is xs a2 n a6 .un .un .un .un .un .un .un .un) = .nx S' ∧ wipeS S' [6, 9, 10, 11, 12, 13, 14, 15, 16, 17, 19] = lawR is xs' a2 n .un .un .un .un .un .un .un .un .un := by
  obtain ⟨x1, ms, e1, hl, hb⟩ := x_w1 g L is a2 n h a6 xs
  obtain ⟨x2, es, e2, he, h0⟩ := x_w2 g L is a2 n h a6 x1 ms
  have e3 := x_w3 g is a2 n a6 x2 ms es
  obtain ⟨x4, here, run, a11, a14, e4, ho, h11⟩ := x_w4 g L is a2 n h a6 x2 ms es hl hb
  have hlp := h.ok.lp
  have e5 := x_w5 g is a2 n a6 x4 ms es here a11 (.own (lstS run)) a14 (hl.trans he.symm) (ho.hh.trans he.symm) (by omega)
  have e6 := x_w6 g L is a2 n h a6 x4 ms es here a11 run a14 hl hb he h0 ho
  have e7 := x_w7 g L is a2 n h a6 x4 ms es here a11 (.own (.leaf (strD run))) a14 hl hb he h0 h11
  have c4 : runV is x4 a2 n a6 ms es here a11 run a14 = farV is x4 a2 n a6 ms es here a11 (.own (lstS run)) a14 .un .un := rfl
  rw [c4] at e4
  have E : dS g [] b_law_3 (lawR is xs a2 n a6 .un .un .un .un .un .un .un .un) = .nx (farW is x4 a2 n a6 ms es here a11 (.own (.leaf (strD run))) a14) := by
    rw [st_eq, seq_of e1, seq_of e2, seq_of e3, seq_of e4, seq_of e5, seq_of e6]
    exact e7
  exact ⟨x4, _, E, by unfold farW farV lawR; simp_arith []⟩
theorem x_u5 (xs : List Int) : ∃ xs', dS g [] su5 (lawS is xs a2 (.own (.leaf n.d)) (.own (.leaf (flip n).d)) .un .un .un) = .nx (lawS is xs' a2 (.own (.leaf n.d)) (.own (.leaf (flip n).d)) .un .un .un) := by
  have c0 : ∀ xs, lawS is xs a2 (.own (.leaf n.d)) (.own (.leaf (flip n).d)) .un .un .un = lawR is xs a2 n .un .un .un .un .un .un .un .un .un := fun _ => rfl
  rw [c0]
  simp only [c0]
  obtain ⟨S', e, xs', rfl⟩ := loopS_inv (kill := [6, 9, 10, 11, 12, 13, 14, 15, 16, 17, 19]) (f := fun d T => match setT (.nm 6) d T with
      | none => .bad
      | some T1 => dS g [] b_law_3 T1) (P := fun k S => ∃ xs', S = lawR is xs' a2 n .un .un .un .un .un .un .un .un .un) 100 (ds := rangeD 0 3) (k := 0) (S := lawR is xs a2 n .un .un .un .un .un .un .un .un .un) (by
    rintro d _ k S hK ⟨xs1, rfl⟩
    obtain ⟨xs2, S2, e, w⟩ := b_law3 g L is a2 n h (.own (.leaf d)) xs1
    exact ⟨S2, e, xs2, w⟩) (by decide) ⟨xs, rfl⟩
  refine ⟨xs', ?_⟩
  have hit : dit g false (.range [.cst (.int 3)]) (lawR is xs a2 n .un .un .un .un .un .un .un .un .un) = .ok (rangeD 0 3) (lawR is xs a2 n .un .un .un .un .un .un .un .un .un) := by
    have er : range? [.int 3] = some (rangeD 0 3) := range_nat (k := 3) (by decide)
    simp_arith [iRange, er]
  have hw : wipeS (lawR is xs a2 n .un .un .un .un .un .un .un .un .un) [6, 9, 10, 11, 12, 13, 14, 15, 16, 17, 19] = lawR is xs a2 n .un .un .un .un .un .un .un .un .un := by unfold lawR; simp_arith []
  show dS g [] l_law_3 _ = _
  unfold l_law_3
  rw [dS_for, if_neg (by decide), hit, fl_ok', hw]
  exact e
omit L in
theorem not_in {x : Str} (h1 : x ∉ nmP) (h2 : x ∉ nmT) : x ∉ n.ps ∧ x ∉ n.ts := ⟨fun z => h1 (h.hp.subset z), fun z => h2 (h.ht.subset z)⟩
theorem x_u6 (xs : List Int) : dS g [] su6 (lawS is xs a2 (.own (.leaf n.d)) (.own (.leaf (flip n).d)) .un .un .un) = .nx (lawS is xs a2 (.own (.leaf n.d)) (.own (.leaf (flip n).d)) .un .un .un) := by
  obtain ⟨q1, q2⟩ := not_in n h (x := Str.ofString "q0") (by decide +kernel) (by decide +kernel)
  obtain ⟨q3, q4⟩ := not_in n h (x := Str.ofString "") (by decide +kernel) (by decide +kernel)
  have t0 := L.told0n n h _ q1 q2
  have t1 := L.told1n n h _ q3 q4
  have s1 : Sm 4 (.lst [flNT, flNT]) := by
    refine .lst _ (by simp) fun d hd => ?_
    simp only [List.mem_cons, List.not_mem_nil, or_false] at hd
    rcases hd with rfl | rfl
    · exact sm_fl (.inr rfl)
    · exact sm_fl (.inr rfl)
  have s := L.same _ s1
  have m1 : P.mul.sem g.sup [.lst [flNT], .int 2] = some (.lst [flNT, flNT]) := by kernel_rfl
  have c1 : 1 ≤ lim := by unfold lim; omega
  have c2 : 2 ≤ lim := by unfold lim; omega
  have c5 : 5 ≤ lim := by unfold lim; omega
  unfold no3 outNT at t0 t1
  unfold flNT at m1 s
  unfold lawS
  simp_arith [su6, t0, t1, s, m1, c1, c2, c5]
theorem x_u7 (xs : List Int) : ∃ xs' N, N ∈ badN ∧ dS g [] su7 (lawS is xs a2 (.own (.leaf n.d)) (.own (.leaf (flip n).d)) .un .un .un) = .nx (lawS is xs' a2 (.own (.leaf n.d)) (.own (.leaf (flip n).d)) .un (.own (.leaf N)) .un) := by
  obtain ⟨N, xs1, e1, hN⟩ := L.pick xs badN (.leaf (.lst badN)) (by simp [badN]) (.inr rfl)
  refine ⟨xs1, N, hN, ?_⟩
  have c0 : 0 ≤ lim := Nat.zero_le _
  have c1 : 1 ≤ lim := by unfold lim; omega
  have c2 : 2 ≤ lim := by unfold lim; omega
  have c3 : 3 ≤ lim := by unfold lim; omega
  have c6 : 6 ≤ lim := by unfold lim; omega
  unfold badN at e1
  unfold lawS
  simp_arith [su7, e1, c0, c1, c2, c3, c6]
theorem x_u8 (xs : List Int) (N : D) (hN : N ∈ badN) : dS g [] su8 (lawS is xs a2 (.own (.leaf n.d)) (.own (.leaf (flip n).d)) .un (.own (.leaf N)) .un) = .nx (lawS is xs a2 (.own (.leaf n.d)) (.own (.leaf (flip n).d)) .un (.own (.leaf N)) .un) := by
  have t0 := L.bad0 N hN
  have t1 := L.bad1 N hN
  have t2 := L.bad2 N hN
  have key : (den g e_law_9).v (lawS is xs a2 (.own (.leaf n.d)) (.own (.leaf (flip n).d)) .un (.own (.leaf N)) .un) = .ok (.lst (leafs [flNR, flNR, flNR])) (lawS is xs a2 (.own (.leaf n.d)) (.own (.leaf (flip n).d)) .un (.own (.leaf N)) .un) := by
    unfold e_law_9
    rw [den_lcomp]
    refine (lcomp_map [0, 1, 2] (fun (k : Int) => .int k) (fun _ => .leaf flNR) ?_ (fun k hk acc hac => ?_) ?_ ?_).trans ?_
    · show dit g _ _ _ = _
      have er : range? [.int 3] = some (rangeD 0 3) := range_nat (k := 3) (by decide)
      unfold lawS
      simp_arith [iRange, er]
      try rfl
    · have tk : g.fn "_law_told" [.leaf (.int k), .leaf N, .leaf (.str "q0")] = .ok outNR no3 := by
        simp only [List.mem_cons, List.not_mem_nil, or_false] at hk
        rcases hk with rfl | rfl | rfl
        · exact t0
        · exact t1
        · exact t2
      unfold no3 outNR at tk
      unfold lawS flNR
      simp_arith [turnL, evIfs, noX, OkW, hac, tk]
    · simp [lim]
    · rfl
    · rfl
  have s1 : Sm 4 (.lst [flNR, flNR, flNR]) := by
    refine .lst _ (by simp) fun d hd => ?_
    simp only [List.mem_cons, List.not_mem_nil, or_false] at hd
    rcases hd with rfl | rfl | rfl
    all_goals exact sm_fl (.inl rfl)
  have s := L.same _ s1
  have m1 : P.mul.sem g.sup [.lst [flNR], .int 3] = some (.lst [flNR, flNR, flNR]) := by kernel_rfl
  have c1 : 1 ≤ lim := by unfold lim; omega
  have c5 : 5 ≤ lim := by unfold lim; omega
  have lf : leafs [flNR, flNR, flNR] = [.leaf flNR, .leaf flNR, .leaf flNR] := rfl
  rw [lf] at key
  unfold flNR at m1 s key
  unfold lawS at *
  simp_arith [su8, key, e_law_9_x, s, m1, c1, c5]
end
section
variable (g : G) (L : LawG g) (is : List Int)
include L
theorem x_turn (a2 : Sl) (xs : List Int) : ∃ xs' S', dS g [] b_law_4 (lawS is xs a2 .un .un .un .un .un) = .nx S' ∧ wipeS S' [2, 3, 4, 5, 6, 7, 8, 9, 10, 11, 12, 13, 14, 15, 16, 17, 18, 19, 20, 21, 22] = lawS is xs' .un .un .un .un .un .un := by
  obtain ⟨x1, n, e1, h⟩ := x_u1 g L is a2 xs
  have e2 := x_u2 g is a2 x1 n h
  have e3 := x_u3 g L is a2 x1 n h
  have e4 := x_u4 g L is a2 n h x1
  obtain ⟨x5, e5⟩ := x_u5 g L is a2 n h x1
  have e6 := x_u6 g L is a2 n h x5
  obtain ⟨x7, N, hN, e7⟩ := x_u7 g L is a2 n h x5
  have e8 := x_u8 g L is a2 n h x7 N hN
  have E : dS g [] b_law_4 (lawS is xs a2 .un .un .un .un .un) = .nx (lawS is x7 a2 (.own (.leaf n.d)) (.own (.leaf (flip n).d)) .un (.own (.leaf N)) .un) := by
    rw [su_eq, seq_of e1, seq_of e2, seq_of e3, seq_of e4, seq_of e5, seq_of e6, seq_of e7]
    exact e8
  exact ⟨x7, _, E, by unfold lawS; simp_arith []⟩
theorem x_turns (xs : List Int) : ∃ xs', dS g [] l_law_4 (lawS is xs .un .un .un .un .un .un) = .nx (lawS is xs' .un .un .un .un .un .un) := by
  obtain ⟨S', e, xs', rfl⟩ := loopS_inv (kill := [2, 3, 4, 5, 6, 7, 8, 9, 10, 11, 12, 13, 14, 15, 16, 17, 18, 19, 20, 21, 22]) (f := fun d T => match setT (.nm 2) d T with
      | none => .bad
      | some T1 => dS g [] b_law_4 T1) (P := fun k S => ∃ xs', S = lawS is xs' .un .un .un .un .un .un) 100 (ds := rangeD 0 4) (k := 0) (S := lawS is xs .un .un .un .un .un .un) (by
    rintro d _ k S hK ⟨xs1, rfl⟩
    obtain ⟨xs2, S2, e, w⟩ := x_turn g L is (.own (.leaf d)) xs1
    exact ⟨S2, e, xs2, w⟩) (by decide) ⟨xs, rfl⟩
  refine ⟨xs', ?_⟩
  have hit : dit g false (.range [.cst (.int 4)]) (lawS is xs .un .un .un .un .un .un) = .ok (rangeD 0 4) (lawS is xs .un .un .un .un .un .un) := by
    have er : range? [.int 4] = some (rangeD 0 4) := range_nat (k := 4) (by decide)
    simp_arith [iRange, er]
  have hw : wipeS (lawS is xs .un .un .un .un .un .un) [2, 3, 4, 5, 6, 7, 8, 9, 10, 11, 12, 13, 14, 15, 16, 17, 18, 19, 20, 21, 22] = lawS is xs .un .un .un .un .un .un := by unfold lawS; simp_arith []
  unfold l_law_4
  rw [dS_for, if_neg (by decide), hit, fl_ok', hw]
  exact e
theorem r_law (h : ∃ xs, g.fn "_law_draws" [.leaf (.scr is)] = .ok (intT xs) [none]) : runD g d_law [.leaf (.scr is)] = .ok (.leaf (.bl true)) [none] := by
  obtain ⟨xs, e1⟩ := h
  obtain ⟨xs', e2⟩ := x_turns g L is xs
  have s1 : dS g [] (.asg (.nm 1) (.call "_law_draws" [(.pl 0 [])])) [.own (.leaf (.scr is)), .un, .un, .un, .un, .un, .un, .un, .un, .un, .un, .un, .un, .un, .un, .un, .un, .un, .un, .un, .un, .un, .un] = .nx (lawS is xs .un .un .un .un .un .un) := by
    unfold lawS
    simp_arith [e1]
  have s3 : dS g [] (.ret (.cst (.bl true))) (lawS is xs' .un .un .un .un .un .un) = .ret (.leaf (.bl true)) (lawS is xs' .un .un .un .un .un .un) := by
    simp_arith []
  exact runD_ret rfl rfl ((seq_of s1).trans ((seq_of e2).trans s3)) rfl
end
end K02
end
section
set_option linter.all false
set_option maxRecDepth 100000
set_option maxHeartbeats 0
/-! All specs, by depth. -/
namespace K02
open PySem Tk
def GG (k : Nat) : G := gl tab (supOf sl) 0 k
theorem gg {F : Str} {d : Def} (h : lookT F tab = some d) {k : Nat} (hk : 1 ≤ k) (ts : List OT) : (GG k).fn F ts = runD (GG (k - 1)) d ts := by
  obtain ⟨m, rfl⟩ : ∃ m, k = m + 1 := ⟨k - 1, by omega⟩
  exact gl_fn h ts
theorem gsup (k : Nat) : (GG k).sup = supOf sl := by cases k <;> rfl
theorem g_int {k : Nat} (hk : 1 ≤ k) (i : Int) : (GG k).fn "is_integer" [.leaf (.int i)] = .ok (.leaf (.bl true)) [none] :=
  (gg (by kernel_rfl : lookT "is_integer" tab = some d_is_integer) hk _).trans (r_is_integer _ i)
theorem g_within {k : Nat} (hk : 2 ≤ k) (i lo hi : Int) (h1 : lo ≤ i) (h2 : i ≤ hi) : (GG k).fn "is_within" [.leaf (.int i), .leaf (.int lo), .leaf (.int hi)] = .ok (.leaf (.bl true)) [none, none, none] := by
  rw [gg (by kernel_rfl : lookT "is_within" tab = some d_is_within) (by omega), r_is_within _ _ _ _ (g_int (by omega) i), decide_eq_true h1, decide_eq_true h2]
  rfl
def allN : List Str := nmP ++ nmT
theorem name1 (g : G) : ∀ x, x ∈ allN → runD g d_is_name [.leaf (.str x)] = .ok (.leaf (.bl true)) [none] := by
  intro x hx
  simp only [allN, nmP, nmT, List.cons_append, List.nil_append, List.mem_cons, List.not_mem_nil, or_false] at hx
  rcases hx with rfl | rfl | rfl | rfl | rfl | rfl | rfl | rfl | rfl | rfl | rfl | rfl | rfl | rfl | rfl | rfl | rfl
  all_goals kernel_rfl
theorem g_name {k : Nat} (hk : 1 ≤ k) {x : Str} (hx : x ∈ allN) : (GG k).fn "is_name" [.leaf (.str x)] = .ok (.leaf (.bl true)) [none] :=
  (gg (by kernel_rfl : lookT "is_name" tab = some d_is_name) hk _).trans (name1 _ x hx)
theorem nmP_pw : nmP.Pairwise strL := by unfold strL; decide +kernel
theorem nmT_pw : nmT.Pairwise strL := by unfold strL; decide +kernel
theorem g_asc {k : Nat} (hk : 1 ≤ k) {xs : List Str} (hl : xs.length ≤ 1000) (hp : xs.Pairwise strL) : (GG k).fn "are_ascending" [.leaf (names xs)] = .ok (.leaf (.bl true)) [none] := by
  rw [gg (by kernel_rfl : lookT "are_ascending" tab = some d_are_ascending) hk, r_asc _ xs hl]
  congr 3
  rw [List.all_eq_true]
  intro p hp2
  exact decide_eq_true (pairs_pw hp p hp2)
theorem g_names {k : Nat} (hk : 2 ≤ k) {xs : List Str} (hl : xs.length ≤ 1000) (hp : xs.Pairwise strL) (hm : ∀ x, x ∈ xs → x ∈ allN) : (GG k).fn "are_names" [.leaf (names xs)] = .ok (.leaf (.bl true)) [none] :=
  (gg (by kernel_rfl : lookT "are_names" tab = some d_are_names) (by omega) _).trans (r_names _ xs hl (fun x hx => g_name (by omega) (hm x hx)) (g_asc (by omega) hl hp))
theorem g_arc {k : Nat} (hk : 3 ≤ k) {n : Net} (h : n.Ok) {x : Arc} (hx : x ∈ n.as) : (GG k).fn "is_arc" [.leaf (names n.ps), .leaf (names n.ts), .leaf x.d] = .ok (.leaf (.bl true)) [none, none, none] :=
  (gg (by kernel_rfl : lookT "is_arc" tab = some d_is_arc) (by omega) _).trans (r_arc _ n.ps n.ts x (h.arc x hx).1 (g_within (by omega) _ _ _ (h.arc x hx).2.1 (h.arc x hx).2.2))
theorem g_net {k : Nat} (hk : 4 ≤ k) {n : Net} (h : NetOk n) : (GG k).fn "is_net" [.leaf n.d] = .ok (.leaf (.bl true)) [none] :=
  (gg (by kernel_rfl : lookT "is_net" tab = some d_is_net) (by omega) _).trans (r_net _ n h.ok
    (g_names (by omega) (by have := h.ok.lp; omega) (nmP_pw.sublist h.hp) fun x hx => List.mem_append_left _ (h.hp.subset hx))
    (g_names (by omega) (by have := h.ok.lt; omega) (nmT_pw.sublist h.ht) fun x hx => List.mem_append_right _ (h.ht.subset hx))
    fun x hx => g_arc (by omega) h.ok hx)
theorem g_check {k : Nat} (hk : 5 ≤ k) {n : Net} (h : NetOk n) : (GG k).fn "check_net" [.leaf n.d] = .ok (.leaf .non) [none] :=
  (gg (by kernel_rfl : lookT "check_net" tab = some d_check_net) (by omega) _).trans (r_check_net _ n.d (g_net (by omega) h))
theorem g_mby {k : Nat} (hk : 3 ≤ k) {n : Net} (h : NetOk n) {ms : List Int} (hl : ms.length = n.ps.length) (hb : Bnd ms 1000000) : (GG k).fn "is_marking_by" [.leaf n.d, .leaf (intD ms)] = .ok (.leaf (.bl true)) [none, none] :=
  (gg (by kernel_rfl : lookT "is_marking_by" tab = some d_is_marking_by) (by omega) _).trans (r_mby _ n ms (by have := h.ok.lp; omega) hl fun x hx => g_within (by omega) _ _ _ (hb x hx).1 (hb x hx).2)
theorem g_marking {k : Nat} (hk : 6 ≤ k) {n : Net} (h : NetOk n) {m : D} {b : Bool} (h2 : ∀ j, 5 ≤ j → (GG j).fn "is_marking_by" [.leaf n.d, .leaf m] = .ok (.leaf (.bl b)) [none, none]) : (GG k).fn "is_marking" [.leaf n.d, .leaf m] = .ok (.leaf (.bl b)) [none, none] :=
  (gg (by kernel_rfl : lookT "is_marking" tab = some d_is_marking) (by omega) _).trans (r_marking _ _ _ _ (g_check (by omega) h) (h2 _ (by omega)))
theorem g_marked {k : Nat} (hk : 7 ≤ k) {n : Net} (h : NetOk n) {ms : List Int} (hl : ms.length = n.ps.length) (hb : Bnd ms 1000000) : (GG k).fn "check_marked" [.leaf n.d, .leaf (intD ms)] = .ok (.leaf .non) [none, none] :=
  (gg (by kernel_rfl : lookT "check_marked" tab = some d_check_marked) (by omega) _).trans (r_marked _ _ _ (g_marking (by omega) h fun j hj => g_mby (by omega) h hl hb))
theorem bad_net {k : Nat} (hk : 4 ≤ k) {N : D} (h : N ∈ badN) : (GG k).fn "is_net" [.leaf N] = .ok (.leaf (.bl false)) [none] := by
  obtain ⟨m, rfl⟩ : ∃ m, k = m + 4 := ⟨k - 4, by omega⟩
  simp only [badN, List.mem_cons, List.not_mem_nil, or_false] at h
  rcases h with rfl | rfl | rfl | rfl | rfl | rfl
  all_goals kernel_rfl
theorem bad_check {k : Nat} (hk : 5 ≤ k) {N : D} (h : N ∈ badN) : (GG k).fn "check_net" [.leaf N] = .exc (xNR "this is no net") [none] :=
  (gg (by kernel_rfl : lookT "check_net" tab = some d_check_net) (by omega) _).trans (r_check_net_no _ N (bad_net (by omega) h))
theorem bad_marking {k : Nat} (hk : 6 ≤ k) {N : D} (h : N ∈ badN) (M : D) : (GG k).fn "is_marking" [.leaf N, .leaf M] = .exc (xNR "this is no net") [none, none] :=
  (gg (by kernel_rfl : lookT "is_marking" tab = some d_is_marking) (by omega) _).trans (r_marking_no _ _ _ _ (bad_check (by omega) h))
theorem bad_marked {k : Nat} (hk : 7 ≤ k) {N : D} (h : N ∈ badN) (M : D) : (GG k).fn "check_marked" [.leaf N, .leaf M] = .exc (xNR "this is no net") [none, none] :=
  (gg (by kernel_rfl : lookT "check_marked" tab = some d_check_marked) (by omega) _).trans (r_marked_x _ _ _ _ (bad_marking (by omega) h M))
/-! ### what the program's defs say -/
theorem g_init {k : Nat} (hk : 1 ≤ k) {n : Net} (h : n.Ok) : (GG k).fn (methName "Moves" initName) [.ins "Moves" [] [], .leaf n.d] = .ok (.leaf .non) [some (movT n), none] :=
  (gg (by kernel_rfl : lookT (methName "Moves" initName) tab = some d_Moves___init__) hk _).trans (r_init _ n h)
theorem g_can {k : Nat} (hk : 1 ≤ k) {n : Net} (h : n.Ok) {ms : List Int} {t : Str} (hl : ms.length = n.ps.length) (ht : t ∈ n.ts) : (GG k).fn (methName "Moves" "can") [movF n, .leaf (intD ms), .leaf (.str t)] = .ok (.leaf (.bl (canB n ms t))) [some (movF n), none, none] :=
  (gg (by kernel_rfl : lookT (methName "Moves" "can") tab = some d_Moves_can) hk _).trans (r_can _ n h ms hl t ht)
theorem g_aft {k : Nat} (hk : 1 ≤ k) {n : Net} (h : n.Ok) {ms : List Int} {t : Str} (hl : ms.length = n.ps.length) (ht : t ∈ n.ts) : (GG k).fn (methName "Moves" "after") [movF n, .leaf (intD ms), .leaf (.str t)] = .ok (.leaf (intD (aft n ms t))) [some (movF n), none, none] :=
  (gg (by kernel_rfl : lookT (methName "Moves" "after") tab = some d_Moves_after) hk _).trans (r_aft _ n h ms hl t ht)
theorem g_end {k : Nat} (hk : 2 ≤ k) {n : Net} (h : n.Ok) {ms : List Int} (hl : ms.length = n.ps.length) (hb : Bnd ms 1000) {run : List Str} (hr : run.length ≤ 50) : (GG k).fn (methName "Moves" "end") [movF n, .leaf (intD ms), .leaf (.lst (run.map .str))] = .ok (match go n ms run with | some ms' => .leaf (intD ms') | none => .leaf .non) [some (movF n), none, none] :=
  (gg (by kernel_rfl : lookT (methName "Moves" "end") tab = some d_Moves_end) (by omega) _).trans (end_of _ n h (fun ms t hl ht => g_can (by omega) h hl ht) (fun ms t hl ht => g_aft (by omega) h hl ht) run ms 1000 hl hb (by omega))
theorem bnd_up {ms : List Int} (h : Bnd ms 1000) : Bnd ms 1000000 := fun i hi => by have := h i hi; omega
theorem g_able {k : Nat} (hk : 2 ≤ k) {n : Net} (h : n.Ok) {ms : List Int} (hl : ms.length = n.ps.length) : (GG k).fn (methName "Moves" "able") [movF n, .leaf (intD ms)] = .ok (.lst (leafs ((able n ms).map .str))) [some (movF n), none] :=
  (gg (by kernel_rfl : lookT (methName "Moves" "able") tab = some d_Moves_able) (by omega) _).trans (r_able _ n h ms hl fun t ht => g_can (by omega) h hl ht)
theorem g_steps {k : Nat} (hk : 8 ≤ k) {n : Net} (h : NetOk n) {ms : List Int} (hl : ms.length = n.ps.length) (hb : Bnd ms 1000) : (GG k).fn "steps_at" [.leaf n.d, .leaf (intD ms)] = .ok (.lst (leafs ((able n ms).map .str))) [none, none] :=
  (gg (by kernel_rfl : lookT "steps_at" tab = some d_steps_at) (by omega) _).trans (r_steps_at _ n ms (g_marked (by omega) h hl (bnd_up hb)) (g_init (by omega) h.ok) (g_able (by omega) h.ok hl))
theorem g_isrun {k : Nat} (hk : 8 ≤ k) {n : Net} (h : NetOk n) {ms m' : List Int} (hl : ms.length = n.ps.length) (hb : Bnd ms 1000) {run : List Str} (hr : run.length ≤ 50) (hg : go n ms run = some m') : (GG k).fn "is_run" [.leaf n.d, .leaf (intD ms), .leaf (strD run)] = .ok (.leaf (.bl true)) [none, none, none] := by
  have e := g_end (k := k - 1) (by omega) h.ok hl hb hr
  rw [hg] at e
  exact (gg (by kernel_rfl : lookT "is_run" tab = some d_is_run) (by omega) _).trans (r_is_run _ n ms (g_marked (by omega) h hl (bnd_up hb)) (g_init (by omega) h.ok) [] m' (strD run) e)
theorem g_step {k : Nat} (hk : 1 ≤ k) {n : Net} {x : Str} (h : x ∈ n.ts) : (GG k).fn "check_step" [.leaf n.d, .leaf (.str x)] = .ok (.leaf .non) [none, none] :=
  (gg (by kernel_rfl : lookT "check_step" tab = some d_check_step) hk _).trans (r_step _ n x h)
theorem g_endof {k : Nat} (hk : 8 ≤ k) {n : Net} (h : NetOk n) {ms m' : List Int} (hl : ms.length = n.ps.length) (hb : Bnd ms 1000) {run : List Str} (hr : run.length ≤ 50) (hg : go n ms run = some m') : (GG k).fn "end_of" [.leaf n.d, .leaf (intD ms), .leaf (strD run)] = .ok (.leaf (intD m')) [none, none, none] := by
  have e := g_end (k := k - 1) (by omega) h.ok hl hb hr
  rw [hg] at e
  exact (gg (by kernel_rfl : lookT "end_of" tab = some d_end_of) (by omega) _).trans (r_end_of _ n ms (g_marked (by omega) h hl (bnd_up hb)) (g_init (by omega) h.ok) run (by omega) m' (fun t ht => g_step (by omega) (go_mem hg t ht)) e)
theorem g_turned {k : Nat} (hk : 6 ≤ k) {n : Net} (h : NetOk n) : (GG k).fn "turned" [.leaf n.d] = .ok (.leaf (flip n).d) [none] :=
  (gg (by kernel_rfl : lookT "turned" tab = some d_turned) (by omega) _).trans (r_turned _ n h.ok (g_check (by omega) h))
theorem g_known {k : Nat} (hk : 1 ≤ k) {n : Net} {x : Str} (h : x ∈ n.ps ∨ x ∈ n.ts) : (GG k).fn "check_known" [.leaf n.d, .leaf (.str x)] = .ok (.leaf .non) [none, none] :=
  (gg (by kernel_rfl : lookT "check_known" tab = some d_check_known) hk _).trans (r_known _ n x h)
theorem g_known_no {k : Nat} (hk : 1 ≤ k) {n : Net} {x : Str} (h1 : x ∉ n.ps) (h2 : x ∉ n.ts) : (GG k).fn "check_known" [.leaf n.d, .leaf (.str x)] = .exc (xNT "there is no such place or step") [none, none] :=
  (gg (by kernel_rfl : lookT "check_known" tab = some d_check_known) hk _).trans (r_known_no _ n x h1 h2)
theorem g_src {k : Nat} (hk : 6 ≤ k) {n : Net} (h : NetOk n) {x : Str} (hx : x ∈ n.ps ∨ x ∈ n.ts) : (GG k).fn "sources_of" [.leaf n.d, .leaf (.str x)] = .ok (.leaf (names (srcs n x))) [none, none] :=
  (gg (by kernel_rfl : lookT "sources_of" tab = some d_sources_of) (by omega) _).trans (r_src _ n x h.ok (g_check (by omega) h) (g_known (by omega) hx))
theorem g_gls {k : Nat} (hk : 6 ≤ k) {n : Net} (h : NetOk n) {x : Str} (hx : x ∈ n.ps ∨ x ∈ n.ts) : (GG k).fn "goals_of" [.leaf n.d, .leaf (.str x)] = .ok (.leaf (names (gls n x))) [none, none] :=
  (gg (by kernel_rfl : lookT "goals_of" tab = some d_goals_of) (by omega) _).trans (r_gls _ n x h.ok (g_check (by omega) h) (g_known (by omega) hx))
theorem g_src_no {k : Nat} (hk : 6 ≤ k) {n : Net} (h : NetOk n) {x : Str} (h1 : x ∉ n.ps) (h2 : x ∉ n.ts) : (GG k).fn "sources_of" [.leaf n.d, .leaf (.str x)] = .exc (xNT "there is no such place or step") [none, none] :=
  (gg (by kernel_rfl : lookT "sources_of" tab = some d_sources_of) (by omega) _).trans (r_src_k _ _ _ _ (g_check (by omega) h) (g_known_no (by omega) h1 h2))
theorem g_gls_no {k : Nat} (hk : 6 ≤ k) {n : Net} (h : NetOk n) {x : Str} (h1 : x ∉ n.ps) (h2 : x ∉ n.ts) : (GG k).fn "goals_of" [.leaf n.d, .leaf (.str x)] = .exc (xNT "there is no such place or step") [none, none] :=
  (gg (by kernel_rfl : lookT "goals_of" tab = some d_goals_of) (by omega) _).trans (r_gls_k _ _ _ _ (g_check (by omega) h) (g_known_no (by omega) h1 h2))
/-! ### the law -/
theorem g_take {k : Nat} (hk : 1 ≤ k) : TakeOk (GG k) := fun xs b hb => by
  rw [gg (by kernel_rfl : lookT "_law_take" tab = some d_law_take) hk]
  exact r_take _ xs b hb
theorem g_pick {k : Nat} (hk : 2 ≤ k) : PickOk (GG k) := fun xs ds u hd hu => by
  rw [gg (by kernel_rfl : lookT "_law_pick" tab = some d_law_pick) (by omega)]
  exact r_pick _ xs ds hd u hu (g_take (by omega))
theorem g_larc {k : Nat} (hk : 1 ≤ k) {n : Net} (h : n.Ok) (a b : Str) : (GG k).fn "_law_arc" [.leaf n.d, .leaf (.str a), .leaf (.str b)] = .ok (.leaf (.int (arcV n.as a b))) [none, none, none] :=
  (gg (by kernel_rfl : lookT "_law_arc" tab = some d_law_arc) hk _).trans (r_larc _ n h a b)
theorem g_ltk {k : Nat} (hk : 2 ≤ k) {n : Net} (h : n.Ok) (t : Str) : (GG k).fn "_law_taken" [.leaf n.d, .leaf (.str t)] = .ok (.leaf (intD (n.tk t))) [none, none] :=
  (gg (by kernel_rfl : lookT "_law_taken" tab = some d_law_taken) (by omega) _).trans (r_ltk _ n h (fun a b => g_larc (by omega) h a b) t)
theorem g_lpt {k : Nat} (hk : 2 ≤ k) {n : Net} (h : n.Ok) (t : Str) : (GG k).fn "_law_put_by" [.leaf n.d, .leaf (.str t)] = .ok (.leaf (intD (n.pt t))) [none, none] :=
  (gg (by kernel_rfl : lookT "_law_put_by" tab = some d_law_put_by) (by omega) _).trans (r_lpt _ n h (fun a b => g_larc (by omega) h a b) t)
theorem g_same {k : Nat} : ∀ {m : Nat}, k + 1 ≤ m → ∀ {d : D}, Sm k d → (GG m).fn "_law_same" [.leaf d, .leaf d] = .ok (.leaf (.bl true)) [none, none] := by
  intro m hm d h
  induction h generalizing m with
  | str x =>
    rw [gg (by kernel_rfl : lookT "_law_same" tab = some d_law_same) (by omega)]
    exact r_same_str _ x
  | bl x =>
    rw [gg (by kernel_rfl : lookT "_law_same" tab = some d_law_same) (by omega)]
    exact r_same_bl _ x
  | int x =>
    rw [gg (by kernel_rfl : lookT "_law_same" tab = some d_law_same) (by omega)]
    exact r_same_int _ x
  | lst ds hl h ih =>
    rw [gg (by kernel_rfl : lookT "_law_same" tab = some d_law_same) (by omega)]
    exact r_same_lst _ ds hl fun d hd => ih d hd (by omega)
  | tup ds hl h ih =>
    rw [gg (by kernel_rfl : lookT "_law_same" tab = some d_law_same) (by omega)]
    exact r_same_tup _ ds hl fun d hd => ih d hd (by omega)
theorem law_g {k : Nat} (hk : 12 ≤ k) : LawG (GG k) where
  take := g_take (by omega)
  pick := g_pick (by omega)
  net xs := by
    rw [gg (by kernel_rfl : lookT "_law_net" tab = some d_law_net) (by omega)]
    exact r_lnet _ (g_take (by omega)) (g_pick (by omega)) (fun xs ns hn many hm => by
      rw [gg (by kernel_rfl : lookT "_law_names_of" tab = some d_law_names_of) (by omega)]
      exact r_nof _ (g_take (by omega)) xs ns hn many hm) xs
  mark xs n h := by
    rw [gg (by kernel_rfl : lookT "_law_marking" tab = some d_law_marking) (by omega)]
    exact r_lmark _ (g_take (by omega)) (g_pick (by omega)) n h.ok xs
  after n h ms t hl := (gg (by kernel_rfl : lookT "_law_after" tab = some d_law_after) (by omega) _).trans (r_laft _ n h (fun t => g_ltk (by omega) h t) (fun t => g_lpt (by omega) h t) ms hl t)
  same d h := g_same (by omega) h
  told2 n h X := (gg (by kernel_rfl : lookT "_law_told" tab = some d_law_told) (by omega) _).trans (t2_ok _ _ _ _ (g_turned (by omega) h))
  told0 n h x hx := (gg (by kernel_rfl : lookT "_law_told" tab = some d_law_told) (by omega) _).trans (t0_ok _ _ _ _ (g_src (by omega) h hx))
  told1 n h x hx := (gg (by kernel_rfl : lookT "_law_told" tab = some d_law_told) (by omega) _).trans (t1_ok _ _ _ _ (g_gls (by omega) h hx))
  told0n n h x h1 h2 := (gg (by kernel_rfl : lookT "_law_told" tab = some d_law_told) (by omega) _).trans (t0_n _ (sup_ok _ (gsup _)) _ _ _ (g_src_no (by omega) h h1 h2))
  told1n n h x h1 h2 := (gg (by kernel_rfl : lookT "_law_told" tab = some d_law_told) (by omega) _).trans (t1_n _ (sup_ok _ (gsup _)) _ _ _ (g_gls_no (by omega) h h1 h2))
  bad0 N h := (gg (by kernel_rfl : lookT "_law_told" tab = some d_law_told) (by omega) _).trans (t0_x _ (sup_ok _ (gsup _)) _ _ _ ((gg (by kernel_rfl : lookT "sources_of" tab = some d_sources_of) (by omega) _).trans (r_src_x _ _ _ _ (bad_check (by omega) h))))
  bad1 N h := (gg (by kernel_rfl : lookT "_law_told" tab = some d_law_told) (by omega) _).trans (t1_x _ (sup_ok _ (gsup _)) _ _ _ ((gg (by kernel_rfl : lookT "goals_of" tab = some d_goals_of) (by omega) _).trans (r_gls_x _ _ _ _ (bad_check (by omega) h))))
  bad2 N h := (gg (by kernel_rfl : lookT "_law_told" tab = some d_law_told) (by omega) _).trans (t2_x _ (sup_ok _ (gsup _)) _ _ _ ((gg (by kernel_rfl : lookT "turned" tab = some d_turned) (by omega) _).trans (r_turned_x _ _ _ (bad_check (by omega) h))))
  end_ n h ms m' hl hb run hr hg := g_endof (by omega) h hl hb hr hg
  isrun n h ms m' hl hb run hr hg := g_isrun (by omega) h hl hb hr hg
  steps n h ms hl hb := g_steps (by omega) h hl hb
theorem plain (is : List Int) (h : is.length ≤ 63) : ∃ ps, (gl tab (supOf sl) 0 21).fn "law" [.leaf (.scr is)] = .ok (.leaf (.bl true)) ps := by
  refine ⟨[none], (gg (k := 21) (by kernel_rfl : lookT "law" tab = some d_law) (by decide) _).trans (r_law (GG 20) (law_g (by decide)) is ?_)⟩
  rw [gg (by kernel_rfl : lookT "_law_draws" tab = some d_law_draws) (by decide)]
  exact r_draws _ is h
end K02
end
end
section
set_option linter.all false
set_option maxRecDepth 100000
set_option maxHeartbeats 0
open PySem PySem.W PySem.Calls PyProof.Rows in
theorem PySem.Challenge.cw_tokenward_k02_whole_turned_nets_and_neig_holds : PySem.Challenge.rw_tokenward_k02_whole_turned_nets_and_neig.Holds := by
  w_on; o_law
  refine HandSHeadRun.head_any (r := OpenLaw.row PySem.Challenge.rw_tokenward_k02_whole_turned_nets_and_neig) (q := view (OpenLaw.row PySem.Challenge.rw_tokenward_k02_whole_turned_nets_and_neig).prog [46]) (H := K02.hk) (ob := K02.ob) (M := 20000) (loose := K02.loose) (d := HandSHeadRun.topDef (OpenLaw.row PySem.Challenge.rw_tokenward_k02_whole_turned_nets_and_neig).prog 46) (kwd := []) K02.ob_eq
    (by kernel_rfl) (fun s => by kernel_rfl) K02.run (by kernel_rfl) (by kernel_rfl) (by kernel_rfl) (by rfl) (by first | assumption | decide +kernel) (by decide +kernel) ⟨rfl, rfl, rfl, rfl, rfl, by decide +kernel⟩ ?hw ?hc
  case hw => w_witness2
  case hc =>
    refine L2.walk_ofE (l := PySem.Challenge.rw_tokenward_k02_whole_turned_nets_and_neig) (n := 63) (k := 42) (x := "script") (CX := Tk.CXw) rfl (by decide) (by kernel_rfl) ⟨rfl, by decide, by decide⟩ ?F (fun _ _ _ _ ⟨_, _, _, z⟩ => z)
    intro w mg fa h Y Gn hmg0
    obtain ⟨K, KX, c⟩ := Y
    have hmg : mg ("law" : PySem.Str) = some (.ref fa) := by
      have e : (HandSHeadRun.topDef (OpenLaw.row PySem.Challenge.rw_tokenward_k02_whole_turned_nets_and_neig).prog 46).name = ("law" : PySem.Str) := by kernel_rfl
      rw [← e]
      exact hmg0
    obtain ⟨fd, hb, hF⟩ := K02.law_fn (P := (PySem.Challenge.rw_tokenward_k02_whole_turned_nets_and_neig).prog) (w := w) 20 0 KX Gn hmg c
    exact ⟨K, fd, _, KX, hb, fun H a is hl _ sq => let ⟨ps, e⟩ := K02.plain is hl; Tk.law_sp sq e _, hF⟩
end
