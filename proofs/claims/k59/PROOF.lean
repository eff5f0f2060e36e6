import PyProof.Rows.All
import Wide.All
import OpenK.AllK
import Wide.FinOn
import KE.KStateDown
import HandS.ForMost
import HandS.ForExc
import HandS.Defaults
import HandS.Walk
import HandS.Wide
import HandS.WideBits
import HandS.Star
import HandS.TupAny
import HandS.TupMul
import HandS.IsInst
import PyProof.ReprRoads
import HandS.Deep
import KE.KTupSum
import HandS.RaiseMore
import HandS.Style
import HandS.Conv
import HandS.TupSets
import KE.GoesEnum
import HandS.Zip
import KE.GoesZip
import KE.GoesMore
import HandS.TryOnly
import HandS.Comp
import HandS.ExcCtx
import HandS.MakeKwOnly
import HandS.Property
import HandS.ClsMeth
import KE.KCallOwn
import HandS.Head0
import HandS.Head1
import HandS.Head2
import HandS.HeadEnd
import HandS.HeadHook1
import HandS.HeadHook2
import HandS.EndBits
import HandS.HeadHook3
import HandS.HeadHook4
import HandS.HeadNt
import PyProof.ReprBulk
import PyProof.FitsInt
import PySem.Challenge.RW_restballots_k59_whole_rules_certified
set_option Elab.async false
set_option linter.all false
set_option maxRecDepth 100000
set_option maxHeartbeats 4000000
namespace DL
open PySem L2

/-! ## Data -/
inductive D where
  | non | bl (b : Bool) | int (i : Int) | str (s : Str)
  | tup (l : List D) | lst (l : List D) | dct (ks : List Key) (l : List D)
  | obj (c : Nat) (l : List D)
  /-- a class of the text -/
  | cls (c : Nat)
  /-- the script -/
  | scr (l : List Int)
deriving Inhabited

/-- a slot: nothing, frozen data, an object of one's own, a borrowed one -/
inductive Sl where
  | no | fr (d : D) | ow (d : D) | bo (d : D)
deriving Inhabited
abbrev Slots := List Sl

inductive R (α : Type) where
  | ok (a : α) (s : Slots)
  | exc (c : Nat) (fs : List D) (s : Slots)
  | bad
def R.bind {α β : Type} : R α → (α → Slots → R β) → R β
  | .ok a s, k => k a s
  | .exc c fs s, _ => .exc c fs s
  | .bad, _ => .bad
inductive RF where
  | ok (d : D) (outs : List D)
  | exc (c : Nat) (fs : List D) (outs : List D)
  | bad
abbrev CallH := Nat → List D → RF

inductive Flow where
  | nx | bk | ct | rt (d : D)

/-! ## How data lies in the heap -/
structure Wk where
  K : PySem.W.Frag
  /-- the class with the number c stands there -/
  ca : Nat → Addr
  /-- its fields -/
  cf : Nat → List Str
  /-- the classes whose instances are data -/
  cs : List Nat

mutual
def DR (k : Wk) (G : Hp) : D → V → Prop
  | .non, v => v = .non
  | .bl b, v => v = .bl b
  | .int i, v => v = .int i
  | .str s, v => v = .str s
  | .tup l, v => ∃ a vs, v = .ref a ∧ SqT k.K G a vs ∧ DRs k G l vs
  | .lst l, v => ∃ a vs, v = .ref a ∧ G a = some (.lst vs) ∧ DRs k G l vs
  | .scr l, v => ∃ a, v = .ref a ∧ SqL k.K G a (l.map .int)
  | .cls c, v => c ∈ k.cs ∧ v = .ref (k.ca c)
  | .dct ks l, v => ∃ a kvs, v = .ref a ∧ G a = some (.dK kvs) ∧ kvs.map (·.1) = ks ∧ DRs k G l (kvs.map (·.2))
  | .obj c l, v => c ∈ k.cs ∧ ∃ a dx kvs, v = .ref a ∧ G a = some (.ins (k.ca c) dx kvs) ∧ kvs.map (·.1) = (k.cf c).take l.length ∧ DRs k G l (kvs.map (·.2))
def DRs (k : Wk) (G : Hp) : List D → List V → Prop
  | [], vs => vs = []
  | d :: ds, vs => ∃ v vr, vs = v :: vr ∧ DR k G d v ∧ DRs k G ds vr
end
/-- an object of one's own -/
def OR (k : Wk) (G : Hp) : D → HO → Prop
  | .lst l, o => ∃ vs, o = .lst vs ∧ DRs k G l vs
  | .dct ks l, o => ∃ kvs, o = .dK kvs ∧ kvs.map (·.1) = ks ∧ DRs k G l (kvs.map (·.2))
  | .obj c l, o => c ∈ k.cs ∧ ∃ dx kvs, o = .ins (k.ca c) dx kvs ∧ kvs.map (·.1) = (k.cf c).take l.length ∧ DRs k G l (kvs.map (·.2))
  | _, _ => False
def PR (k : Wk) (G H : Hp) (d : D) (v : V) : Prop := DR k G d v ∨ ∃ a o, v = .ref a ∧ H a = some o ∧ OR k G d o

def Sub (G H : Hp) : Prop := ∀ a o, G a = some o → H a = some o

theorem rd_mono {G G' : Hp} (m : Sub G G') {a : Addr} {u : HO} (h : Rd G a u) : Rd G' a u := by
  rcases h with h | ⟨o, h⟩
  · exact .inl (m _ _ h)
  · exact .inr ⟨o, m _ _ h⟩
theorem sqT_mono {K : PySem.W.Frag} {G G' : Hp} (m : Sub G G') {a : Addr} {xs : List V} (h : SqT K G a xs) : SqT K G' a xs := by
  rcases h with h | h
  · exact .inl (rd_mono m h)
  · exact .inr h
theorem sqL_mono {K : PySem.W.Frag} {G G' : Hp} (m : Sub G G') {a : Addr} {xs : List V} (h : SqL K G a xs) : SqL K G' a xs := by
  rcases h with h | h
  · exact .inl (rd_mono m h)
  · exact .inr h
section
variable {k : Wk} {G G' : Hp}
mutual
theorem DR.mono (m : Sub G G') : ∀ (d : D) (v : V), DR k G d v → DR k G' d v
  | .non, v, h => h
  | .bl b, v, h => h
  | .int i, v, h => h
  | .str s, v, h => h
  | .cls c, v, h => h
  | .tup l, v, h => by
    obtain ⟨a, vs, e, q, r⟩ := h
    exact ⟨a, vs, e, sqT_mono m q, DRs.mono m l vs r⟩
  | .lst l, v, h => by
    obtain ⟨a, vs, e, q, r⟩ := h
    exact ⟨a, vs, e, m _ _ q, DRs.mono m l vs r⟩
  | .scr l, v, h => by
    obtain ⟨a, e, q⟩ := h
    exact ⟨a, e, sqL_mono m q⟩
  | .dct ks l, v, h => by
    obtain ⟨a, kvs, e, q, e2, r⟩ := h
    exact ⟨a, kvs, e, m _ _ q, e2, DRs.mono m l _ r⟩
  | .obj c l, v, h => by
    obtain ⟨hc, a, dx, kvs, e, q, e2, r⟩ := h
    exact ⟨hc, a, dx, kvs, e, m _ _ q, e2, DRs.mono m l _ r⟩
theorem DRs.mono (m : Sub G G') : ∀ (l : List D) (vs : List V), DRs k G l vs → DRs k G' l vs
  | [], vs, h => h
  | d :: ds, vs, h => by
    obtain ⟨v, vr, e, r1, r2⟩ := h
    exact ⟨v, vr, e, DR.mono m d v r1, DRs.mono m ds vr r2⟩
end
theorem OR.mono (m : Sub G G') {d : D} {o : HO} (h : OR k G d o) : OR k G' d o := by
  cases d <;> try exact h
  · obtain ⟨vs, e, r⟩ := h
    exact ⟨vs, e, DRs.mono m _ _ r⟩
  · obtain ⟨kvs, e, e2, r⟩ := h
    exact ⟨kvs, e, e2, DRs.mono m _ _ r⟩
  · obtain ⟨hc, dx, kvs, e, e2, r⟩ := h
    exact ⟨hc, dx, kvs, e, e2, DRs.mono m _ _ r⟩
theorem DRs.length : ∀ {l : List D} {vs : List V}, DRs k G l vs → l.length = vs.length
  | [], vs, h => by
    have e : vs = [] := h
    rw [e]
    rfl
  | d :: ds, vs, h => by
    obtain ⟨v, vr, e, r1, r2⟩ := h
    rw [e, List.length_cons, List.length_cons, DRs.length r2]
theorem DRs.get : ∀ {l : List D} {vs : List V} {i : Nat} {d : D}, DRs k G l vs → l[i]? = some d → ∃ v, vs[i]? = some v ∧ DR k G d v
  | [], vs, i, d, h, e => by simp at e
  | d0 :: ds, vs, 0, d, h, e => by
    obtain ⟨v, vr, e1, r1, r2⟩ := h
    simp at e
    subst e e1
    exact ⟨v, rfl, r1⟩
  | d0 :: ds, vs, i + 1, d, h, e => by
    obtain ⟨v, vr, e1, r1, r2⟩ := h
    subst e1
    obtain ⟨w, h1, h2⟩ := DRs.get (i := i) (d := d) r2 (by simpa using e)
    exact ⟨w, by simpa using h1, h2⟩
theorem DRs.append : ∀ {l l' : List D} {vs vs' : List V}, DRs k G l vs → DRs k G l' vs' → DRs k G (l ++ l') (vs ++ vs')
  | [], l', vs, vs', h, h' => by
    have e : vs = [] := h
    rw [e]
    exact h'
  | d :: ds, l', vs, vs', h, h' => by
    obtain ⟨v, vr, e1, r1, r2⟩ := h
    subst e1
    exact ⟨v, vr ++ vs', rfl, r1, DRs.append r2 h'⟩
theorem DRs.take : ∀ {l : List D} {vs : List V} (n : Nat), DRs k G l vs → DRs k G (l.take n) (vs.take n)
  | l, vs, 0, h => by simp [DRs]
  | [], vs, n + 1, h => by
    have e : vs = [] := h
    rw [e]
    simp [DRs]
  | d :: ds, vs, n + 1, h => by
    obtain ⟨v, vr, e1, r1, r2⟩ := h
    subst e1
    exact ⟨v, vr.take n, rfl, r1, DRs.take n r2⟩
theorem DRs.drop : ∀ {l : List D} {vs : List V} (n : Nat), DRs k G l vs → DRs k G (l.drop n) (vs.drop n)
  | l, vs, 0, h => h
  | [], vs, n + 1, h => by
    have e : vs = [] := h
    rw [e]
    simp [DRs]
  | d :: ds, vs, n + 1, h => by
    obtain ⟨v, vr, e1, r1, r2⟩ := h
    subst e1
    exact DRs.drop n r2
theorem DRs.set {d : D} {v : V} (r : DR k G d v) : ∀ {l : List D} {vs : List V} (i : Nat), DRs k G l vs → DRs k G (l.set i d) (vs.set i v)
  | [], vs, i, h => by
    have e : vs = [] := h
    rw [e]
    simp [DRs]
  | d0 :: ds, vs, 0, h => by
    obtain ⟨v0, vr, e1, r1, r2⟩ := h
    subst e1
    exact ⟨v, vr, rfl, r, r2⟩
  | d0 :: ds, vs, i + 1, h => by
    obtain ⟨v0, vr, e1, r1, r2⟩ := h
    subst e1
    exact ⟨v0, vr.set i v, rfl, r1, DRs.set r i r2⟩
theorem DRs.one {d : D} {v : V} (r : DR k G d v) : DRs k G [d] [v] := ⟨v, [], rfl, r, rfl⟩
theorem DRs.reverse : ∀ {l : List D} {vs : List V}, DRs k G l vs → DRs k G l.reverse vs.reverse
  | [], vs, h => by
    have e : vs = [] := h
    rw [e]
    simp [DRs]
  | d :: ds, vs, h => by
    obtain ⟨v, vr, e1, r1, r2⟩ := h
    subst e1
    rw [List.reverse_cons, List.reverse_cons]
    exact DRs.append (DRs.reverse r2) (DRs.one r1)
end
end DL

set_option Elab.async false
set_option linter.all false
set_option maxRecDepth 100000
set_option maxHeartbeats 4000000
namespace DL
open PySem L2

/-! ## Plain data of the model -/
def keyPy : Key → PyData
  | .inl i => .int i
  | .inr s => .str s
mutual
def D.toPy : D → Option PyData
  | .non => some .none
  | .bl b => some (.bool b)
  | .int i => some (.int i)
  | .str s => some (.str s)
  | .tup l => (toPys l).map .tuple
  | .lst l => (toPys l).map .list
  | .dct ks l => (toPys l).map fun vs => .dict ((ks.map keyPy).zip vs)
  | .obj _ _ => none
  | .cls _ => none
  | .scr _ => none
def toPys : List D → Option (List PyData)
  | [] => some []
  | d :: ds => match d.toPy, toPys ds with
    | some p, some ps => some (p :: ps)
    | _, _ => none
end
def szl : Nat := 16777216
def D.flat : D → Bool
  | .non => true
  | .bl _ => true
  | .int _ => true
  | .str _ => true
  | _ => false
/-- == of flat data -/
def eqF : D → D → Bool
  | .non, .non => true
  | .bl a, .bl b => a == b
  | .bl a, .int b => (if a then 1 else 0) == b
  | .int a, .bl b => a == (if b then 1 else 0)
  | .int a, .int b => a == b
  | .str a, .str b => a == b
  | _, _ => false
/-- == -/
def eqD (d e : D) : Option Bool :=
  if d.flat && e.flat then some (eqF d e) else
  match d.toPy, e.toPy with
  | some p, some q => if SeqAt.shaped p && SeqAt.shaped q then some (PyData.eqv p q) else none
  | _, _ => none

inductive Ty where
  | int | str | tup | bool | list | dict | cls (c : Nat)
deriving DecidableEq

inductive Pr where
  | addL | mulL | slcL (lo hi : Bool)
  | add | sub | mul | fdiv | mod | pow | neg
  | eq | ne | lt | le | gt | ge | isin | notin | isN | isnN
  | len | isI (t : Ty) | tupOf | lstOf | sumL | min2 | max2 | minL | maxL | allL | anyL | absI | strOf | intOf | repr | dvm
  | fld (c j : Nat) | idx | slc (lo hi : Bool) | rev | split | join | tupRng | lstRng | index | cnt | srt | isb | isnb
deriving DecidableEq

def isTy : Ty → D → Bool
  | .int, .int _ => true
  | .int, .bl _ => true
  | .bool, .bl _ => true
  | .str, .str _ => true
  | .tup, .tup _ => true
  | .list, .lst _ => true
  | .list, .scr _ => true
  | .dict, .dct _ _ => true
  | .cls c, .obj c' _ => c == c'
  | _, _ => false
def intsD : List D → Option (List Int)
  | [] => some []
  | .int i :: r => match intsD r with
    | some l => some (i :: l)
    | none => none
  | _ :: _ => none
def boolsD : List D → Option (List Bool)
  | [] => some []
  | .bl i :: r => match boolsD r with
    | some l => some (i :: l)
    | none => none
  | _ :: _ => none
def strsD : List D → Option (List Str)
  | [] => some []
  | .str i :: r => match strsD r with
    | some l => some (i :: l)
    | none => none
  | _ :: _ => none
def items : D → Option (List D)
  | .lst l => some l
  | .tup l => some l
  | .str s => if s.length ≤ szl then some (s.cps.toList.map fun c => .str ⟨#[c]⟩) else none
  | _ => none
def cutD (xs : List D) (lo hi : Option Int) : List D := (xs.drop (HT.sIx xs.length 0 lo)).take (HT.sIx xs.length xs.length hi - HT.sIx xs.length 0 lo)
def mulOk (i j : Int) : Bool := (decide (-(2 ^ 64) < i) && decide (i < 2 ^ 64)) || (decide (-(2 ^ 64) < j) && decide (j < 2 ^ 64)) || decide (Builtin.Int.intBits i + Builtin.Int.intBits j ≤ 100000000)
def rng (a b : Int) : Option (List D) := if decide (-(2 ^ 62) ≤ a) && decide (a < 2 ^ 62) && decide (-(2 ^ 62) ≤ b) && decide (b < 2 ^ 62) && decide ((b - a).toNat ≤ szl) then some ((List.range (b - a).toNat).map fun i => .int (a + (i : Nat))) else none
def join2 (sep : Str) : List Str → Nat
  | [] => 0
  | x :: r => x.length + sep.length + join2 sep r

def addP : List D → Option D
  | [.int i, .int j] => some (.int (i + j))
  | [.str a, .str b] => if a.length + b.length ≤ szl then some (.str (a ++ b)) else none
  | [.tup a, .tup b] => if a.length + b.length ≤ szl then some (.tup (a ++ b)) else none
  | [.lst a, .lst b] => if a.length + b.length ≤ szl then some (.lst (a ++ b)) else none
  | _ => none
def addLP : List D → Option D
  | [.lst a, .lst b] => if a.length + b.length ≤ szl then some (.lst (a ++ b)) else none
  | _ => none
def subP : List D → Option D
  | [.int i, .int j] => some (.int (i - j))
  | _ => none
def mulP : List D → Option D
  | [.int i, .int j] => if mulOk i j then some (.int (i * j)) else none
  | [.lst a, .int n] => if decide (-(2 ^ 63) ≤ n) && decide (n < 2 ^ 63) && decide (a.length * n.toNat ≤ szl) then some (.lst (List.replicate n.toNat a).flatten) else none
  | _ => none
def mulLP : List D → Option D
  | [.lst a, .int n] => if decide (-(2 ^ 63) ≤ n) && decide (n < 2 ^ 63) && decide (a.length * n.toNat ≤ szl) then some (.lst (List.replicate n.toNat a).flatten) else none
  | _ => none
def fdivP : List D → Option D
  | [.int i, .int j] => if decide (0 < j) && decide (j.natAbs.log2 < 9000) then some (.int (i / j)) else none
  | _ => none
def modP : List D → Option D
  | [.int i, .int j] => if 0 < j then some (.int (i % j)) else none
  | _ => none
def powP : List D → Option D
  | [.int i, .int j] => if decide (0 ≤ j) && decide (j ≤ 1000000) && decide (i.natAbs < 2 ^ 64) then some (.int (i ^ j.toNat)) else none
  | _ => none
def negP : List D → Option D
  | [.int i] => some (.int (-i))
  | _ => none
def eqP : List D → Option D
  | [a, b] => (eqD a b).map .bl
  | _ => none
def neP : List D → Option D
  | [a, b] => (eqD a b).map fun x => .bl (!x)
  | _ => none
def ltP : List D → Option D
  | [.int i, .int j] => some (.bl (decide (i < j)))
  | [.str i, .str j] => some (.bl (decide (i.cps.toList < j.cps.toList)))
  | _ => none
def leP : List D → Option D
  | [.int i, .int j] => some (.bl (decide (i ≤ j)))
  | _ => none
def gtP : List D → Option D
  | [.int i, .int j] => some (.bl (decide (j < i)))
  | _ => none
def geP : List D → Option D
  | [.int i, .int j] => some (.bl (decide (j ≤ i)))
  | _ => none
/-- x in a tuple of data of any depth -/
def inDeep (x : D) (l : List D) : Option Bool := match x.toPy, toPys l with
  | some p, some ps => if SeqAt.shaped p && SeqAt.shaped (.tuple ps) && decide (p.depth ≤ 60) then some (ps.any fun z => PyData.eqv z p) else none
  | _, _ => none
/-- x in y -/
def inD : D → D → Option Bool
  | x, .lst l => if x.flat && l.all D.flat then some (l.any fun y => eqF y x) else none
  | x, .tup l => if x.flat && l.all D.flat then some (l.any fun y => eqF y x) else inDeep x l
  | .str x, .str z => match x.cps.toList with
    | [c] => some (decide (c ∈ z.cps.toList))
    | _ => none
  | _, _ => none
def inP : List D → Option D
  | [x, y] => (inD x y).map .bl
  | _ => none
def ninP : List D → Option D
  | [x, y] => (inD x y).map fun b => .bl (!b)
  | _ => none
def D.isNon : D → Bool
  | .non => true
  | _ => false
def isNP : List D → Option D
  | [x] => some (.bl x.isNon)
  | _ => none
def isnNP : List D → Option D
  | [x] => some (.bl (!x.isNon))
  | _ => none
def lenP : List D → Option D
  | [.lst l] => some (.int l.length)
  | [.tup l] => some (.int l.length)
  | [.str z] => if z.length ≤ szl then some (.int z.length) else none
  | [.scr l] => some (.int l.length)
  | _ => none
@[simp] def D.isCls : D → Bool
  | .cls _ => true
  | _ => false
def isIP (t : Ty) : List D → Option D
  | [x] => if x.isCls then none else some (.bl (isTy t x))
  | _ => none
def tupOfP : List D → Option D
  | [.lst l] => some (.tup l)
  | [.tup l] => some (.tup l)
  | _ => none
def lstOfP : List D → Option D
  | [.lst l] => some (.lst l)
  | [.tup l] => some (.lst l)
  | _ => none
def sumP : List D → Option D
  | [.lst l] => (intsD l).map fun ns => .int ns.sum
  | [.tup l] => (intsD l).map fun ns => .int ns.sum
  | _ => none
def min2P : List D → Option D
  | [.int i, .int j] => some (.int (if j < i then j else i))
  | _ => none
def max2P : List D → Option D
  | [.int i, .int j] => some (.int (if j > i then j else i))
  | _ => none
def minP : List D → Option D
  | [.lst l] => match intsD l with
    | some (a :: r) => some (.int (r.foldl min a))
    | _ => none
  | _ => none
def maxP : List D → Option D
  | [.lst l] => match intsD l with
    | some (a :: r) => some (.int (r.foldl max a))
    | _ => none
  | _ => none
/-- texts by their code points -/
def leS (a b : Str) : Bool := decide (a.cps.toList ≤ b.cps.toList)
/-- tuples of ints -/
def tupsD : List D → Option (List (List Int))
  | [] => some []
  | .tup l :: r => match intsD l, tupsD r with
    | some a, some b => some (a :: b)
    | _, _ => none
  | _ :: _ => none
/-- by their items, from the first one on -/
def leT : List Int → List Int → Bool
  | [], _ => true
  | _ :: _, [] => false
  | a :: l, b :: m => decide (a < b) || (decide (a = b) && leT l m)
/-- of one length, not empty, no item below 0 -/
def evenT : List (List Int) → Bool
  | [] => true
  | a :: r => decide (1 ≤ a.length) && (a :: r).all fun t => decide (t.length = a.length) && t.all fun x => decide (0 ≤ x)
def tupI (t : List Int) : D := .tup (t.map .int)
def srt1 (ss : List Str) : Option D := if ss.length < 64 then some (.lst ((ss.mergeSort leS).map .str)) else none
def srt2 (ts : List (List Int)) : Option D := if ts.length < 64 && evenT ts then some (.lst ((ts.mergeSort leT).map tupI)) else none
def srtP : List D → Option D
  | [.lst l] => match strsD l with
    | some ss => srt1 ss
    | none => (match tupsD l with
      | some ts => srt2 ts
      | none => none)
  | _ => none
def isbP : List D → Option D
  | [.bl a, .bl b] => some (.bl (a == b))
  | _ => none
def isnbP : List D → Option D
  | [.bl a, .bl b] => some (.bl (!(a == b)))
  | _ => none
def allP : List D → Option D
  | [.lst l] => (boolsD l).map fun bs => .bl (bs.all id)
  | _ => none
def anyP : List D → Option D
  | [.lst l] => (boolsD l).map fun bs => .bl (bs.any id)
  | _ => none
def absP : List D → Option D
  | [.int i] => some (.int (if i < 0 then -i else i))
  | _ => none
def strP : List D → Option D
  | [.int i] => if i.natAbs.log2 < 1920 then some (.str (toString i)) else none
  | [.str a] => some (.str a)
  | _ => none
def intP : List D → Option D
  | [.int i] => some (.int i)
  | [.str a] => match PySem.intText? a with
    | some n => if a.length ≤ 640 then some (.int n) else none
    | none => none
  | _ => none
def reprP : List D → Option D
  | [x] => match x.toPy with
    | some p => if p.showable && !p.hasDict && decide (p.shown.length ≤ szl) && decide (p.depth ≤ 60) then some (.str p.shown) else none
    | none => none
  | _ => none
def dvmP : List D → Option D
  | [.int i, .int j] => if decide (0 < j) && !Builtin.divisionGoesByPylong i j then some (.tup [.int (i / j), .int (i % j)]) else none
  | _ => none
def idxP : List D → Option D
  | [.lst l, .int i] => atI l i
  | [.tup l, .int i] => atI l i
  | [.scr l, .int i] => (atI l i).map .int
  | [.str z, .int i] => if z.length ≤ szl then (atI z.cps.toList i).map fun c => .str ⟨#[c]⟩ else none
  | _ => none
def cut1 (x : D) (lo hi : Option Int) : Option D := match x with
  | .lst l => some (.lst (cutD l lo hi))
  | .tup l => some (.tup (cutD l lo hi))
  | .str z => if z.length ≤ szl then some (.str (cutS z lo hi)) else none
  | .scr l => some (.lst (cutD (l.map .int) lo hi))
  | _ => none
def slcP : Bool → Bool → List D → Option D
  | true, true, [x, .int a, .int b] => cut1 x (some a) (some b)
  | true, false, [x, .int a] => cut1 x (some a) none
  | false, true, [x, .int b] => cut1 x none (some b)
  | _, _, _ => none
def cutL (x : D) (lo hi : Option Int) : Option D := match x with
  | .lst l => some (.lst (cutD l lo hi))
  | .scr l => some (.lst (cutD (l.map .int) lo hi))
  | _ => none
def slcLP : Bool → Bool → List D → Option D
  | true, true, [x, .int a, .int b] => cutL x (some a) (some b)
  | true, false, [x, .int a] => cutL x (some a) none
  | false, true, [x, .int b] => cutL x none (some b)
  | _, _, _ => none
def splitP : List D → Option D
  | [.str a, .str b] => if decide (b.length ≠ 0) && decide (a.length + 2 ≤ szl) then some (.lst ((Txt.split a b).map .str)) else none
  | _ => none
def join1 (a : Str) (l : List D) : Option D := match strsD l with
  | some ys => if join2 a ys ≤ szl then some (.str (Txt.join a ys)) else none
  | none => none
def joinP : List D → Option D
  | [.str a, .lst l] => join1 a l
  | [.str a, .tup l] => join1 a l
  | _ => none
def fldP (c j : Nat) : List D → Option D
  | [.obj c' l] => if c' = c then l[j]? else none
  | _ => none
def rngI : List D → Option (List D)
  | [.int b] => rng 0 b
  | [.int a, .int b] => rng a b
  | _ => none
def runP : Pr → List D → Option D
  | .addL => addLP
  | .mulL => mulLP
  | .slcL a b => slcLP a b
  | .add => addP
  | .sub => subP
  | .mul => mulP
  | .fdiv => fdivP
  | .mod => modP
  | .pow => powP
  | .neg => negP
  | .eq => eqP
  | .ne => neP
  | .lt => ltP
  | .le => leP
  | .gt => gtP
  | .ge => geP
  | .isin => inP
  | .notin => ninP
  | .isN => isNP
  | .isnN => isnNP
  | .len => lenP
  | .isI t => isIP t
  | .tupOf => tupOfP
  | .lstOf => lstOfP
  | .sumL => sumP
  | .min2 => min2P
  | .max2 => max2P
  | .minL => minP
  | .maxL => maxP
  | .allL => allP
  | .anyL => anyP
  | .absI => absP
  | .strOf => strP
  | .intOf => intP
  | .repr => reprP
  | .dvm => dvmP
  | .idx => idxP
  | .fld c j => fldP c j
  | .slc a b => slcP a b
  | .split => splitP
  | .join => joinP
  | .tupRng => fun ds => (rngI ds).map .tup
  | .lstRng => fun ds => (rngI ds).map .lst
  | .srt => srtP
  | .isb => isbP
  | .isnb => isnbP
  | _ => fun _ => none

/-! ## The core -/
inductive CT where
  | nm (i : Nat)
  | tp (l : List CT)

/-- what a parameter gets: the j-th written argument, the j-th default -/
inductive PM where
  | a (j : Nat) | d (j : Nat)
deriving DecidableEq
/-- which special method of an instance -/
inductive StK where
  | str | len | bool
deriving DecidableEq
mutual
inductive CE where
  | var (i : Nat) | fz (i : Nat) | cst (d : D) | glb (k : Nat)
  | tup (l : CL) | lst (l : CL)
  | prim (p : Pr) (l : CO)
  | chain (p q : Pr) (a b c : CE)
  | and (a b : CE) | or (a b : CE) | not (a : CE)
  | ite (t a b : CE)
  | call (f : Nat) (pm : List PM) (l lk : CA)
  | new (c f : Nat) (pm : List PM) (l lk : CA)
  | mc (c f : Nat) (pm : List PM) (o : CE) (l lk : CA)
  | pc (c f : Nat) (o : CE)
  | cm (c f : Nat) (pm : List PM) (l lk : CA)
  | st (q : StK) (c f : Nat) (o : CE)
  | newV (i c f : Nat) (pm : List PM) (l lk : CA)
  | pop (i : Nat) (c : CE)
  | comp (own : List Nat) (e : CE) (g : CG)
  | comp2 (own own1 : List Nat) (e : CE) (g g1 : CG)
/-- items of a display, with stars -/
inductive CL where
  | nil | cons (c : CE) (r : CL) | star (c : CE) (r : CL)
/-- operands of a primitive: a value, or a slot that is looked at -/
inductive CP where
  | val (c : CE) | pk (i : Nat) | ival (c : CE) | sval (c : CE)
inductive CO where
  | nil | cons (o : CP) (r : CO)
/-- arguments: a value, a slot that is lent, a new object that is lent -/
inductive CA where
  | nil | val (c : CE) (r : CA) | bor (i : Nat) (r : CA) | tmp (c : CE) (r : CA)
inductive CI where
  | seq (c : CE) | rng (l : CL) | enum (l : CL) | zip (l : CL)
inductive CG where
  | g (t : CT) (it : CI) (c : CE)
end

mutual
inductive CS where
  | asg (i : Nat) (c : CE) | asgO (i : Nat) (c : CE)
  | asgT (t : CT) (c : CE)
  | par (l : List (Nat × Bool)) (c : CL)
  | setI (i : Nat) (x v : CE)
  | setN (i : Nat) (x : CE) (j : Nat) (v : CE)
  | app (i : Nat) (c : CE) | ext (i : Nat) (c : CE)
  | setF (i n j : Nat) (c : CE)
  | exp (c : CE) | ret (c : CE) | retF (c : CE) | retM (i : Nat) | retN
  | ite (c : CE) (a b : CB)
  | for_ (t : CT) (it : CI) (b : CB)
  | whl (c : CE) (b : CB)
  | pass | never
  | tryT (b : CB)
inductive CB where
  | nil | cons (s : CS) (b : CB)
end

/-! ## The interpreter -/
mutual
def putT : CT → D → Slots → Option Slots
  | .nm i, d, s => match s[i]? with
    | some (.bo _) => none
    | none => none
    | _ => some (s.set i (.fr d))
  | .tp l, .tup ds, s => putTs l ds s
  | .tp l, .lst ds, s => putTs l ds s
  | .tp _, _, _ => none
def putTs : List CT → List D → Slots → Option Slots
  | [], [], s => some s
  | t :: ts, d :: ds, s => match putT t d s with
    | some s1 => putTs ts ds s1
    | none => none
  | _, _, _ => none
end
/-- what a slot holds -/
def seen (s : Slots) (i : Nat) : Option D := match s[i]? with
  | some (.fr d) => some d
  | some (.ow d) => some d
  | some (.bo d) => some d
  | _ => none
inductive OV where
  | d (x : D) | s (i : Nat)
def solve (s : Slots) : List OV → Option (List D)
  | [] => some []
  | .d x :: r => match solve s r with
    | some l => some (x :: l)
    | none => none
  | .s i :: r => match seen s i, solve s r with
    | some x, some l => some (x :: l)
    | _, _ => none
/-- the slots own of s, the others of s' -/
def back (own : List Nat) (s s' : Slots) : Slots := own.foldl (fun acc i => match s[i]? with
  | some x => acc.set i x
  | none => acc) s'
def wipeS (s : Slots) : List Nat → Slots
  | [] => s
  | v :: vs => (wipeS s vs).set v .no
def forL (body : Slots → R Flow) (put : D → Slots → Option Slots) : List D → Slots → R Flow
  | [], s => .ok .nx s
  | x :: xs, s => match put x s with
    | none => .bad
    | some s1 => match body s1 with
      | .ok .nx s2 => forL body put xs s2
      | .ok .ct s2 => forL body put xs s2
      | .ok .bk s2 => .ok .nx s2
      | .ok (.rt d) s2 => .ok (.rt d) s2
      | .exc c fs s2 => .exc c fs s2
      | .bad => .bad
def whileL (test : Slots → R Bool) (body : Slots → R Flow) : Nat → Slots → R Flow
  | 0, _ => .bad
  | n + 1, s => match test s with
    | .ok true s1 => (match body s1 with
      | .ok .nx s2 => whileL test body n s2
      | .ok .ct s2 => whileL test body n s2
      | .ok .bk s2 => .ok .nx s2
      | .ok (.rt d) s2 => .ok (.rt d) s2
      | .exc c fs s2 => .exc c fs s2
      | .bad => .bad)
    | .ok false s1 => .ok .nx s1
    | .exc c fs s1 => .exc c fs s1
    | .bad => .bad
def optR {α β : Type} (x : Option α) (f : α → R β) : R β := match x with
  | some a => f a
  | none => .bad
def Sl.plain : Sl → Bool
  | .ow _ => false
  | .bo _ => false
  | _ => true
def plainS (s : Slots) : List Nat → Bool
  | [] => true
  | i :: r => (match s[i]? with
    | some x => x.plain
    | none => true) && plainS s r
def wipeP (own : List Nat) (s : Slots) : Option Slots := if plainS s own then some (wipeS s own) else none
/-- the items of a comprehension: put the item, test, the value; own names forgotten between the turns -/
def compL (put : D → Slots → Option Slots) (test : Slots → R Bool) (val : Slots → R D) (own : List Nat) : List D → Slots → List D → R (List D)
  | [], s, acc => .ok acc s
  | x :: xs, s, acc => optR (put x s) fun s1 => (test s1).bind fun b s2 =>
    if b then (val s2).bind fun d s3 => if acc.length < szl then optR (wipeP own s3) fun s4 => compL put test val own xs s4 (acc ++ [d]) else .bad
    else optR (wipeP own s2) fun s4 => compL put test val own xs s4 acc
/-- .. two clauses -/
def compL2 (put : D → Slots → Option Slots) (test : Slots → R Bool) (inner : Slots → List D → R (List D)) (own : List Nat) : List D → Slots → List D → R (List D)
  | [], s, acc => .ok acc s
  | x :: xs, s, acc => optR (put x s) fun s1 => (test s1).bind fun b s2 =>
    if b then (inner s2 acc).bind fun acc' s3 => optR (wipeP own s3) fun s4 => compL2 put test inner own xs s4 acc'
    else optR (wipeP own s2) fun s4 => compL2 put test inner own xs s4 acc
def compEnd (own : List Nat) (s1 : Slots) : R (List D) → R D
  | .ok acc s2 => .ok (.lst acc) (back own s1 s2)
  | _ => .bad
def enumD : Nat → List D → List D
  | _, [] => []
  | n, x :: r => .tup [.int (n : Nat), x] :: enumD (n + 1) r
def zipD : List D → List D → List D
  | x :: xs, y :: ys => .tup [x, y] :: zipD xs ys
  | _, _ => []

def enumI : List D → Option (List D)
  | [.lst l] => some (enumD 0 l)
  | [.tup l] => some (enumD 0 l)
  | _ => none
def zipI : List D → Option (List D)
  | [.lst l, .lst m] => some (zipD l m)
  | [.tup l, .tup m] => some (zipD l m)
  | [.lst l, .tup m] => some (zipD l m)
  | [.tup l, .lst m] => some (zipD l m)
  | _ => none
/-- a list of one's own, or lent -/
def isOL (s : Slots) (i : Nat) : Bool := match s[i]? with
  | some (.ow (.lst _)) => true
  | some (.bo (.lst _)) => true
  | _ => false
def popD (i : Nat) (d : D) (s : Slots) : R D := match d with
  | .int k => (match s[i]? with
    | some (.ow (.lst l)) => if l.length ≤ szl then (match ixN l.length k with
      | some j => (match l[j]? with
        | some x => .ok x (s.set i (.ow (.lst (l.eraseIdx j))))
        | none => .bad)
      | none => .bad) else .bad
    | _ => .bad)
  | _ => .bad
/-- arguments as evaluated: value | slot | new object -/
inductive AV where
  | v (d : D) | b (i : Nat) | t (d : D)
/-- the def's own: parameters, borrowed ones, defaults, whether it gives a new object -/
structure Sig where
  np : Nat
  bor : List Nat
  dfl : List D
  fresh : Bool
/-- what a slot owns -/
def ownD (s : Slots) (i : Nat) : Option D := match s[i]? with
  | some (.ow d) => some d
  | some (.bo d) => some d
  | _ => none
def avD (s : Slots) : AV → Option D
  | .v d => some d
  | .t d => some d
  | .b i => ownD s i
def argD (s : Slots) (xs : List AV) (dfl : List D) : PM → Option D
  | .a j => match xs[j]? with
    | some x => avD s x
    | none => none
  | .d j => dfl[j]?
def argsOf (s : Slots) (xs : List AV) (dfl : List D) : List PM → Option (List D)
  | [] => some []
  | m :: r => match argD s xs dfl m, argsOf s xs dfl r with
    | some d, some ds => some (d :: ds)
    | _, _ => none
/-- lent ones go to parameters that borrow -/
def lendP (bor : List Nat) (xs : List AV) : Nat → List PM → Bool
  | _, [] => true
  | p, .a j :: r => (match xs[j]? with
    | some (.v _) => !bor.contains p
    | some _ => bor.contains p
    | none => false) && lendP bor xs (p + 1) r
  | p, .d _ :: r => !bor.contains p && lendP bor xs (p + 1) r
def pmA : List PM → List Nat
  | [] => []
  | .a j :: r => j :: pmA r
  | .d _ :: r => pmA r
def avB : List AV → List Nat
  | [] => []
  | .b i :: r => i :: avB r
  | _ :: r => avB r
def lendOk (sg : Sig) (xs : List AV) (pm : List PM) : Bool := lendP sg.bor xs 0 pm && decide (pmA pm).Nodup && decide (avB xs).Nodup && decide (pm.length = sg.np)
/-- what was lent comes back -/
def giveBack (xs : List AV) : List PM → List D → Slots → Option Slots
  | [], [], s => some s
  | .d _ :: pm, _ :: outs, s => giveBack xs pm outs s
  | .a j :: pm, d :: outs, s => (match xs[j]? with
    | some (.b i) => (match s[i]? with
      | some (.ow _) => giveBack xs pm outs (s.set i (.ow d))
      | some (.bo _) => giveBack xs pm outs (s.set i (.bo d))
      | _ => none)
    | _ => giveBack xs pm outs s)
  | _, _, _ => none
def doCall (cl : CallH) (g : Nat → Option Sig) (f : Nat) (pm : List PM) (xs : List AV) (s : Slots) : R D := match g f with
  | none => .bad
  | some sg => if lendOk sg xs pm then (match argsOf s xs sg.dfl pm with
    | none => .bad
    | some ds => match cl f ds with
      | .ok d outs => (match giveBack xs pm outs s with
        | some s' => .ok d s'
        | none => .bad)
      | .exc c fs outs => (match giveBack xs pm outs s with
        | some s' => .exc c fs s'
        | none => .bad)
      | .bad => .bad) else .bad
/-- a new instance: the object itself is the first argument -/
def doNew (cl : CallH) (g : Nat → Option Sig) (c f : Nat) (pm : List PM) (xs : List AV) (s : Slots) : R D := match g f with
  | none => .bad
  | some sg => if lendOk sg (.t (.obj c []) :: xs) (.a 0 :: pm) then (match argsOf s (.t (.obj c []) :: xs) sg.dfl (.a 0 :: pm) with
    | none => .bad
    | some ds => match cl f ds with
      | .ok .non (d :: outs) => (match giveBack (.t (.obj c []) :: xs) (.a 0 :: pm) (d :: outs) s with
        | some s' => .ok d s'
        | none => .bad)
      | .exc c2 fs outs => (match giveBack (.t (.obj c []) :: xs) (.a 0 :: pm) outs s with
        | some s' => .exc c2 fs s'
        | none => .bad)
      | _ => .bad) else .bad
/-- the slot i holds the class c -/
def isClsAt (s : Slots) (i c : Nat) : Bool := match s[i]? with
  | some (.fr (.cls c')) => c' == c
  | _ => false
/-- an instance of the class c -/
def isObj (c : Nat) : D → Bool
  | .obj c' _ => c' == c
  | _ => false
def noX {α : Type} : R α → R α
  | .ok a s => .ok a s
  | _ => .bad
/-- what the special method gives -/
@[simp] def StK.ok : StK → D → Bool
  | .str, .str _ => true
  | .len, .int n => decide (0 ≤ n) && decide (n < 9223372036854775808)
  | .bool, .bl _ => true
  | _, _ => false
def toS (q : StK) : R D → R D
  | .ok d s => if q.ok d then .ok d s else .bad
  | .exc c fs s => .exc c fs s
  | .bad => .bad
/-- the program around: constants of the module, the defs' signatures -/
structure Pg where
  glb : Nat → Option D
  sig : Nat → Option Sig

section
variable (pg : Pg) (cl : CallH)
def toB : R D → R Bool
  | .ok (.bl b) s => .ok b s
  | .ok _ _ => .bad
  | .exc c fs s => .exc c fs s
  | .bad => .bad
mutual
def runE : CE → Slots → R D
  | .var i, s => match s[i]? with
    | some (.fr d) => .ok d s
    | _ => .bad
  | .fz i, s => match s[i]? with
    | some (.fr d) => .ok d s
    | some (.ow d) => .ok d (s.set i (.fr d))
    | _ => .bad
  | .cst d, s => .ok d s
  | .glb k, s => match pg.glb k with
    | some d => .ok d s
    | none => .bad
  | .tup l, s => (runL l s).bind fun ds s1 => if ds.length ≤ szl then .ok (.tup ds) s1 else .bad
  | .lst l, s => (runL l s).bind fun ds s1 => if ds.length ≤ szl then .ok (.lst ds) s1 else .bad
  | .prim p l, s => (runO l s).bind fun os s1 => match solve s1 os with
    | none => .bad
    | some ds => match runP p ds with
      | some d => .ok d s1
      | none => .bad
  | .chain p q a b c, s => (runE a s).bind fun x s1 => (runE b s1).bind fun y s2 => match runP p [x, y] with
    | some (.bl true) => (runE c s2).bind fun z s3 => (match runP q [y, z] with
      | some d => .ok d s3
      | none => .bad)
    | some (.bl false) => .ok (.bl false) s2
    | _ => .bad
  | .and a b, s => (toB (runE a s)).bind fun x s1 => if x then runE b s1 else .ok (.bl false) s1
  | .or a b, s => (toB (runE a s)).bind fun x s1 => if x then .ok (.bl true) s1 else runE b s1
  | .not a, s => (toB (runE a s)).bind fun x s1 => .ok (.bl (!x)) s1
  | .ite t a b, s => (toB (runE t s)).bind fun x s1 => if x then runE a s1 else runE b s1
  | .call f pm l lk, s => (runA l s).bind fun xs s1 => (runA lk s1).bind fun zs s2 => doCall cl pg.sig f pm (xs ++ zs) s2
  | .new c f pm l lk, s => (runA l s).bind fun xs s1 => (runA lk s1).bind fun zs s2 => doNew cl pg.sig c f pm (xs ++ zs) s2
  | .mc c f pm o l lk, s => (runE o s).bind fun d s1 => if isObj c d then (runA l s1).bind fun xs s2 => (runA lk s2).bind fun zs s3 => doCall cl pg.sig f pm (.v d :: (xs ++ zs)) s3 else .bad
  | .pc c f o, s => (runE o s).bind fun d s1 => if isObj c d then noX (doCall cl pg.sig f [.a 0] [.v d] s1) else .bad
  | .st q c f o, s => (runE o s).bind fun d s1 => if isObj c d then toS q (noX (doCall cl pg.sig f [.a 0] [.v d] s1)) else .bad
  | .cm c f pm l lk, s => (runA l s).bind fun xs s1 => (runA lk s1).bind fun zs s2 => doCall cl pg.sig f pm (.v (.cls c) :: (xs ++ zs)) s2
  | .newV i c f pm l lk, s => if isClsAt s i c then (runA l s).bind fun xs s1 => (runA lk s1).bind fun zs s2 => doNew cl pg.sig c f pm (xs ++ zs) s2 else .bad
  | .pop i c, s => if isOL s i then (runE c s).bind fun d s1 => popD i d s1 else .bad
  | .comp own e (.g t it c), s => (runI it s).bind fun xs s1 => optR (wipeP own s1) fun s0 => compEnd own s1 (compL (putT t) (fun s => toB (runE c s)) (runE e) own xs s0 [])
  | .comp2 own own1 e (.g t it c) (.g t1 it1 c1), s => (runI it s).bind fun xs s1 => optR (wipeP own s1) fun s0 => compEnd own s1 (compL2 (putT t) (fun s => toB (runE c s)) (fun s2 acc => (runI it1 s2).bind fun ys s3 => optR (wipeP own1 s3) fun s4 => compL (putT t1) (fun s => toB (runE c1 s)) (runE e) own1 ys s4 acc) own xs s0 [])
def runL : CL → Slots → R (List D)
  | .nil, s => .ok [] s
  | .cons c r, s => (runE c s).bind fun d s1 => (runL r s1).bind fun ds s2 => .ok (d :: ds) s2
  | .star c r, s => (runE c s).bind fun d s1 => match d with
    | .lst l => (runL r s1).bind fun ds s2 => .ok (l ++ ds) s2
    | .tup l => (runL r s1).bind fun ds s2 => .ok (l ++ ds) s2
    | _ => .bad
def runO : CO → Slots → R (List OV)
  | .nil, s => .ok [] s
  | .cons o r, s => (runOV o s).bind fun d s1 => (runO r s1).bind fun ds s2 => .ok (d :: ds) s2
def runOV : CP → Slots → R OV
  | .val c, s => (runE c s).bind fun d s1 => .ok (.d d) s1
  | .pk i, s => match seen s i with
    | some _ => .ok (.s i) s
    | none => .bad
  | .ival c, s => (runE c s).bind fun d s1 => match d with
    | .int i => .ok (.d (.int i)) s1
    | _ => .bad
  | .sval c, s => (runE c s).bind fun d s1 => match d with
    | .str i => .ok (.d (.str i)) s1
    | _ => .bad
def runA : CA → Slots → R (List AV)
  | .nil, s => .ok [] s
  | .val c r, s => (runE c s).bind fun d s1 => (runA r s1).bind fun ds s2 => .ok (.v d :: ds) s2
  | .bor i r, s => match ownD s i with
    | some _ => (runA r s).bind fun ds s2 => .ok (.b i :: ds) s2
    | none => .bad
  | .tmp c r, s => (runE c s).bind fun d s1 => (runA r s1).bind fun ds s2 => .ok (.t d :: ds) s2
def runI : CI → Slots → R (List D)
  | .seq c, s => (runE c s).bind fun d s1 => optR (items d) fun xs => .ok xs s1
  | .rng l, s => (runL l s).bind fun ds s1 => optR (rngI ds) fun xs => .ok xs s1
  | .enum l, s => (runL l s).bind fun ds s1 => optR (enumI ds) fun xs => .ok xs s1
  | .zip l, s => (runL l s).bind fun ds s1 => optR (zipI ds) fun xs => .ok xs s1
end
end
end DL

set_option Elab.async false
set_option linter.all false
set_option maxRecDepth 100000
set_option maxHeartbeats 4000000
namespace DL
open PySem L2
section
variable (pg : Pg) (cl : CallH) (wl : Nat)
/-- a name's slot gets frozen data, an object of its own -/
def putN (i : Nat) (d : D) (s : Slots) : Option Slots := match s[i]? with
  | some (.bo _) => none
  | none => none
  | _ => some (s.set i (.fr d))
def putO (i : Nat) (d : D) (s : Slots) : Option Slots := match s[i]? with
  | some (.bo _) => none
  | none => none
  | _ => some (s.set i (.ow d))
def putPar : List (Nat × Bool) → List D → Slots → Option Slots
  | [], [], s => some s
  | (i, o) :: r, d :: ds, s => match (if o then putO i d s else putN i d s) with
    | some s1 => putPar r ds s1
    | none => none
  | _, _, _ => none
/-- an own or borrowed slot's content is changed -/
def chg (i : Nat) (f : D → Option D) (s : Slots) : Option Slots := match s[i]? with
  | some (.ow d) => (match f d with
    | some d' => some (s.set i (.ow d'))
    | none => none)
  | some (.bo d) => (match f d with
    | some d' => some (s.set i (.bo d'))
    | none => none)
  | _ => none
def setD (k v : D) : D → Option D
  | .lst l => (match k with
    | .int i => (match ixN l.length i with
      | some j => some (.lst (l.set j v))
      | none => none)
    | _ => none)
  | _ => none
def appD (v : D) : D → Option D
  | .lst l => if l.length < szl then some (.lst (l ++ [v])) else none
  | _ => none
def extD (v : D) : D → Option D
  | .lst l => (match v with
    | .lst l' => if l.length + l'.length ≤ szl then some (.lst (l ++ l')) else none
    | _ => none)
  | _ => none
def setFD (n j : Nat) (v : D) : D → Option D
  | .obj c l => if c = n then (if j < l.length then some (.obj c (l.set j v)) else if j = l.length then some (.obj c (l ++ [v])) else none) else none
  | _ => none
def pairD : D → Option (D × D)
  | .tup [a, b] => some (a, b)
  | _ => none
def opt {α : Type} (x : Option Slots) (k : Slots → R α) : R α := match x with
  | some s => k s
  | none => .bad
mutual
def runS : CS → Slots → R Flow
  | .asg i c, s => (runE pg cl c s).bind fun d s1 => opt (putN i d s1) fun s2 => .ok .nx s2
  | .asgO i c, s => (runE pg cl c s).bind fun d s1 => opt (putO i d s1) fun s2 => .ok .nx s2
  | .asgT t c, s => (runE pg cl c s).bind fun d s1 => opt (putT t d s1) fun s2 => .ok .nx s2
  | .par l c, s => (runL pg cl c s).bind fun ds s1 => opt (putPar l ds s1) fun s2 => .ok .nx s2
  | .setI i x v, s => (runE pg cl v s).bind fun d s1 => if isOL s1 i then (runE pg cl x s1).bind fun k s2 => opt (chg i (setD k d) s2) fun s3 => .ok .nx s3 else .bad
  | .setN i x j v, s => (runE pg cl v s).bind fun d s1 => optR (pairD d) fun de => if isOL s1 i then (runE pg cl x s1).bind fun k s2 => opt (chg i (setD k de.1) s2) fun s3 => opt (putN j de.2 s3) fun s4 => .ok .nx s4 else .bad
  | .app i c, s => if isOL s i then (runE pg cl c s).bind fun d s1 => opt (chg i (appD d) s1) fun s2 => .ok .nx s2 else .bad
  | .ext i c, s => if isOL s i then (runE pg cl c s).bind fun d s1 => opt (chg i (extD d) s1) fun s2 => .ok .nx s2 else .bad
  | .setF i n j c, s => (runE pg cl c s).bind fun d s1 => opt (chg i (setFD n j d) s1) fun s2 => .ok .nx s2
  | .exp c, s => (runE pg cl c s).bind fun _ s1 => .ok .nx s1
  | .ret c, s => (runE pg cl c s).bind fun d s1 => .ok (.rt d) s1
  | .retF c, s => (runE pg cl c s).bind fun d s1 => .ok (.rt d) s1
  | .retM i, s => (match s[i]? with
    | some (.ow d) => .ok (.rt d) (s.set i .no)
    | _ => .bad)
  | .retN, s => .ok (.rt .non) s
  | .ite c a b, s => (toB (runE pg cl c s)).bind fun x s1 => if x then runB a s1 else runB b s1
  | .for_ t it b, s => (runI pg cl it s).bind fun xs s1 => forL (runB b) (putT t) xs s1
  | .whl c b, s => whileL (fun s => toB (runE pg cl c s)) (runB b) wl s
  | .pass, s => .ok .nx s
  | .never, _ => .bad
  | .tryT b, s => (match runB b s with
    | .exc _ _ _ => .bad
    | r => r)
def runB : CB → Slots → R Flow
  | .nil, s => .ok .nx s
  | .cons a b, s => match runS a s with
    | .ok .nx s1 => runB b s1
    | r => r
end
end
/-- a def -/
structure Df where
  sg : Sig
  ns : Nat
  body : CB
def argS (g : Sig) (i : Nat) (d : D) : Sl := if g.bor.contains i then .bo d else .fr d
def init (g : Sig) (ns : Nat) (ds : List D) : Slots := ds.mapIdx (argS g) ++ List.replicate (ns - ds.length) .no
/-- the parameters behind the call: what was lent may be another -/
def outsOf (g : Sig) (s : Slots) (ds : List D) : List D := ds.mapIdx fun i d => if g.bor.contains i then (match s[i]? with
  | some (.bo d') => d'
  | _ => d) else d
structure Tab where
  glb : Nat → Option D
  df : Nat → Option Df
def Tab.pg (T : Tab) : Pg := ⟨T.glb, fun f => (T.df f).map Df.sg⟩
def finish (g : Sig) (ds : List D) : R Flow → RF
  | .ok .nx s => if g.fresh then .bad else .ok .non (outsOf g s ds)
  | .ok (.rt d) s => .ok d (outsOf g s ds)
  | .ok _ _ => .bad
  | .exc c fs s => .exc c fs (outsOf g s ds)
  | .bad => .bad
def wlim : Nat := 1000000
def callN (T : Tab) : Nat → CallH
  | 0, _, _ => .bad
  | n + 1, f, ds => match T.df f with
    | none => .bad
    | some d => if ds.length = d.sg.np then finish d.sg ds (runB T.pg (callN T n) wlim d.body (init d.sg d.ns ds)) else .bad
end DL

set_option Elab.async false
set_option linter.all false
set_option maxRecDepth 100000
set_option maxHeartbeats 4000000
namespace DL
open PySem L2
abbrev St := L2.St
def Sl.own : Sl → Option D
  | .ow d => some d
  | .bo d => some d
  | _ => none
def ownAt (st : Slots) (i : Nat) : Option D := (st[i]?).bind Sl.own
def Own (σ : St) (st : Slots) (a : Addr) : Prop := ∃ i d, ownAt st i = some d ∧ σ[i]? = some (some (.ref a))
structure Rel (k : Wk) (G H : Hp) (σ : St) (st : Slots) : Prop where
  sub : Sub G H
  len : st.length = σ.length
  fr : ∀ (i : Nat) (d : D), st[i]? = some (Sl.fr d) → ∃ v, σ[i]? = some (some v) ∧ DR k G d v
  ow : ∀ (i : Nat) (d : D), ownAt st i = some d → ∃ a o, σ[i]? = some (some (.ref a)) ∧ H a = some o ∧ G a = none ∧ OR k G d o
  inj : ∀ (i j : Nat) (d d' : D) (a : Addr), ownAt st i = some d → ownAt st j = some d' → σ[i]? = some (some (.ref a)) → σ[j]? = some (some (.ref a)) → i = j
structure Post (k : Wk) (σ : St) (st : Slots) (G H : Hp) (σ' : St) (st' : Slots) (G' H' : Hp) : Prop where
  mono : Sub G G'
  keep : ∀ a o, H a = some o → ¬ Own σ st a → H' a = some o
  new : ∀ a o, G' a = some o → G a = some o ∨ H a = none ∨ Own σ st a
  own : ∀ a, Own σ' st' a → Own σ st a ∨ H a = none
  dom : ∀ a, H' a = none → H a = none
  bo : ∀ (i : Nat) (d : D), st[i]? = some (Sl.bo d) → (∃ d' : D, st'[i]? = some (Sl.bo d')) ∧ σ'[i]? = σ[i]?
  rel : Rel k G' H' σ' st'
theorem Sub.refl (G : Hp) : Sub G G := fun _ _ h => h
theorem Sub.trans {G G1 G2 : Hp} (a : Sub G G1) (b : Sub G1 G2) : Sub G G2 := fun x o h => b x o (a x o h)
section
variable {k : Wk} {G G1 G2 H H1 H2 : Hp} {σ σ1 σ2 : St} {st st1 st2 : Slots}
theorem Post.refl (r : Rel k G H σ st) : Post k σ st G H σ st G H :=
  ⟨Sub.refl G, fun _ _ h _ => h, fun _ _ h => .inl h, fun _ h => .inl h, fun _ h => h, fun i d h => ⟨⟨d, h⟩, rfl⟩, r⟩
theorem Post.trans (a : Post k σ st G H σ1 st1 G1 H1) (b : Post k σ1 st1 G1 H1 σ2 st2 G2 H2) : Post k σ st G H σ2 st2 G2 H2 := by
  refine ⟨a.mono.trans b.mono, fun x o h n => ?_, fun x o h => ?_, fun x h => ?_, fun x h => a.dom x (b.dom x h), fun i d h => ?_, b.rel⟩
  · refine b.keep x o (a.keep x o h n) fun c => ?_
    rcases a.own x c with q | q
    · exact n q
    · rw [q] at h
      cases h
  · rcases b.new x o h with q | q | q
    · exact a.new x o q
    · exact .inr (.inl (a.dom x q))
    · rcases a.own x q with z | z
      · exact .inr (.inr z)
      · exact .inr (.inl z)
  · rcases b.own x h with q | q
    · exact a.own x q
    · exact .inr (a.dom x q)
  · obtain ⟨⟨d1, h1⟩, e1⟩ := a.bo i d h
    obtain ⟨h2, e2⟩ := b.bo i d1 h1
    exact ⟨h2, e2.trans e1⟩
/-- new frozen objects, nothing else -/
structure New (G H G' H' : Hp) : Prop where
  mono : Sub G G'
  keep : Sub H H'
  new : ∀ a o, G' a = some o → G a = some o ∨ H a = none
  sub : Sub G' H'
theorem New.refl (s : Sub G H) : New G H G H := ⟨Sub.refl G, Sub.refl H, fun _ _ h => .inl h, s⟩
theorem none_of_sub (s : Sub H H1) {a : Addr} (h : H1 a = none) : H a = none := by
  cases e : H a with
  | none => rfl
  | some o => rw [s a o e] at h; cases h
theorem New.trans (a : New G H G1 H1) (b : New G1 H1 G2 H2) : New G H G2 H2 :=
  ⟨a.mono.trans b.mono, a.keep.trans b.keep, fun x o h => by
    rcases b.new x o h with q | q
    · exact a.new x o q
    · exact .inr (none_of_sub a.keep q), b.sub⟩
theorem New.put (s : Sub G H) {p : Addr} {o : HO} (h : H p = none) : New G H (upd G p o) (upd H p o) := by
  have hg : G p = none := none_of_sub s h
  refine ⟨fun a u e => ?_, fun a u e => ?_, fun a u e => ?_, fun a u e => ?_⟩
  · rw [upd_ne (ne_of_none e hg)]; exact e
  · rw [upd_ne (ne_of_none e h)]; exact e
  · by_cases c : a = p
    · subst c; exact .inr h
    · rw [upd_ne c] at e; exact .inl e
  · by_cases c : a = p
    · subst c; rw [upd_same] at e ⊢; exact e
    · rw [upd_ne c] at e ⊢; exact s a u e
theorem New.putH (s : Sub G H) {p : Addr} {o : HO} (h : H p = none) : New G H G (upd H p o) :=
  ⟨Sub.refl G, fun a u e => by rw [upd_ne (ne_of_none e h)]; exact e, fun _ _ e => .inl e, fun a u e => by rw [upd_ne (ne_of_none (s a u e) h)]; exact s a u e⟩
theorem Own.some_of (r : Rel k G H σ st) {a : Addr} (h : Own σ st a) : ∃ o, H a = some o ∧ G a = none := by
  obtain ⟨i, d, e, e2⟩ := h
  obtain ⟨b, o, h1, h2, h3, _⟩ := r.ow i d e
  rw [e2] at h1
  cases h1
  exact ⟨o, h2, h3⟩
theorem New.rel (n : New G H G1 H1) (r : Rel k G H σ st) : Rel k G1 H1 σ st := by
  refine ⟨n.sub, r.len, fun i d h => ?_, fun i d h => ?_, r.inj⟩
  · obtain ⟨v, h1, h2⟩ := r.fr i d h
    exact ⟨v, h1, DR.mono n.mono d v h2⟩
  · obtain ⟨a, o, h1, h2, h3, h4⟩ := r.ow i d h
    refine ⟨a, o, h1, n.keep a o h2, ?_, OR.mono n.mono h4⟩
    cases e : G1 a with
    | none => rfl
    | some u =>
      rcases n.new a u e with q | q
      · rw [h3] at q; cases q
      · rw [h2] at q; cases q
theorem New.post (n : New G H G1 H1) (r : Rel k G H σ st) : Post k σ st G H σ st G1 H1 :=
  ⟨n.mono, fun a o h _ => n.keep a o h, fun a o h => (n.new a o h).imp_right .inl, fun _ h => .inl h, fun a h => none_of_sub n.keep h, fun i d h => ⟨⟨d, h⟩, rfl⟩, n.rel r⟩
theorem Post.new' (p : Post k σ st G H σ1 st1 G1 H1) (n : New G1 H1 G2 H2) : Post k σ st G H σ1 st1 G2 H2 := p.trans (n.post p.rel)
end
/-! ## readings -/
/-- an exception: its class, its own dict -/
def XR (k : Wk) (G H : Hp) (c : Nat) : List D → Value → Option Addr → Prop
  | [], cls, d => cls = .ref (k.ca c) ∧ d = none
  | [p], cls, d => cls = .ref (k.ca c) ∧ ∃ da v, d = some da ∧ H da = some (.xd [((k.cf c).headD "", v)]) ∧ DR k G p v
  | _, _, _ => False
section
variable (k : Wk) (W : WX)
def Xc (σ : St) (st : Slots) (G H : Hp) {β : Type} : R β → Prop
  | .ok _ _ => True
  | .exc c fs st' => ∀ cls d σ' G' H', Post k σ st G H σ' st' G' H' → XR k G' H' c fs cls d → W cls d σ' H'
  | .bad => False
def tR {α β : Type} (run : Slots → R α) (vr : Hp → Hp → Slots → α → β → Prop) : St → Hp → (β → Hp → Prop) → Prop := fun σ H Q => ∃ G st, Rel k G H σ st ∧ Xc k W σ st G H (run st) ∧
  ∀ a st' v G' H', run st = .ok a st' → Post k σ st G H σ st' G' H' → vr G' H' st' a v → Q v H'
end
section
variable {k : Wk} {W : WX} {σ σ1 : St} {st st1 : Slots} {G G1 H H1 : Hp} {α β γ : Type}
theorem Xc.next {r : R β} (p : Post k σ st G H σ1 st1 G1 H1) (x : Xc k W σ st G H r) : Xc k W σ1 st1 G1 H1 r := by
  cases r with
  | ok _ _ => trivial
  | exc c fs st' => exact fun cls d σ' G' H' q z => x cls d σ' G' H' (p.trans q) z
  | bad => exact x
theorem Xc.left {r : R α} {f : α → Slots → R β} (x : Xc k W σ st G H (r.bind f)) : Xc k W σ st G H r := by
  cases r with
  | ok _ _ => trivial
  | exc c fs st' => exact x
  | bad => exact x
theorem Xc.right {r : R α} {f : α → Slots → R β} {a : α} {s1 : Slots} (x : Xc k W σ st G H (r.bind f)) (e : r = .ok a s1) (p : Post k σ st G H σ1 st1 G1 H1) : Xc k W σ1 st1 G1 H1 (f a s1) := by
  subst e
  exact Xc.next p x
/-- the first of two in a row -/
theorem tR.first {run : Slots → R α} {vr : Hp → Hp → Slots → α → γ → Prop} {f : α → Slots → R β} {Q : γ → Hp → Prop} (r : Rel k G H σ st) (x : Xc k W σ st G H ((run st).bind f))
    (h : ∀ a st1 v G1 H1, run st = .ok a st1 → Post k σ st G H σ st1 G1 H1 → vr G1 H1 st1 a v → Xc k W σ st1 G1 H1 (f a st1) → Q v H1) : tR k W run vr σ H Q :=
  ⟨G, st, r, x.left, fun a st1 v G1 H1 e p q => h a st1 v G1 H1 e p q (x.right e p)⟩
end
def vD (k : Wk) : Hp → Hp → Slots → D → V → Prop := fun G _ _ d v => DR k G d v
/-- a new object that nothing else knows -/
def vF (k : Wk) (σ : St) (H0 : Hp) : Hp → Hp → Slots → D → V → Prop := fun G H st d v => ∃ a o, v = .ref a ∧ H a = some o ∧ H0 a = none ∧ G a = none ∧ ¬ Own σ st a ∧ OR k G d o
def vDs (k : Wk) : Hp → Hp → Slots → List D → List V → Prop := fun G _ _ d v => DRs k G d v
def vB : Hp → Hp → Slots → Bool → Bool → Prop := fun _ _ _ b c => b = c
end DL

set_option Elab.async false
set_option linter.all false
set_option maxRecDepth 100000
set_option maxHeartbeats 4000000
namespace L2
open PySem
theorem PE.imp {X : Cx} {e : Expr} {t t' : TE} (h : PE X e t) (i : ∀ σ H Q, t' σ H Q → t σ H Q) : PE X e t' := ⟨fun pins s σ H Q I q => h.run pins s σ H Q I (i σ H Q q)⟩
theorem PT.imp {X : Cx} {e : Expr} {t t' : TT} (h : PT X e t) (i : ∀ σ H Q, t' σ H Q → t σ H Q) : PT X e t' := ⟨fun pins s σ H Q I q => h.run pins s σ H Q I (i σ H Q q)⟩
theorem PW.imp {X : Cx} {e : Expr} {t t' : TT} (h : PW X e t) (i : ∀ σ H Q, t' σ H Q → t σ H Q) : PW X e t' := ⟨fun w pins s σ H Q I q => h.run w pins s σ H Q I (i σ H Q q)⟩
theorem PA.imp {X : Cx} {e : List Expr} {t t' : TA} (h : PA X e t) (i : ∀ σ H Q, t' σ H Q → t σ H Q) : PA X e t' := ⟨fun p pins s σ H Q I q => h.run p pins s σ H Q I (i σ H Q q)⟩
theorem PS.imp {X : Cx} {e : Stmt} {t t' : TS} (h : PS X e t) (i : ∀ D σ H, t' D σ H → t D σ H) : PS X e t' := ⟨fun pins s σ H D I q => h.run pins s σ H D I (i D σ H q)⟩
theorem PSs.imp {X : Cx} {e : List Stmt} {t t' : TS} (h : PSs X e t) (i : ∀ D σ H, t' D σ H → t D σ H) : PSs X e t' := ⟨fun pins s σ H D I q => h.run pins s σ H D I (i D σ H q)⟩
end L2
namespace DL
open PySem L2
/-- values of operands -/
def vOV (k : Wk) (σ : St) (G : Hp) : OV → V → Prop
  | .d x, v => DR k G x v
  | .s i, v => σ[i]? = some (some v)
inductive OVR (k : Wk) (σ : St) (G : Hp) : List OV → List V → Prop
  | nil : OVR k σ G [] []
  | cons {x : OV} {v : V} {os : List OV} {vs : List V} : vOV k σ G x v → OVR k σ G os vs → OVR k σ G (x :: os) (v :: vs)
inductive PRs (k : Wk) (G H : Hp) : List D → List V → Prop
  | nil : PRs k G H [] []
  | cons {x : D} {v : V} {ds : List D} {vs : List V} : PR k G H x v → PRs k G H ds vs → PRs k G H (x :: ds) (v :: vs)
def vO (k : Wk) (σ : St) : Hp → Hp → Slots → List OV → List V → Prop := fun G _ _ os vs => OVR k σ G os vs
section
variable (k : Wk) (W : WX) (pg : Pg) (cl : CallH)
def tE (c : CE) : TE := tR k W (runE pg cl c) (vD k)
def tF (c : CE) : TE := fun σ H => tR k W (runE pg cl c) (vF k σ H) σ H
def tT (c : CE) : TT := tR k W (fun s => toB (runE pg cl c s)) vB
def tL (l : CL) : TA := tR k W (runL pg cl l) (vDs k)
def tP (o : CP) : TE := fun σ => tR k W (runOV pg cl o) (fun G _ _ x v => vOV k σ G x v) σ
def tO (l : CO) : TA := fun σ => tR k W (runO pg cl l) (vO k σ) σ
end
section
variable {k : Wk} {W : WX} {pg : Pg} {cl : CallH} {σ : St} {st st1 : Slots} {G G1 H H1 : Hp}
theorem vOV.mono (m : Sub G G1) {x : OV} {v : V} (h : vOV k σ G x v) : vOV k σ G1 x v := by
  cases x with
  | d x => exact DR.mono m x v h
  | s i => exact h
theorem OVR.mono (m : Sub G G1) : ∀ {os : List OV} {vs : List V}, OVR k σ G os vs → OVR k σ G1 os vs
  | _, _, .nil => .nil
  | _, _, .cons h r => .cons (vOV.mono m h) (OVR.mono m r)
theorem ownAt_ow {i : Nat} {d : D} (h : st[i]? = some (.ow d)) : ownAt st i = some d := by unfold ownAt; rw [h]; rfl
theorem ownAt_bo {i : Nat} {d : D} (h : st[i]? = some (.bo d)) : ownAt st i = some d := by unfold ownAt; rw [h]; rfl
theorem ownAt_cases {i : Nat} {d : D} (h : ownAt st i = some d) : st[i]? = some (.ow d) ∨ st[i]? = some (.bo d) := by
  unfold ownAt at h
  cases e : st[i]? with
  | none => rw [e] at h; cases h
  | some x =>
    rw [e] at h
    cases x with
    | no => cases h
    | fr d' => cases h
    | ow d' => exact .inl (by cases h; rfl)
    | bo d' => exact .inr (by cases h; rfl)
theorem Rel.seen (r : Rel k G H σ st) {i : Nat} {d : D} (h : seen st i = some d) : ∃ v, σ[i]? = some (some v) ∧ PR k G H d v := by
  unfold DL.seen at h
  cases e : st[i]? with
  | none => rw [e] at h; cases h
  | some x =>
    rw [e] at h
    cases x with
    | no => cases h
    | fr d' =>
      cases h
      obtain ⟨v, h1, h2⟩ := r.fr i d e
      exact ⟨v, h1, .inl h2⟩
    | ow d' =>
      cases h
      obtain ⟨a, o, h1, h2, _, h4⟩ := r.ow i d (ownAt_ow e)
      exact ⟨_, h1, .inr ⟨a, o, rfl, h2, h4⟩⟩
    | bo d' =>
      cases h
      obtain ⟨a, o, h1, h2, _, h4⟩ := r.ow i d (ownAt_bo e)
      exact ⟨_, h1, .inr ⟨a, o, rfl, h2, h4⟩⟩
theorem solve_ok (r : Rel k G H σ st) : ∀ {os : List OV} {vs : List V} {ds : List D}, OVR k σ G os vs → solve st os = some ds → PRs k G H ds vs
  | _, _, ds, .nil, e => by cases e; exact .nil
  | _, _, ds, .cons (x := .d x) (os := os) h q, e => by
    unfold solve at e
    cases e1 : solve st os with
    | none => rw [e1] at e; cases e
    | some l => rw [e1] at e; cases e; exact .cons (.inl h) (solve_ok r q e1)
  | _, _, ds, .cons (x := .s i) (os := os) h q, e => by
    unfold solve at e
    cases e0 : seen st i with
    | none => rw [e0] at e; cases e
    | some x =>
      cases e1 : solve st os with
      | none => rw [e0, e1] at e; cases e
      | some l =>
        rw [e0, e1] at e
        cases e
        obtain ⟨v, h1, h2⟩ := r.seen e0
        rw [show σ[i]? = some (some _) from h] at h1
        cases h1
        exact .cons h2 (solve_ok r q e1)
/-- an own object is frozen -/
theorem Rel.freeze (r : Rel k G H σ st) {i : Nat} {d : D} (h : st[i]? = some (.ow d)) : ∃ v G', σ[i]? = some (some v) ∧ DR k G' d v ∧ Post k σ st G H σ (st.set i (.fr d)) G' H := by
  obtain ⟨a, o, h1, h2, h3, h4⟩ := r.ow i d (ownAt_ow h)
  have hlt : i < st.length := by
    have z := (List.getElem?_eq_some_iff.mp h).1
    exact z
  have m : Sub G (upd G a o) := fun b u e => by rw [upd_ne (ne_of_none e h3)]; exact e
  have sb : Sub (upd G a o) H := fun b u e => by
    by_cases c : b = a
    · subst c; rw [upd_same] at e; cases e; exact h2
    · rw [upd_ne c] at e; exact r.sub b u e
  have dr : DR k (upd G a o) d (.ref a) := by
    have h5 := OR.mono m h4
    cases d with
    | lst l =>
      obtain ⟨vs, e, q⟩ := h5
      subst e
      exact ⟨a, vs, rfl, upd_same, q⟩
    | dct ks l =>
      obtain ⟨kvs, e, e2, q⟩ := h5
      subst e
      exact ⟨a, kvs, rfl, upd_same, e2, q⟩
    | obj c l =>
      obtain ⟨hc, dx, kvs, e, e2, q⟩ := h5
      subst e
      exact ⟨hc, a, dx, kvs, rfl, upd_same, e2, q⟩
    | _ => exact h5.elim
  have ne : ∀ j d', ownAt (st.set i (.fr d)) j = some d' → j ≠ i ∧ ownAt st j = some d' := fun j d' e => by
    by_cases c : j = i
    · subst c
      unfold ownAt at e
      rw [List.getElem?_set_self hlt] at e
      cases e
    · refine ⟨c, ?_⟩
      unfold ownAt at e ⊢
      rw [List.getElem?_set_ne (Ne.symm c)] at e
      exact e
  refine ⟨_, upd G a o, h1, dr, m, fun b u e _ => e, fun b u e => ?_, fun b ⟨j, d', e1, e2⟩ => .inl ⟨j, d', (ne j d' e1).2, e2⟩, fun _ e => e, fun j d' e => ?_, ?_⟩
  · by_cases c : b = a
    · subst c; exact .inr (.inr ⟨i, d, ownAt_ow h, h1⟩)
    · rw [upd_ne c] at e; exact .inl e
  · have c : i ≠ j := fun z => by subst z; rw [h] at e; cases e
    exact ⟨⟨d', by rw [List.getElem?_set_ne c]; exact e⟩, rfl⟩
  · refine ⟨sb, by rw [List.length_set]; exact r.len, fun j d' e => ?_, fun j d' e => ?_, fun j j' d1 d2 b e1 e2 => r.inj j j' d1 d2 b (ne j d1 e1).2 (ne j' d2 e2).2⟩
    · by_cases c : j = i
      · subst c
        rw [List.getElem?_set_self hlt] at e
        cases e
        exact ⟨_, h1, dr⟩
      · rw [List.getElem?_set_ne (Ne.symm c)] at e
        obtain ⟨v, z1, z2⟩ := r.fr j d' e
        exact ⟨v, z1, DR.mono m d' v z2⟩
    · obtain ⟨c, e⟩ := ne j d' e
      obtain ⟨b, u, z1, z2, z3, z4⟩ := r.ow j d' e
      refine ⟨b, u, z1, z2, ?_, OR.mono m z4⟩
      have nb : b ≠ a := fun z => by
        subst z
        exact c (r.inj j i d' d b e (ownAt_ow h) z1 h1)
      rw [upd_ne nb]
      exact z3
end
section
variable {k : Wk} {W : WX} {pg : Pg} {cl : CallH} {X : Cx}
/-! ### names and constants -/
theorem se_var {i : Nat} {x : Str} {pos : Pos} (h : PE X (.Name x pos) (tVar i)) : PE X (.Name x pos) (tE k W pg cl (.var i)) := h.imp fun σ H Q ⟨G, st, r, x, q⟩ => by
  change Xc k W σ st G H (match st[i]? with | some (.fr d) => .ok d st | _ => .bad) at x
  cases e : st[i]? with
  | none => rw [e] at x; exact x.elim
  | some s =>
    rw [e] at x
    cases s with
    | fr d =>
      obtain ⟨v, h1, h2⟩ := r.fr i d e
      refine ⟨v, h1, q d st v G H ?_ (Post.refl r) h2⟩
      show (match st[i]? with | some (.fr d) => R.ok d st | _ => .bad) = _
      rw [e]
    | _ => exact x.elim
theorem se_fz {i : Nat} {x : Str} {pos : Pos} (h : PE X (.Name x pos) (tVar i)) : PE X (.Name x pos) (tE k W pg cl (.fz i)) := h.imp fun σ H Q ⟨G, st, r, x, q⟩ => by
  change Xc k W σ st G H (match st[i]? with | some (.fr d) => .ok d st | some (.ow d) => .ok d (st.set i (.fr d)) | _ => .bad) at x
  cases e : st[i]? with
  | none => rw [e] at x; exact x.elim
  | some s =>
    rw [e] at x
    cases s with
    | fr d =>
      obtain ⟨v, h1, h2⟩ := r.fr i d e
      refine ⟨v, h1, q d st v G H ?_ (Post.refl r) h2⟩
      show (match st[i]? with | some (.fr d) => R.ok d st | some (.ow d) => .ok d (st.set i (.fr d)) | _ => .bad) = _
      rw [e]
    | ow d =>
      obtain ⟨v, G', h1, h2, p⟩ := r.freeze e
      refine ⟨v, h1, q d _ v G' H ?_ p h2⟩
      show (match st[i]? with | some (.fr d) => R.ok d st | some (.ow d) => .ok d (st.set i (.fr d)) | _ => .bad) = _
      rw [e]
    | _ => exact x.elim
/-- flat data are values by themselves -/
def flV : D → Option V
  | .non => some .non
  | .bl b => some (.bl b)
  | .int i => some (.int i)
  | .str s => some (.str s)
  | _ => none
theorem flV_ok {d : D} {v : V} (h : flV d = some v) (G : Hp) : DR k G d v := by
  cases d <;> first | (cases h; rfl) | cases h
theorem se_cst {e : Expr} {d : D} {v : V} (hv : flV d = some v) (h : PE X e (tC v)) : PE X e (tE k W pg cl (.cst d)) := h.imp fun σ H Q ⟨G, st, r, _, q⟩ =>
  q d st v G H rfl (Post.refl r) (flV_ok hv G)
theorem se_glb {e : Expr} {n : Nat} {d : D} {v : V} (hg : pg.glb n = some d) (hv : ∀ G, DR k G d v) (h : PE X e (tC v)) : PE X e (tE k W pg cl (.glb n)) := h.imp fun σ H Q ⟨G, st, r, _, q⟩ => by
  refine q d st v G H ?_ (Post.refl r) (hv G)
  show (match pg.glb n with | some d => R.ok d st | none => .bad) = _
  rw [hg]
/-! ### rows of expressions -/
theorem sl_nil : PA X [] (tL k W pg cl .nil) := pa_nil.imp fun σ H Q ⟨G, st, r, _, q⟩ => q [] st [] G H rfl (Post.refl r) rfl
def noStar : Expr → Bool
  | .Starred _ _ => false
  | _ => true
theorem star_no {e : Expr} {es : List Expr} {env : Env} (h : noStar e = true) : starEach (e :: es) env = (false, eval e env) :: starEach es env := by
  cases e <;> first | rfl | cases h
theorem sl_cons {c : CE} {l : CL} {e : Expr} {es : List Expr} (hs : noStar e = true) (h : PE X e (tE k W pg cl c)) (hr : PA X es (tL k W pg cl l)) : PA X (e :: es) (tL k W pg cl (.cons c l)) :=
  (pa_cons h hr (star_no hs)).imp fun σ H Q ⟨G, st, r, x, q⟩ => by
    refine tR.first r x fun d st1 v G1 H1 e1 p1 v1 x1 => ?_
    refine tR.first p1.rel x1 fun ds st2 vs G2 H2 e2 p2 v2 x2 => ?_
    refine q (d :: ds) st2 (v :: vs) G2 H2 ?_ (p1.trans p2) ⟨v, vs, rfl, DR.mono p2.mono _ _ v1, v2⟩
    show ((runE pg cl c st).bind fun d s1 => (runL pg cl l s1).bind fun ds s2 => R.ok (d :: ds) s2) = _
    rw [e1]
    show ((runL pg cl l st1).bind fun ds s2 => R.ok (d :: ds) s2) = _
    rw [e2]
    rfl
theorem sl_star {c : CE} {l : CL} {e : Expr} {es : List Expr} {p : Pos} (hK : X.K = k.K) (h : PE X e (tE k W pg cl c)) (hr : PA X es (tL k W pg cl l)) : PA X (.Starred e p :: es) (tL k W pg cl (.star c l)) :=
  (StX.pa_star h hr).imp fun σ H Q ⟨G, st, r, x, q⟩ => by
    refine tR.first r x fun d st1 v G1 H1 e1 p1 v1 x1 => ?_
    have go : ∀ xs : List D, (d = .lst xs ∨ d = .tup xs) → ∃ a vs, v = V.ref a ∧ (SqT X.K H1 a vs ∨ SqL X.K H1 a vs) ∧ DRs k G1 xs vs := by
      rintro xs (rfl | rfl)
      · obtain ⟨a, vs, h1, h2, h3⟩ := v1
        exact ⟨a, vs, h1, .inr (.inl (.inl (p1.rel.sub _ _ h2))), h3⟩
      · obtain ⟨a, vs, h1, h2, h3⟩ := v1
        exact ⟨a, vs, h1, .inl (by rw [hK]; exact sqT_mono p1.rel.sub h2), h3⟩
    cases d with
    | lst xs =>
      obtain ⟨a, vs, h1, h2, h3⟩ := go xs (.inl rfl)
      refine ⟨a, vs, h1, h2, tR.first p1.rel x1 fun ds st2 ws G2 H2 e2 p2 v2 x2 => ?_⟩
      refine q (xs ++ ds) st2 (vs ++ ws) G2 H2 ?_ (p1.trans p2) (DRs.append (DRs.mono p2.mono _ _ h3) v2)
      simp only [runL, e1, e2, R.bind]
    | tup xs =>
      obtain ⟨a, vs, h1, h2, h3⟩ := go xs (.inr rfl)
      refine ⟨a, vs, h1, h2, tR.first p1.rel x1 fun ds st2 ws G2 H2 e2 p2 v2 x2 => ?_⟩
      refine q (xs ++ ds) st2 (vs ++ ws) G2 H2 ?_ (p1.trans p2) (DRs.append (DRs.mono p2.mono _ _ h3) v2)
      simp only [runL, e1, e2, R.bind]
    | _ => exact x1.elim
end
end DL

set_option Elab.async false
set_option linter.all false
set_option maxRecDepth 100000
set_option maxHeartbeats 4000000
namespace DL
open PySem L2
theorem szl_eq : szl = sizeLine := by rw [sizeLine_eq]; rfl
section
variable {k : Wk} {W : WX} {pg : Pg} {cl : CallH} {X : Cx}
/-- a new object that is known from now on -/
theorem Post.addG {σ σ' : St} {st st' : Slots} {G H G' H' : Hp} {a : Addr} {o : HO} (p : Post k σ st G H σ' st' G' H') (h0 : H a = none) (ha : H' a = some o) (hg : G' a = none) (hn : ¬ Own σ' st' a) : Post k σ st G H σ' st' (upd G' a o) H' := by
  have m : Sub G' (upd G' a o) := fun b u e => by rw [upd_ne (ne_of_none e hg)]; exact e
  refine ⟨p.mono.trans m, p.keep, fun b u e => ?_, p.own, p.dom, p.bo, ⟨fun b u e => ?_, p.rel.len, fun i d e => ?_, fun i d e => ?_, p.rel.inj⟩⟩
  · by_cases c : b = a
    · subst c; exact .inr (.inl h0)
    · rw [upd_ne c] at e; exact p.new b u e
  · by_cases c : b = a
    · subst c; rw [upd_same] at e; cases e; exact ha
    · rw [upd_ne c] at e; exact p.rel.sub b u e
  · obtain ⟨v, h1, h2⟩ := p.rel.fr i d e
    exact ⟨v, h1, DR.mono m _ _ h2⟩
  · obtain ⟨b, u, h1, h2, h3, h4⟩ := p.rel.ow i d e
    refine ⟨b, u, h1, h2, ?_, OR.mono m h4⟩
    rw [upd_ne (fun z => hn (by subst z; exact ⟨i, d, e, h1⟩))]
    exact h3
theorem OR.dr {G : Hp} {a : Addr} {o : HO} {d : D} (h : OR k G d o) (hg : G a = none) : DR k (upd G a o) d (.ref a) := by
  have m : Sub G (upd G a o) := fun b u e => by rw [upd_ne (ne_of_none e hg)]; exact e
  have h5 := OR.mono m h
  cases d with
  | lst l =>
    obtain ⟨vs, e, q⟩ := h5
    subst e
    exact ⟨a, vs, rfl, upd_same, q⟩
  | dct ks l =>
    obtain ⟨kvs, e, e2, q⟩ := h5
    subst e
    exact ⟨a, kvs, rfl, upd_same, e2, q⟩
  | obj c l =>
    obtain ⟨hc, dx, kvs, e, e2, q⟩ := h5
    subst e
    exact ⟨hc, a, dx, kvs, rfl, upd_same, e2, q⟩
  | _ => exact h5.elim
/-- what is new is known -/
theorem se_of_f {c : CE} {e : Expr} (h : PE X e (tF k W pg cl c)) : PE X e (tE k W pg cl c) := h.imp fun σ H Q ⟨G, st, r, x, q⟩ =>
  ⟨G, st, r, x, fun d st' v G' H' e p ⟨a, o, ev, ha, h0, hg, hn, ho⟩ => by
    subst ev
    exact q d st' (.ref a) (upd G' a o) H' e (p.addG h0 ha hg hn) (ho.dr hg)⟩
/-! ### displays -/
theorem if_len {α : Type} {c : Prop} [Decidable c] {r : R α} {σ : St} {st : Slots} {G H : Hp} (x : Xc k W σ st G H (if c then r else .bad)) : c := by
  by_cases h : c
  · exact h
  · rw [if_neg h] at x; exact x.elim
theorem se_tup {l : CL} {es : List Expr} {n : Nat} {pos : Pos} (h : PA X es (tL k W pg cl l)) : PE X (.Tuple es n pos) (tE k W pg cl (.tup l)) := (pe_tup h).imp fun σ H Q ⟨G, st, r, x, q⟩ => by
  refine tR.first r x fun ds st1 vs G1 H1 e1 p1 v1 x1 => ?_
  have hl := if_len x1
  refine ⟨by rw [← DRs.length v1, ← szl_eq]; exact hl, fun p hp => ?_⟩
  have n := New.put (o := .tup vs) p1.rel.sub hp
  refine q (.tup ds) st1 (.ref p) _ _ ?_ (p1.new' n) ⟨p, vs, rfl, .inl (.inl upd_same), DRs.mono n.mono _ _ v1⟩
  simp only [runE, e1, R.bind, if_pos hl]
theorem sf_new {l : List D} {σ : St} {st : Slots} {G H : Hp} {H0 : Hp} {p : Addr} {vs : List V} (r : Rel k G H σ st) (hp : H p = none) (h0 : H0 p = none) (v : DRs k G l vs) : vF k σ H0 G (upd H p (.lst vs)) st (.lst l) (.ref p) := by
  refine ⟨p, .lst vs, rfl, upd_same, h0, none_of_sub r.sub hp, fun c => ?_, ⟨vs, rfl, v⟩⟩
  obtain ⟨o, z, _⟩ := Own.some_of r c
  rw [hp] at z
  cases z
theorem sf_lst {l : CL} {es : List Expr} {pos : Pos} (h : PA X es (tL k W pg cl l)) : PE X (.List es pos) (tF k W pg cl (.lst l)) := (pe_lst h).imp fun σ H Q ⟨G, st, r, x, q⟩ => by
  refine tR.first r x fun ds st1 vs G1 H1 e1 p1 v1 x1 => ?_
  have hl := if_len x1
  refine ⟨by rw [← DRs.length v1, ← szl_eq]; exact hl, fun p hp => ?_⟩
  have n := New.putH (o := .lst vs) p1.rel.sub hp
  refine q (.lst ds) st1 (.ref p) _ _ ?_ (p1.new' n) (sf_new p1.rel hp (p1.dom p hp) v1)
  simp only [runE, e1, R.bind, if_pos hl]
/-! ### tests -/
/-- an expression whose test is its value's truth -/
def plainT : Expr → Bool
  | .UnaryOp .Not _ _ => false
  | .BoolOp _ _ _ => false
  | .IfExp _ _ _ _ => false
  | .Compare _ _ _ _ => false
  | _ => true
theorem plainT_ok {e : Expr} (h : plainT e = true) (env : Env) (whole : Sem Value) : isTrue e env whole = (do let v ← whole; standAt e.pos; holding [v] (truthy v)) := by
  cases e with
  | UnaryOp op a pos => cases op <;> first | rfl | cases h
  | BoolOp _ _ _ => cases h
  | IfExp _ _ _ _ => cases h
  | Compare _ _ _ _ => cases h
  | _ => rfl
theorem toB_ok {r : R D} {b : Bool} {s : Slots} (h : toB r = .ok b s) : r = .ok (.bl b) s := by
  cases r with
  | ok d s' =>
    cases d with
    | bl c => cases h; rfl
    | _ => cases h
  | exc c fs s' => cases h
  | bad => cases h
theorem Xc.ofB {r : R D} {σ : St} {st : Slots} {G H : Hp} (x : Xc k W σ st G H (toB r)) : Xc k W σ st G H r := by
  cases r with
  | ok d s' => trivial
  | exc c fs s' => exact x
  | bad => exact x
theorem st_val {c : CE} {e : Expr} (hp : plainT e = true) (h : PE X e (tE k W pg cl c)) : PT X e (tT k W pg cl c) := (pt_val h (plainT_ok hp _)).imp fun σ H Q ⟨G, st, r, x, q⟩ =>
  ⟨G, st, r, x.ofB, fun d st' v G' H' e p vd => by
    have e' : runE pg cl c st = .ok d st' := e
    cases d with
    | bl b =>
      refine ⟨b, vd, q b st' b G' H' ?_ p rfl⟩
      show toB (runE pg cl c st) = _
      rw [e']
      rfl
    | _ =>
      exfalso
      have x' : Xc k W σ st G H (toB (runE pg cl c st)) := x
      rw [e'] at x'
      exact x'⟩
/-- and, or, not -/
theorem and_run {a b : CE} {st : Slots} : runE pg cl (.and a b) st = (toB (runE pg cl a st)).bind fun x s1 => if x then runE pg cl b s1 else .ok (.bl false) s1 := by simp only [runE]
theorem or_run {a b : CE} {st : Slots} : runE pg cl (.or a b) st = (toB (runE pg cl a st)).bind fun x s1 => if x then .ok (.bl true) s1 else runE pg cl b s1 := by simp only [runE]
theorem not_run {a : CE} {st : Slots} : runE pg cl (.not a) st = (toB (runE pg cl a st)).bind fun x s1 => .ok (.bl (!x)) s1 := by simp only [runE]
theorem ite_run {t a b : CE} {st : Slots} : runE pg cl (.ite t a b) st = (toB (runE pg cl t st)).bind fun x s1 => if x then runE pg cl a s1 else runE pg cl b s1 := by simp only [runE]
/-- a value that is a bool -/
theorem tE_B {a : CE} {σ : St} {H : Hp} {Q : Bool → Hp → Prop} (h : tT k W pg cl a σ H Q) : tE k W pg cl a σ H fun x H1 => ∃ c, x = .bl c ∧ Q c H1 := by
  obtain ⟨G, st, r, x, q⟩ := h
  refine ⟨G, st, r, x.ofB, fun d st' v G' H' e p vd => ?_⟩
  have e' : runE pg cl a st = .ok d st' := e
  have x' : Xc k W σ st G H (toB (runE pg cl a st)) := x
  cases d with
  | bl b =>
    refine ⟨b, vd, q b st' b G' H' ?_ p rfl⟩
    show toB (runE pg cl a st) = _
    rw [e']
    rfl
  | _ => rw [e'] at x'; exact x'.elim
theorem se_and {a b : CE} {ea eb : Expr} {rest : List Expr} {pos : Pos} (ha : PE X ea (tE k W pg cl a)) (hb : PE X (.BoolOp .And (eb :: rest) pos) (tE k W pg cl b)) : PE X (.BoolOp .And (ea :: eb :: rest) pos) (tE k W pg cl (.and a b)) :=
  (pe_and ha hb).imp fun σ H Q ⟨G, st, r, x, q⟩ => by
    have x' := x
    rw [and_run] at x'
    refine tE_B ?_
    refine tR.first r x' fun b0 st1 v G1 H1 e1 p1 v1 x1 => ?_
    cases v1
    cases b0 with
    | true =>
      rw [if_pos rfl]
      refine ⟨G1, st1, p1.rel, x1, fun d st2 v G2 H2 e2 p2 vd => q d st2 v G2 H2 ?_ (p1.trans p2) vd⟩
      rw [and_run, e1]
      exact e2
    | false =>
      rw [if_neg (by simp)]
      refine q (.bl false) st1 _ G1 H1 ?_ p1 rfl
      rw [and_run, e1]
      rfl
theorem se_or {a b : CE} {ea eb : Expr} {rest : List Expr} {pos : Pos} (ha : PE X ea (tE k W pg cl a)) (hb : PE X (.BoolOp .Or (eb :: rest) pos) (tE k W pg cl b)) : PE X (.BoolOp .Or (ea :: eb :: rest) pos) (tE k W pg cl (.or a b)) :=
  (pe_or ha hb).imp fun σ H Q ⟨G, st, r, x, q⟩ => by
    have x' := x
    rw [or_run] at x'
    refine tE_B ?_
    refine tR.first r x' fun b0 st1 v G1 H1 e1 p1 v1 x1 => ?_
    cases v1
    cases b0 with
    | false =>
      rw [if_neg (by simp)]
      refine ⟨G1, st1, p1.rel, x1, fun d st2 v G2 H2 e2 p2 vd => q d st2 v G2 H2 ?_ (p1.trans p2) vd⟩
      rw [or_run, e1]
      exact e2
    | true =>
      rw [if_pos rfl]
      refine q (.bl true) st1 _ G1 H1 ?_ p1 rfl
      rw [or_run, e1]
      rfl
theorem se_not {a : CE} {ea : Expr} {pos : Pos} (ha : PE X ea (tE k W pg cl a)) : PE X (.UnaryOp .Not ea pos) (tE k W pg cl (.not a)) :=
  (pe_not ha).imp fun σ H Q ⟨G, st, r, x, q⟩ => by
    have x' := x
    rw [not_run] at x'
    refine tE_B ?_
    refine tR.first r x' fun b0 st1 v G1 H1 e1 p1 v1 x1 => ?_
    cases v1
    refine q (.bl (!b0)) st1 _ G1 H1 ?_ p1 rfl
    rw [not_run, e1]
    rfl
theorem toB_and {a b : CE} {st : Slots} : toB (runE pg cl (.and a b) st) = (toB (runE pg cl a st)).bind fun x s1 => if x then toB (runE pg cl b s1) else .ok false s1 := by
  rw [and_run]
  cases toB (runE pg cl a st) with
  | ok x s => cases x <;> rfl
  | exc c fs s => rfl
  | bad => rfl
theorem toB_or {a b : CE} {st : Slots} : toB (runE pg cl (.or a b) st) = (toB (runE pg cl a st)).bind fun x s1 => if x then .ok true s1 else toB (runE pg cl b s1) := by
  rw [or_run]
  cases toB (runE pg cl a st) with
  | ok x s => cases x <;> rfl
  | exc c fs s => rfl
  | bad => rfl
theorem toB_not {a : CE} {st : Slots} : toB (runE pg cl (.not a) st) = (toB (runE pg cl a st)).bind fun x s1 => .ok (!x) s1 := by
  rw [not_run]
  cases toB (runE pg cl a st) with
  | ok x s => cases x <;> rfl
  | exc c fs s => rfl
  | bad => rfl
theorem toB_ite {t a b : CE} {st : Slots} : toB (runE pg cl (.ite t a b) st) = (toB (runE pg cl t st)).bind fun x s1 => if x then toB (runE pg cl a s1) else toB (runE pg cl b s1) := by
  rw [ite_run]
  cases toB (runE pg cl t st) with
  | ok x s => cases x <;> rfl
  | exc c fs s => rfl
  | bad => rfl
theorem sw_and {a b : CE} {ea eb : Expr} {rest : List Expr} {pos : Pos} (ha : PT X ea (tT k W pg cl a)) (hb : PW X (.BoolOp .And (eb :: rest) pos) (tT k W pg cl b)) : PW X (.BoolOp .And (ea :: eb :: rest) pos) (tT k W pg cl (.and a b)) :=
  (pw_and ha hb).imp fun σ H Q ⟨G, st, r, x, q⟩ => by
    have x' : Xc k W σ st G H (toB (runE pg cl (.and a b) st)) := x
    rw [toB_and] at x'
    refine tR.first r x' fun b0 st1 v G1 H1 e1 p1 v1 x1 => ?_
    cases v1
    cases b0 with
    | true =>
      rw [if_pos rfl]
      refine ⟨G1, st1, p1.rel, x1, fun d st2 v G2 H2 e2 p2 vd => q d st2 v G2 H2 ?_ (p1.trans p2) vd⟩
      show toB (runE pg cl (.and a b) st) = _
      rw [toB_and, e1]
      exact e2
    | false =>
      rw [if_neg (by simp)]
      refine q false st1 _ G1 H1 ?_ p1 rfl
      show toB (runE pg cl (.and a b) st) = _
      rw [toB_and, e1]
      rfl
theorem sw_or {a b : CE} {ea eb : Expr} {rest : List Expr} {pos : Pos} (ha : PT X ea (tT k W pg cl a)) (hb : PW X (.BoolOp .Or (eb :: rest) pos) (tT k W pg cl b)) : PW X (.BoolOp .Or (ea :: eb :: rest) pos) (tT k W pg cl (.or a b)) :=
  (pw_or ha hb).imp fun σ H Q ⟨G, st, r, x, q⟩ => by
    have x' : Xc k W σ st G H (toB (runE pg cl (.or a b) st)) := x
    rw [toB_or] at x'
    refine tR.first r x' fun b0 st1 v G1 H1 e1 p1 v1 x1 => ?_
    cases v1
    cases b0 with
    | false =>
      rw [if_neg (by simp)]
      refine ⟨G1, st1, p1.rel, x1, fun d st2 v G2 H2 e2 p2 vd => q d st2 v G2 H2 ?_ (p1.trans p2) vd⟩
      show toB (runE pg cl (.or a b) st) = _
      rw [toB_or, e1]
      exact e2
    | true =>
      rw [if_pos rfl]
      refine q true st1 _ G1 H1 ?_ p1 rfl
      show toB (runE pg cl (.or a b) st) = _
      rw [toB_or, e1]
      rfl
theorem st_not {a : CE} {ea : Expr} {pos : Pos} (ha : PT X ea (tT k W pg cl a)) : PT X (.UnaryOp .Not ea pos) (tT k W pg cl (.not a)) :=
  (pt_not ha).imp fun σ H Q ⟨G, st, r, x, q⟩ => by
    have x' : Xc k W σ st G H (toB (runE pg cl (.not a) st)) := x
    rw [toB_not] at x'
    refine tR.first r x' fun b0 st1 v G1 H1 e1 p1 v1 x1 => ?_
    cases v1
    refine q (!b0) st1 _ G1 H1 ?_ p1 rfl
    show toB (runE pg cl (.not a) st) = _
    rw [toB_not, e1]
    rfl
theorem se_ite {t a b : CE} {et ea eb : Expr} {pos : Pos} (ht : PT X et (tT k W pg cl t)) (ha : PE X ea (tE k W pg cl a)) (hb : PE X eb (tE k W pg cl b)) : PE X (.IfExp et ea eb pos) (tE k W pg cl (.ite t a b)) :=
  (pe_ifExp ht ha hb).imp fun σ H Q ⟨G, st, r, x, q⟩ => by
    have x' := x
    rw [ite_run] at x'
    refine tR.first r x' fun b0 st1 v G1 H1 e1 p1 v1 x1 => ?_
    cases v1
    cases b0 with
    | true =>
      rw [if_pos rfl]
      refine ⟨G1, st1, p1.rel, x1, fun d st2 v G2 H2 e2 p2 vd => q d st2 v G2 H2 ?_ (p1.trans p2) vd⟩
      rw [ite_run, e1]
      exact e2
    | false =>
      rw [if_neg (by simp)]
      refine ⟨G1, st1, p1.rel, x1, fun d st2 v G2 H2 e2 p2 vd => q d st2 v G2 H2 ?_ (p1.trans p2) vd⟩
      rw [ite_run, e1]
      exact e2
/-- a if t else b as a test -/
theorem pt_ifExp {et ea eb : Expr} {pos : Pos} {tt ta tb : TT} (ht : PT X et tt) (ha : PT X ea ta) (hb : PT X eb tb) : PT X (.IfExp et ea eb pos) (fun σ H Q => tt σ H fun c H1 => if c = true then ta σ H1 Q else tb σ H1 Q) := by
  refine ⟨fun pins s σ H Q I h => ?_⟩
  show wpAny _ _ (isTrue et X.env (eval et X.env) >>= fun c => if c = true then isTrue ea X.env (eval ea X.env) else isTrue eb X.env (eval eb X.env)) _ _ _
  refine wpAny_bind (thn (ht.run pins s σ H _ I h) fun c s1 ⟨H1, I1, q1⟩ => ?_)
  cases c with
  | true => exact ha.run pins s1 σ H1 Q I1 q1
  | false => exact hb.run pins s1 σ H1 Q I1 q1
theorem st_ite {t a b : CE} {et ea eb : Expr} {pos : Pos} (ht : PT X et (tT k W pg cl t)) (ha : PT X ea (tT k W pg cl a)) (hb : PT X eb (tT k W pg cl b)) : PT X (.IfExp et ea eb pos) (tT k W pg cl (.ite t a b)) :=
  (pt_ifExp ht ha hb).imp fun σ H Q ⟨G, st, r, x, q⟩ => by
    have x' : Xc k W σ st G H (toB (runE pg cl (.ite t a b) st)) := x
    rw [toB_ite] at x'
    refine tR.first r x' fun b0 st1 v G1 H1 e1 p1 v1 x1 => ?_
    cases v1
    cases b0 with
    | true =>
      rw [if_pos rfl]
      refine ⟨G1, st1, p1.rel, x1, fun d st2 v G2 H2 e2 p2 vd => q d st2 v G2 H2 ?_ (p1.trans p2) vd⟩
      show toB (runE pg cl (.ite t a b) st) = _
      rw [toB_ite, e1]
      exact e2
    | false =>
      rw [if_neg (by simp)]
      refine ⟨G1, st1, p1.rel, x1, fun d st2 v G2 H2 e2 p2 vd => q d st2 v G2 H2 ?_ (p1.trans p2) vd⟩
      show toB (runE pg cl (.ite t a b) st) = _
      rw [toB_ite, e1]
      exact e2
end
end DL

set_option Elab.async false
set_option linter.all false
set_option maxRecDepth 100000
set_option maxHeartbeats 4000000
namespace DL
open PySem L2
/-- a primitive, by values -/
def rP (k : Wk) (p : Pr) (vs : List V) (H : Hp) (Q : VK) : Prop := ∃ G ds d, Sub G H ∧ PRs k G H ds vs ∧ runP p ds = some d ∧ ∀ v G' H', New G H G' H' → DR k G' d v → Q v H'
/-- .. whose answer is a new list -/
def rPF (k : Wk) (p : Pr) (vs : List V) (H : Hp) (Q : VK) : Prop := ∃ G ds l, Sub G H ∧ PRs k G H ds vs ∧ runP p ds = some (.lst l) ∧ ∀ a xs, H a = none → DRs k G l xs → Q (.ref a) (upd H a (.lst xs))
section
variable {k : Wk} {G H : Hp} {v w : V}
theorem PR.non (h : PR k G H .non v) : v = .non := by
  rcases h with h | ⟨a, o, _, _, h⟩
  · exact h
  · exact h.elim
theorem PR.bl {b : Bool} (h : PR k G H (.bl b) v) : v = .bl b := by
  rcases h with h | ⟨a, o, _, _, h⟩
  · exact h
  · exact h.elim
theorem PR.int {i : Int} (h : PR k G H (.int i) v) : v = .int i := by
  rcases h with h | ⟨a, o, _, _, h⟩
  · exact h
  · exact h.elim
theorem PR.str {s : Str} (h : PR k G H (.str s) v) : v = .str s := by
  rcases h with h | ⟨a, o, _, _, h⟩
  · exact h
  · exact h.elim
theorem PR.lst {l : List D} (s : Sub G H) (h : PR k G H (.lst l) v) : ∃ a vs, v = .ref a ∧ H a = some (.lst vs) ∧ DRs k G l vs := by
  rcases h with ⟨a, vs, e, h1, h2⟩ | ⟨a, o, e, h1, vs, e2, h2⟩
  · exact ⟨a, vs, e, s _ _ h1, h2⟩
  · subst e2
    exact ⟨a, vs, e, h1, h2⟩
theorem PR.tup {l : List D} (s : Sub G H) (h : PR k G H (.tup l) v) : ∃ a vs, v = .ref a ∧ SqT k.K H a vs ∧ DRs k G l vs := by
  rcases h with ⟨a, vs, e, h1, h2⟩ | ⟨a, o, e, h1, h⟩
  · exact ⟨a, vs, e, sqT_mono s h1, h2⟩
  · exact h.elim
theorem PR.scr {l : List Int} (s : Sub G H) (h : PR k G H (.scr l) v) : ∃ a, v = .ref a ∧ SqL k.K H a (l.map .int) := by
  rcases h with ⟨a, e, h1⟩ | ⟨a, o, e, h1, h⟩
  · exact ⟨a, e, sqL_mono s h1⟩
  · exact h.elim
theorem PRs.nil_inv {ds : List D} (h : PRs k G H ds []) : ds = [] := by cases h; rfl
theorem PRs.one_inv {ds : List D} (h : PRs k G H ds [v]) : ∃ d, ds = [d] ∧ PR k G H d v := by
  cases h with
  | cons h r => cases r; exact ⟨_, rfl, h⟩
theorem PRs.two_inv {ds : List D} (h : PRs k G H ds [v, w]) : ∃ d e, ds = [d, e] ∧ PR k G H d v ∧ PR k G H e w := by
  cases h with
  | cons h r =>
    cases r with
    | cons h2 r => cases r; exact ⟨_, _, rfl, h, h2⟩
/-- a flat answer -/
theorem fin_flat {d : D} {Q : VK} (s : Sub G H) (hv : flV d = some v) (q : ∀ v G' H', New G H G' H' → DR k G' d v → Q v H') : Q v H := q v G H (New.refl s) (flV_ok hv G)
theorem fin_tup {l : List D} {xs : List V} {Q : VK} (s : Sub G H) (r : DRs k G l xs) (q : ∀ v G' H', New G H G' H' → DR k G' (.tup l) v → Q v H') : ∀ p, H p = none → Q (.ref p) (upd H p (.tup xs)) := fun p hp => by
  have n := New.put (o := .tup xs) s hp
  exact q (.ref p) _ _ n ⟨p, xs, rfl, .inl (.inl upd_same), DRs.mono n.mono _ _ r⟩
theorem fin_lst {l : List D} {xs : List V} {Q : VK} (s : Sub G H) (r : DRs k G l xs) (q : ∀ v G' H', New G H G' H' → DR k G' (.lst l) v → Q v H') : ∀ p, H p = none → Q (.ref p) (upd H p (.lst xs)) := fun p hp => by
  have n := New.put (o := .lst xs) s hp
  exact q (.ref p) _ _ n ⟨p, xs, rfl, upd_same, DRs.mono n.mono _ _ r⟩
theorem fin_same {d : D} {Q : VK} (s : Sub G H) (h : DR k G d v) (q : ∀ v G' H', New G H G' H' → DR k G' d v → Q v H') : Q v H := q v G H (New.refl s) h
theorem drs_ints : ∀ {l : List D} {ns : List Int} {vs : List V}, intsD l = some ns → DRs k G l vs → vs = ns.map .int
  | [], ns, vs, e, h => by cases e; exact h
  | .int i :: r, ns, vs, e, h => by
    unfold intsD at e
    cases e1 : intsD r with
    | none => rw [e1] at e; cases e
    | some l =>
      rw [e1] at e
      cases e
      obtain ⟨v, vr, e2, h1, h2⟩ := h
      rw [e2, show v = .int i from h1, drs_ints e1 h2]
      rfl
theorem drs_bools : ∀ {l : List D} {ns : List Bool} {vs : List V}, boolsD l = some ns → DRs k G l vs → vs = ns.map .bl
  | [], ns, vs, e, h => by cases e; exact h
  | .bl i :: r, ns, vs, e, h => by
    unfold boolsD at e
    cases e1 : boolsD r with
    | none => rw [e1] at e; cases e
    | some l =>
      rw [e1] at e
      cases e
      obtain ⟨v, vr, e2, h1, h2⟩ := h
      rw [e2, show v = .bl i from h1, drs_bools e1 h2]
      rfl
theorem drs_strs : ∀ {l : List D} {ns : List Str} {vs : List V}, strsD l = some ns → DRs k G l vs → vs = ns.map .str
  | [], ns, vs, e, h => by cases e; exact h
  | .str i :: r, ns, vs, e, h => by
    unfold strsD at e
    cases e1 : strsD r with
    | none => rw [e1] at e; cases e
    | some l =>
      rw [e1] at e
      cases e
      obtain ⟨v, vr, e2, h1, h2⟩ := h
      rw [e2, show v = .str i from h1, drs_strs e1 h2]
      rfl
theorem drs_ofInts : ∀ (ns : List Int), DRs k G (ns.map .int) (ns.map .int)
  | [] => rfl
  | n :: r => ⟨.int n, r.map .int, rfl, rfl, drs_ofInts r⟩
theorem drs_ofStrs : ∀ (ns : List Str), DRs k G (ns.map .str) (ns.map .str)
  | [] => rfl
  | n :: r => ⟨.str n, r.map .str, rfl, rfl, drs_ofStrs r⟩
theorem atI_dr {l : List D} {vs : List V} {i : Int} {d : D} (h : atI l i = some d) (r : DRs k G l vs) : ∃ v, atI vs i = some v ∧ DR k G d v := by
  unfold atI at h ⊢
  rw [← DRs.length r]
  cases e : ixN l.length i with
  | none => rw [e] at h; cases h
  | some j =>
    rw [e] at h
    exact DRs.get r h
theorem cut_dr {l : List D} {vs : List V} {lo hi : Option Int} (r : DRs k G l vs) : DRs k G (cutD l lo hi) (cutV vs lo hi) := by
  unfold cutD cutV
  rw [← DRs.length r]
  exact (r.drop _).take _
theorem flat_of {d : D} (h : d.flat = true) (p : PR k G H d v) : flatV v = true := by
  cases d with
  | non => rw [p.non]; rfl
  | bl b => rw [p.bl]; rfl
  | int i => rw [p.int]; rfl
  | str s => rw [p.str]; rfl
  | _ => cases h
theorem flat_dr {d : D} (h : d.flat = true) (p : DR k G d v) : flV d = some v := by
  cases d with
  | non => rw [show v = .non from p]; rfl
  | bl b => rw [show v = .bl b from p]; rfl
  | int i => rw [show v = .int i from p]; rfl
  | str s => rw [show v = .str s from p]; rfl
  | _ => cases h
theorem eqF_V {d e : D} {v w : V} (h1 : flV d = some v) (h2 : flV e = some w) : eqV v w = eqF d e := by
  cases d <;> cases h1 <;> cases e <;> cases h2 <;> rfl
theorem flatV_of {d : D} {v : V} (h : flV d = some v) : flatV v = true := by
  cases d <;> cases h <;> rfl
theorem flV_of_pr {d : D} (h : d.flat = true) (p : PR k G H d v) : flV d = some v := by
  cases d with
  | non => rw [p.non]; rfl
  | bl b => rw [p.bl]; rfl
  | int i => rw [p.int]; rfl
  | str s => rw [p.str]; rfl
  | _ => cases h
theorem all_flat : ∀ {l : List D} {vs : List V}, l.all D.flat = true → DRs k G l vs → vs.all flatV = true
  | [], vs, _, h => by rw [show vs = [] from h]; rfl
  | d :: ds, vs, a, h => by
    obtain ⟨v, vr, e, h1, h2⟩ := h
    rw [List.all_cons, Bool.and_eq_true] at a
    rw [e, List.all_cons, flatV_of (flat_dr a.1 h1), all_flat a.2 h2]
    rfl
theorem any_eq {x : D} {xv : V} (hx : flV x = some xv) : ∀ {l : List D} {vs : List V}, l.all D.flat = true → DRs k G l vs → inV xv vs = l.any fun y => eqF y x
  | [], vs, _, h => by rw [show vs = [] from h]; rfl
  | d :: ds, vs, a, h => by
    obtain ⟨v, vr, e, h1, h2⟩ := h
    rw [List.all_cons, Bool.and_eq_true] at a
    have ih := any_eq hx a.2 h2
    unfold inV at ih ⊢
    rw [e, List.any_cons, List.any_cons, ih, eqF_V (flat_dr a.1 h1) hx]
end
/-! ### data of the model -/
mutual
theorem toPy_dp {k : Wk} {G H : Hp} (s : Sub G H) : ∀ (d : D) (p : PyData) (v : V), SeqAt.shaped p = true ∨ True → d.toPy = some p → p.hasDict = false → DR k G d v → Dp k.K H v p
  | .non, p, v, _, e, _, h => by cases e; rw [show v = .non from h]; exact .non
  | .bl b, p, v, _, e, _, h => by cases e; rw [show v = .bl b from h]; exact .bl b
  | .int i, p, v, _, e, _, h => by cases e; rw [show v = .int i from h]; exact .int i
  | .str x, p, v, _, e, _, h => by cases e; rw [show v = .str x from h]; exact .str x
  | .tup l, p, v, _, e, c, h => by
    unfold D.toPy at e
    cases e1 : toPys l with
    | none => rw [e1] at e; cases e
    | some ps =>
      rw [e1] at e
      cases e
      obtain ⟨a, vs, e2, h1, h2⟩ := h
      rw [e2]
      exact .tup (sqT_mono s h1) (toPys_dp s l ps vs e1 (by simpa [PyData.hasDict] using c) h2)
  | .lst l, p, v, _, e, c, h => by
    unfold D.toPy at e
    cases e1 : toPys l with
    | none => rw [e1] at e; cases e
    | some ps =>
      rw [e1] at e
      cases e
      obtain ⟨a, vs, e2, h1, h2⟩ := h
      rw [e2]
      exact .lst (SqL.of (s _ _ h1)) (toPys_dp s l ps vs e1 (by simpa [PyData.hasDict] using c) h2)
  | .dct ks l, p, v, _, e, c, h => by
    unfold D.toPy at e
    cases e1 : toPys l with
    | none => rw [e1] at e; cases e
    | some ps => rw [e1] at e; cases e; simp [PyData.hasDict] at c
  | .obj c l, p, v, _, e, _, h => by cases e
  | .cls c, p, v, _, e, _, h => by cases e
  | .scr l, p, v, _, e, _, h => by cases e
theorem toPys_dp {k : Wk} {G H : Hp} (s : Sub G H) : ∀ (l : List D) (ps : List PyData) (vs : List V), toPys l = some ps → PyData.hasDictAll ps = false → DRs k G l vs → DpAll k.K H vs ps
  | [], ps, vs, e, _, h => by cases e; rw [show vs = [] from h]; exact .nil
  | d :: ds, ps, vs, e, c, h => by
    unfold toPys at e
    cases e1 : d.toPy with
    | none => rw [e1] at e; cases e
    | some p =>
      cases e2 : toPys ds with
      | none => rw [e1, e2] at e; cases e
      | some pr =>
        rw [e1, e2] at e
        cases e
        obtain ⟨v, vr, e3, h1, h2⟩ := h
        rw [e3]
        have c' : p.hasDict = false ∧ PyData.hasDictAll pr = false := by simpa [PyData.hasDictAll] using c
        exact .cons (toPy_dp s d p v (.inr trivial) e1 c'.1 h1) (toPys_dp s ds pr vr e2 c'.2 h2)
end
theorem toPy_pr {k : Wk} {G H : Hp} (s : Sub G H) {d : D} {p : PyData} {v : V} (e : d.toPy = some p) (c : p.hasDict = false) (h : PR k G H d v) : Dp k.K H v p := by
  rcases h with h | ⟨a, o, ev, ho, h⟩
  · exact toPy_dp s d p v (.inr trivial) e c h
  · cases d with
    | lst l =>
      obtain ⟨vs, eo, h2⟩ := h
      subst eo ev
      unfold D.toPy at e
      cases e1 : toPys l with
      | none => rw [e1] at e; cases e
      | some ps =>
        rw [e1] at e
        cases e
        exact .lst (SqL.of ho) (toPys_dp s l ps vs e1 (by simpa [PyData.hasDict] using c) h2)
    | dct ks l =>
      unfold D.toPy at e
      cases e1 : toPys l with
      | none => rw [e1] at e; cases e
      | some ps => rw [e1] at e; cases e; simp [PyData.hasDict] at c
    | obj c l => cases e
    | _ => exact h.elim
end DL

set_option Elab.async false
set_option linter.all false
set_option maxRecDepth 100000
set_option maxHeartbeats 4000000
namespace DL
open PySem L2 PyProof.Rows
section
variable {k : Wk} {X : Cx}
abbrev rP2 (k : Wk) (p : Pr) : R2 := fun x y H Q => rP k p [x, y] H Q
theorem le_szl {n : Nat} (h : n ≤ szl) : n ≤ sizeLine := by rw [← szl_eq]; exact h
theorem pr_add (hK : X.K = k.K) : OpR X (binaryOp .Add) (rP2 k .add) := by
  intro pins s σ H x y v u Q I rx ry ⟨G, ds, d, sb, pr, e, q⟩
  obtain ⟨d1, d2, rfl, h1, h2⟩ := pr.two_inv
  change addP [d1, d2] = some d at e
  cases d1 with
  | int i => cases d2 with
    | int j =>
      cases e
      exact op_add pins s σ H x y v u Q I rx ry ⟨i, j, h1.int, h2.int, fin_flat sb rfl q⟩
    | _ => cases e
  | str i => cases d2 with
    | str j =>
      simp only [addP] at e
      split at e
      · rename_i hl
        cases e
        exact op_add_str pins s σ H x y v u Q I rx ry ⟨i, j, h1.str, h2.str, le_szl hl, fin_flat sb rfl q⟩
      · cases e
    | _ => cases e
  | tup i => cases d2 with
    | tup j =>
      simp only [addP] at e
      split at e
      · rename_i hl
        cases e
        obtain ⟨a, vs, e1, q1, r1⟩ := h1.tup sb
        obtain ⟨b, ws, e2, q2, r2⟩ := h2.tup sb
        have l1 := r1.length
        have l2 := r2.length
        refine op_catA pins s σ H x y v u Q I rx ry ⟨a, b, vs, ws, e1, e2, hK ▸ q1, hK ▸ q2, le_szl (by omega), fun z => ?_, fun _ z => ?_, fun _ _ => fin_tup sb (r1.append r2) q⟩
        · subst z
          have : i = [] := List.length_eq_zero_iff.mp l1
          subst this
          rcases h2 with h2 | ⟨_, _, _, _, h2⟩
          · exact e2 ▸ q y G H (New.refl sb) h2
          · exact h2.elim
        · subst z
          have : j = [] := List.length_eq_zero_iff.mp l2
          subst this
          rcases h1 with h1 | ⟨_, _, _, _, h1⟩
          · refine e1 ▸ q x G H (New.refl sb) ?_
            rw [List.append_nil]
            exact h1
          · exact h1.elim
      · cases e
    | _ => cases e
  | lst i => cases d2 with
    | lst j =>
      simp only [addP] at e
      split at e
      · rename_i hl
        cases e
        obtain ⟨a, vs, e1, q1, r1⟩ := h1.lst sb
        obtain ⟨b, ws, e2, q2, r2⟩ := h2.lst sb
        have l1 := r1.length
        have l2 := r2.length
        exact op_cat pins s σ H x y v u Q I rx ry ⟨a, b, vs, ws, e1, e2, q1, q2, le_szl (by omega), fin_lst sb (r1.append r2) q⟩
      · cases e
    | _ => cases e
  | _ => cases e
theorem pr_addL : OpR X (binaryOp .Add) (fun x y H Q => rPF k .addL [x, y] H Q) := by
  intro pins s σ H x y v u Q I rx ry ⟨G, ds, l, sb, pr, e, q⟩
  obtain ⟨d1, d2, rfl, h1, h2⟩ := pr.two_inv
  change addLP [d1, d2] = some (.lst l) at e
  cases d1 with
  | lst i => cases d2 with
    | lst j =>
      simp only [addLP] at e
      split at e
      · rename_i hl
        cases e
        obtain ⟨a, vs, e1, q1, r1⟩ := h1.lst sb
        obtain ⟨b, ws, e2, q2, r2⟩ := h2.lst sb
        have l1 := r1.length
        have l2 := r2.length
        exact op_cat pins s σ H x y v u Q I rx ry ⟨a, b, vs, ws, e1, e2, q1, q2, le_szl (by omega), fun p hp => q p _ hp (r1.append r2)⟩
      · cases e
    | _ => cases e
  | _ => cases e
theorem pr_sub : OpR X (binaryOp .Sub) (rP2 k .sub) := by
  intro pins s σ H x y v u Q I rx ry ⟨G, ds, d, sb, pr, e, q⟩
  obtain ⟨d1, d2, rfl, h1, h2⟩ := pr.two_inv
  change subP [d1, d2] = some d at e
  cases d1 with
  | int i => cases d2 with
    | int j => cases e; exact op_sub pins s σ H x y v u Q I rx ry ⟨i, j, h1.int, h2.int, fin_flat sb rfl q⟩
    | _ => cases e
  | _ => cases e
theorem mulOk_ok {i j : Int} (h : mulOk i j = true) : IntMulOk i j := by
  unfold mulOk at h
  simp only [Bool.or_eq_true, Bool.and_eq_true, decide_eq_true_eq] at h
  rcases h with (h | h) | h
  · exact CMul.ok (.inl h)
  · exact CMul.ok (.inr h)
  · unfold IntMulOk
    intro z
    rw [Bool.and_eq_true] at z
    have z2 := z.2
    unfold Builtin.Int.intTooBig at z2
    have z3 := of_decide_eq_true z2
    have e : bitsLine = 134217728 := by decide
    rw [e] at z3
    omega
theorem drs_flat {G : Hp} {l : List D} {vs : List V} (r : DRs k G l vs) : ∀ n : Nat, DRs k G (List.replicate n l).flatten (List.replicate n vs).flatten
  | 0 => by simp [DRs]
  | n + 1 => by
    rw [List.replicate_succ, List.replicate_succ, List.flatten_cons, List.flatten_cons]
    exact r.append (drs_flat r n)
theorem pr_mul : OpR X (binaryOp .Mult) (rP2 k .mul) := by
  intro pins s σ H x y v u Q I rx ry ⟨G, ds, d, sb, pr, e, q⟩
  obtain ⟨d1, d2, rfl, h1, h2⟩ := pr.two_inv
  change mulP [d1, d2] = some d at e
  cases d1 with
  | int i => cases d2 with
    | int j =>
      simp only [mulP] at e
      split at e
      · rename_i hm
        cases e
        have z : OpR X (binaryOp .Mult) (rI (fun i j => mulOk i j = true) fun i j => .int (i * j)) := opI fun _ _ _ _ _ _ _ hc q => mul_int q (mulOk_ok hc)
        exact z pins s σ H x y v u Q I rx ry ⟨i, j, h1.int, h2.int, hm, fin_flat sb rfl q⟩
      · cases e
    | _ => cases e
  | lst i => cases d2 with
    | int j =>
      simp only [mulP] at e
      split at e
      · rename_i hm
        cases e
        simp only [Bool.and_eq_true, decide_eq_true_eq] at hm
        obtain ⟨a, vs, e1, q1, r1⟩ := h1.lst sb
        exact op_rep pins s σ H x y v u Q I rx ry ⟨a, j, vs, e1, h2.int, q1, hm.1.1, hm.1.2, le_szl (by rw [← r1.length]; exact hm.2), fin_lst sb (drs_flat r1 _) q⟩
      · cases e
    | _ => cases e
  | _ => cases e
theorem pr_mulL : OpR X (binaryOp .Mult) (fun x y H Q => rPF k .mulL [x, y] H Q) := by
  intro pins s σ H x y v u Q I rx ry ⟨G, ds, l, sb, pr, e, q⟩
  obtain ⟨d1, d2, rfl, h1, h2⟩ := pr.two_inv
  change mulLP [d1, d2] = some (.lst l) at e
  cases d1 with
  | lst i => cases d2 with
    | int j =>
      simp only [mulLP] at e
      split at e
      · rename_i hm
        cases e
        simp only [Bool.and_eq_true, decide_eq_true_eq] at hm
        obtain ⟨a, vs, e1, q1, r1⟩ := h1.lst sb
        exact op_rep pins s σ H x y v u Q I rx ry ⟨a, j, vs, e1, h2.int, q1, hm.1.1, hm.1.2, le_szl (by rw [← r1.length]; exact hm.2), fun p hp => q p _ hp (drs_flat r1 _)⟩
      · cases e
    | _ => cases e
  | _ => cases e
theorem pr_fdiv : OpR X (binaryOp .FloorDiv) (rP2 k .fdiv) := by
  intro pins s σ H x y v u Q I rx ry ⟨G, ds, d, sb, pr, e, q⟩
  obtain ⟨d1, d2, rfl, h1, h2⟩ := pr.two_inv
  change fdivP [d1, d2] = some d at e
  cases d1 with
  | int i => cases d2 with
    | int j =>
      simp only [fdivP] at e
      split at e
      · rename_i hm
        cases e
        simp only [Bool.and_eq_true, decide_eq_true_eq] at hm
        exact op_fdivW pins s σ H x y v u Q I rx ry ⟨i, j, h1.int, h2.int, hm, fin_flat sb rfl q⟩
      · cases e
    | _ => cases e
  | _ => cases e
theorem pr_mod : OpR X (binaryOp .Mod) (rP2 k .mod) := by
  intro pins s σ H x y v u Q I rx ry ⟨G, ds, d, sb, pr, e, q⟩
  obtain ⟨d1, d2, rfl, h1, h2⟩ := pr.two_inv
  change modP [d1, d2] = some d at e
  cases d1 with
  | int i => cases d2 with
    | int j =>
      simp only [modP] at e
      split at e
      · rename_i hm
        cases e
        exact op_mod pins s σ H x y v u Q I rx ry ⟨i, j, h1.int, h2.int, hm, fin_flat sb rfl q⟩
      · cases e
    | _ => cases e
  | _ => cases e
theorem pr_pow : OpR X (binaryOp .Pow) (rP2 k .pow) := by
  intro pins s σ H x y v u Q I rx ry ⟨G, ds, d, sb, pr, e, q⟩
  obtain ⟨d1, d2, rfl, h1, h2⟩ := pr.two_inv
  change powP [d1, d2] = some d at e
  cases d1 with
  | int i => cases d2 with
    | int j =>
      simp only [powP] at e
      split at e
      · rename_i hm
        cases e
        simp only [Bool.and_eq_true, decide_eq_true_eq] at hm
        exact op_pow pins s σ H x y v u Q I rx ry ⟨i, j, h1.int, h2.int, ⟨hm.1.1, hm.1.2, hm.2⟩, fin_flat sb rfl q⟩
      · cases e
    | _ => cases e
  | _ => cases e
/-! ### comparisons -/
theorem pr_eqB (hK : X.K = k.K) (hu : X.A.units + 64 < cLine) : OpR X (compareOp .Eq) (fun x y H Q => ∃ G d e b, Sub G H ∧ PR k G H d x ∧ PR k G H e y ∧ eqD d e = some b ∧ Q (.bl b) H) := by
  intro pins s σ H x y v u Q I rx ry ⟨G, d, e, b, sb, h1, h2, ee, q⟩
  unfold eqD at ee
  by_cases hf : (d.flat && e.flat) = true
  · rw [if_pos hf] at ee
    cases ee
    rw [Bool.and_eq_true] at hf
    have f1 := flV_of_pr hf.1 h1
    have f2 := flV_of_pr hf.2 h2
    have deep : ∀ p q' : PyData, d.toPy = some p → e.toPy = some q' → SeqAt.shaped p = true → SeqAt.shaped q' = true → PyData.eqv p q' = eqF d e → wpAny (model X.prog X.w) X.A (compareOp .Eq v u) (EP X pins σ Q) X.xe s := fun p q' z1 z2 s1 s2 ez => by
      refine op_eqD hu pins s σ H x y v u Q I rx ry ⟨p, q', hK ▸ toPy_pr sb z1 (PyData.hasDict_of_canLay _ (SeqAt.canLay_of_shaped s1)) h1, hK ▸ toPy_pr sb z2 (PyData.hasDict_of_canLay _ (SeqAt.canLay_of_shaped s2)) h2, s1, s2, ?_⟩
      rw [ez]
      exact q
    have flatly : scal x y = true → eqF d e = decide (x = y) → wpAny (model X.prog X.w) X.A (compareOp .Eq v u) (EP X pins σ Q) X.xe s := fun z1 z2 =>
      op_eq pins s σ H x y v u Q I rx ry ⟨z1, by rw [← z2]; exact q⟩
    cases d with
    | non => cases f1; cases e <;> cases f2 <;> first | exact flatly rfl rfl | (refine flatly rfl ?_; simp [eqF])
    | bl b1 => cases f1; cases e with
      | non => cases f2; exact flatly rfl rfl
      | bl b2 => cases f2; refine flatly rfl ?_; cases b1 <;> cases b2 <;> rfl
      | int j => cases f2; exact deep _ _ rfl rfl rfl rfl rfl
      | str z => cases f2; exact flatly rfl rfl
      | _ => cases hf.2
    | int i => cases f1; cases e with
      | non => cases f2; exact flatly rfl rfl
      | bl b2 => cases f2; exact deep _ _ rfl rfl rfl rfl rfl
      | int j => cases f2; refine flatly rfl ?_; rw [dec_int]; rfl
      | str z => cases f2; exact flatly rfl rfl
      | _ => cases hf.2
    | str i => cases f1; cases e with
      | non => cases f2; exact flatly rfl rfl
      | bl b2 => cases f2; exact flatly rfl rfl
      | int j => cases f2; exact flatly rfl rfl
      | str z => cases f2; refine flatly rfl ?_; rw [dec_str]; rfl
      | _ => cases hf.2
    | _ => cases hf.1
  · rw [if_neg hf] at ee
    cases e1 : d.toPy with
    | none => rw [e1] at ee; cases ee
    | some p =>
      cases e2 : e.toPy with
      | none => rw [e1, e2] at ee; cases ee
      | some q' =>
        rw [e1, e2] at ee
        by_cases hs : (SeqAt.shaped p && SeqAt.shaped q') = true
        · have ee' : (if (SeqAt.shaped p && SeqAt.shaped q') = true then some (PyData.eqv p q') else none) = some b := ee
          rw [if_pos hs] at ee'
          cases ee'
          rw [Bool.and_eq_true] at hs
          exact op_eqD hu pins s σ H x y v u Q I rx ry ⟨p, q', hK ▸ toPy_pr sb e1 (PyData.hasDict_of_canLay _ (SeqAt.canLay_of_shaped hs.1)) h1, hK ▸ toPy_pr sb e2 (PyData.hasDict_of_canLay _ (SeqAt.canLay_of_shaped hs.2)) h2, hs.1, hs.2, q⟩
        · have ee' : (if (SeqAt.shaped p && SeqAt.shaped q') = true then some (PyData.eqv p q') else none) = some b := ee
          rw [if_neg hs] at ee'
          cases ee'
theorem pr_neB (hK : X.K = k.K) (hu : X.A.units + 64 < cLine) : OpR X (compareOp .NotEq) (fun x y H Q => ∃ G d e b, Sub G H ∧ PR k G H d x ∧ PR k G H e y ∧ eqD d e = some b ∧ Q (.bl (!b)) H) := by
  intro pins s σ H x y v u Q I rx ry ⟨G, d, e, b, sb, h1, h2, ee, q⟩
  unfold eqD at ee
  by_cases hf : (d.flat && e.flat) = true
  · rw [if_pos hf] at ee
    cases ee
    rw [Bool.and_eq_true] at hf
    have f1 := flV_of_pr hf.1 h1
    have f2 := flV_of_pr hf.2 h2
    have deep : ∀ p q' : PyData, d.toPy = some p → e.toPy = some q' → SeqAt.shaped p = true → SeqAt.shaped q' = true → PyData.eqv p q' = eqF d e → wpAny (model X.prog X.w) X.A (compareOp .NotEq v u) (EP X pins σ Q) X.xe s := fun p q' z1 z2 s1 s2 ez => by
      refine op_neD hu pins s σ H x y v u Q I rx ry ⟨p, q', hK ▸ toPy_pr sb z1 (PyData.hasDict_of_canLay _ (SeqAt.canLay_of_shaped s1)) h1, hK ▸ toPy_pr sb z2 (PyData.hasDict_of_canLay _ (SeqAt.canLay_of_shaped s2)) h2, s1, s2, ?_⟩
      rw [ez]
      exact q
    have flatly : scal x y = true → eqF d e = decide (x = y) → wpAny (model X.prog X.w) X.A (compareOp .NotEq v u) (EP X pins σ Q) X.xe s := fun z1 z2 =>
      op_ne pins s σ H x y v u Q I rx ry ⟨z1, by rw [← z2]; exact q⟩
    cases d with
    | non => cases f1; cases e <;> cases f2 <;> first | exact flatly rfl rfl | (refine flatly rfl ?_; simp [eqF])
    | bl b1 => cases f1; cases e with
      | non => cases f2; exact flatly rfl rfl
      | bl b2 => cases f2; refine flatly rfl ?_; cases b1 <;> cases b2 <;> rfl
      | int j => cases f2; exact deep _ _ rfl rfl rfl rfl rfl
      | str z => cases f2; exact flatly rfl rfl
      | _ => cases hf.2
    | int i => cases f1; cases e with
      | non => cases f2; exact flatly rfl rfl
      | bl b2 => cases f2; exact deep _ _ rfl rfl rfl rfl rfl
      | int j => cases f2; refine flatly rfl ?_; rw [dec_int]; rfl
      | str z => cases f2; exact flatly rfl rfl
      | _ => cases hf.2
    | str i => cases f1; cases e with
      | non => cases f2; exact flatly rfl rfl
      | bl b2 => cases f2; exact flatly rfl rfl
      | int j => cases f2; exact flatly rfl rfl
      | str z => cases f2; refine flatly rfl ?_; rw [dec_str]; rfl
      | _ => cases hf.2
    | _ => cases hf.1
  · rw [if_neg hf] at ee
    cases e1 : d.toPy with
    | none => rw [e1] at ee; cases ee
    | some p =>
      cases e2 : e.toPy with
      | none => rw [e1, e2] at ee; cases ee
      | some q' =>
        rw [e1, e2] at ee
        by_cases hs : (SeqAt.shaped p && SeqAt.shaped q') = true
        · have ee' : (if (SeqAt.shaped p && SeqAt.shaped q') = true then some (PyData.eqv p q') else none) = some b := ee
          rw [if_pos hs] at ee'
          cases ee'
          rw [Bool.and_eq_true] at hs
          exact op_neD hu pins s σ H x y v u Q I rx ry ⟨p, q', hK ▸ toPy_pr sb e1 (PyData.hasDict_of_canLay _ (SeqAt.canLay_of_shaped hs.1)) h1, hK ▸ toPy_pr sb e2 (PyData.hasDict_of_canLay _ (SeqAt.canLay_of_shaped hs.2)) h2, hs.1, hs.2, q⟩
        · have ee' : (if (SeqAt.shaped p && SeqAt.shaped q') = true then some (PyData.eqv p q') else none) = some b := ee
          rw [if_neg hs] at ee'
          cases ee'
theorem pr_eq (hK : X.K = k.K) (hu : X.A.units + 64 < cLine) : OpR X (compareOp .Eq) (rP2 k .eq) := by
  intro pins s σ H x y v u Q I rx ry ⟨G, ds, d, sb, pr, e, q⟩
  obtain ⟨d1, d2, rfl, h1, h2⟩ := pr.two_inv
  change (eqD d1 d2).map D.bl = some d at e
  cases ee : eqD d1 d2 with
  | none => rw [ee] at e; cases e
  | some b => rw [ee] at e; cases e; exact pr_eqB hK hu pins s σ H x y v u Q I rx ry ⟨G, d1, d2, b, sb, h1, h2, ee, fin_flat sb rfl q⟩
theorem pr_ne (hK : X.K = k.K) (hu : X.A.units + 64 < cLine) : OpR X (compareOp .NotEq) (rP2 k .ne) := by
  intro pins s σ H x y v u Q I rx ry ⟨G, ds, d, sb, pr, e, q⟩
  obtain ⟨d1, d2, rfl, h1, h2⟩ := pr.two_inv
  change (eqD d1 d2).map (fun x => D.bl (!x)) = some d at e
  cases ee : eqD d1 d2 with
  | none => rw [ee] at e; cases e
  | some b => rw [ee] at e; cases e; exact pr_neB hK hu pins s σ H x y v u Q I rx ry ⟨G, d1, d2, b, sb, h1, h2, ee, fin_flat sb rfl q⟩
theorem pr_lt : OpR X (compareOp .Lt) (rP2 k .lt) := by
  intro pins s σ H x y v u Q I rx ry ⟨G, ds, d, sb, pr, e, q⟩
  obtain ⟨d1, d2, rfl, h1, h2⟩ := pr.two_inv
  change ltP [d1, d2] = some d at e
  cases d1 with
  | int i => cases d2 with
    | int j => cases e; exact op_lt pins s σ H x y v u Q I rx ry ⟨i, j, h1.int, h2.int, fin_flat sb rfl q⟩
    | _ => cases e
  | str i => cases d2 with
    | str j => cases e; exact op_lt_str pins s σ H x y v u Q I rx ry ⟨i, j, h1.str, h2.str, fin_flat sb rfl q⟩
    | _ => cases e
  | _ => cases e
theorem pr_le : OpR X (compareOp .LtE) (rP2 k .le) := by
  intro pins s σ H x y v u Q I rx ry ⟨G, ds, d, sb, pr, e, q⟩
  obtain ⟨d1, d2, rfl, h1, h2⟩ := pr.two_inv
  change leP [d1, d2] = some d at e
  cases d1 with
  | int i => cases d2 with
    | int j => cases e; exact op_le pins s σ H x y v u Q I rx ry ⟨i, j, h1.int, h2.int, fin_flat sb rfl q⟩
    | _ => cases e
  | _ => cases e
theorem pr_gt : OpR X (compareOp .Gt) (rP2 k .gt) := by
  intro pins s σ H x y v u Q I rx ry ⟨G, ds, d, sb, pr, e, q⟩
  obtain ⟨d1, d2, rfl, h1, h2⟩ := pr.two_inv
  change gtP [d1, d2] = some d at e
  cases d1 with
  | int i => cases d2 with
    | int j => cases e; exact op_gt pins s σ H x y v u Q I rx ry ⟨i, j, h1.int, h2.int, fin_flat sb rfl q⟩
    | _ => cases e
  | _ => cases e
theorem pr_ge : OpR X (compareOp .GtE) (rP2 k .ge) := by
  intro pins s σ H x y v u Q I rx ry ⟨G, ds, d, sb, pr, e, q⟩
  obtain ⟨d1, d2, rfl, h1, h2⟩ := pr.two_inv
  change geP [d1, d2] = some d at e
  cases d1 with
  | int i => cases d2 with
    | int j => cases e; exact op_ge pins s σ H x y v u Q I rx ry ⟨i, j, h1.int, h2.int, fin_flat sb rfl q⟩
    | _ => cases e
  | _ => cases e
theorem pr_isb : OpR X (compareOp .Is) (rP2 k .isb) := by
  intro pins s σ H x y v u Q I rx ry ⟨G, ds, d, sb, pr, e, q⟩
  obtain ⟨d1, d2, rfl, h1, h2⟩ := pr.two_inv
  change isbP [d1, d2] = some d at e
  cases d1 with
  | bl i => cases d2 with
    | bl j =>
      cases e
      refine op_isBl pins s σ H x y v u Q I rx ry ⟨i, j, h1.bl, h2.bl, ?_⟩
      have z := fin_flat sb rfl q
      have e : decide (i = j) = (i == j) := by cases i <;> cases j <;> rfl
      rw [e]
      exact z
    | _ => cases e
  | _ => cases e
theorem pr_isnb : OpR X (compareOp .IsNot) (rP2 k .isnb) := by
  intro pins s σ H x y v u Q I rx ry ⟨G, ds, d, sb, pr, e, q⟩
  obtain ⟨d1, d2, rfl, h1, h2⟩ := pr.two_inv
  change isnbP [d1, d2] = some d at e
  cases d1 with
  | bl i => cases d2 with
    | bl j =>
      cases e
      refine op_notBl pins s σ H x y v u Q I rx ry ⟨i, j, h1.bl, h2.bl, ?_⟩
      have z := fin_flat sb rfl q
      have e : decide (i = j) = (i == j) := by cases i <;> cases j <;> rfl
      rw [e]
      exact z
    | _ => cases e
  | _ => cases e
/-- x in y -/
theorem inD_seq (hK : X.K = k.K) {G H : Hp} {x : D} {l : List D} {xv y : V} {b neg : Bool} {Q : VK} (sb : Sub G H) (h1 : PR k G H x xv) (h2 : PR k G H (.lst l) y ∨ PR k G H (.tup l) y) (e : (if (x.flat && l.all D.flat) = true then some (l.any fun y => eqF y x) else none) = some b)
    (q : Q (.bl (if neg then !b else b)) H) : rIn X.K neg xv y H Q := by
  by_cases hf : (x.flat && l.all D.flat) = true
  · rw [if_pos hf] at e
    cases e
    rw [Bool.and_eq_true] at hf
    have fx := flV_of_pr hf.1 h1
    rcases h2 with h2 | h2
    · obtain ⟨a, vs, e1, q1, r1⟩ := h2.lst sb
      refine ⟨a, vs, e1, .inl (SqL.of q1), flatV_of fx, all_flat hf.2 r1, ?_⟩
      rw [any_eq fx hf.2 r1]
      exact q
    · obtain ⟨a, vs, e1, q1, r1⟩ := h2.tup sb
      refine ⟨a, vs, e1, .inr (hK ▸ q1), flatV_of fx, all_flat hf.2 r1, ?_⟩
      rw [any_eq fx hf.2 r1]
      exact q
  · rw [if_neg hf] at e
    cases e
theorem in_deep (hK : X.K = k.K) (hu : X.A.units + 64 < cLine) {pins : List (Addr × Obj)} {s : Shared} {σ : St} {G H : Hp} {x y : V} {v u : Value} {Q : VK} {d : D} {l : List D} {b : Bool} (I : L2.Inv X pins σ H s) (rx : RelV x v) (ry : RelV y u) (sb : Sub G H) (h1 : PR k G H d x) (h2 : PR k G H (.tup l) y) (e : inDeep d l = some b) :
    (Q (.bl b) H → wpAny (model X.prog X.w) X.A (compareOp .In v u) (EP X pins σ Q) X.xe s) ∧ (Q (.bl (!b)) H → wpAny (model X.prog X.w) X.A (compareOp .NotIn v u) (EP X pins σ Q) X.xe s) := by
  unfold inDeep at e
  split at e
  · rename_i p ps z1 z2
    split at e
    · rename_i hc
      cases e
      simp only [Bool.and_eq_true, decide_eq_true_eq] at hc
      obtain ⟨⟨sd, se⟩, dd⟩ := hc
      have hd : Dp X.K H x p := hK ▸ toPy_pr sb z1 (PyData.hasDict_of_canLay _ (SeqAt.canLay_of_shaped sd)) h1
      have he : Dp X.K H y (.tuple ps) := hK ▸ toPy_pr sb (show (D.tup l).toPy = some (.tuple ps) by simp [D.toPy, z2]) (PyData.hasDict_of_canLay _ (SeqAt.canLay_of_shaped se)) h2
      obtain ⟨as, r1⟩ := Dp.reads I p x v hd rx
      obtain ⟨bs, r2⟩ := Dp.reads I (.tuple ps) y u he ry
      exact ⟨fun q => SeqAt.in_tuple_reads r2 r1 (SeqAt.canLay_of_shaped se) (SeqAt.canLay_of_shaped sd) (by omega) ⟨.bl _, H, I, rfl, q⟩,
        fun q => SeqAt.notIn_tuple_reads r2 r1 (SeqAt.canLay_of_shaped se) (SeqAt.canLay_of_shaped sd) (by omega) ⟨.bl _, H, I, rfl, q⟩⟩
    · cases e
  · cases e
theorem pr_in (hK : X.K = k.K) (hu : X.A.units + 64 < cLine) : OpR X (compareOp .In) (rP2 k .isin) := by
  intro pins s σ H x y v u Q I rx ry ⟨G, ds, d, sb, pr, e, q⟩
  obtain ⟨d1, d2, rfl, h1, h2⟩ := pr.two_inv
  change (inD d1 d2).map D.bl = some d at e
  cases ee : inD d1 d2 with
  | none => rw [ee] at e; cases e
  | some b =>
    rw [ee] at e
    cases e
    have q' := fin_flat (v := .bl b) sb rfl q
    cases d2 with
    | lst l => exact op_in_seq pins s σ H x y v u Q I rx ry (inD_seq hK (neg := false) sb h1 (.inl h2) (by cases d1 <;> exact ee) q')
    | tup l =>
      have ee : (if (d1.flat && l.all D.flat) = true then some (l.any fun y => eqF y d1) else inDeep d1 l) = some b := by cases d1 <;> exact ee
      by_cases hf : (d1.flat && l.all D.flat) = true
      · exact op_in_seq pins s σ H x y v u Q I rx ry (inD_seq hK (neg := false) sb h1 (.inr h2) (by rw [if_pos hf] at ee ⊢; exact ee) q')
      · rw [if_neg hf] at ee
        exact (in_deep hK hu I rx ry sb h1 h2 ee).1 q'
    | str z =>
      cases d1 with
      | str c =>
        change (match c.cps.toList with | [c] => some (decide (c ∈ z.cps.toList)) | _ => none) = some b at ee
        split at ee
        · rename_i ch hc
          cases ee
          have ec : c = ⟨#[ch]⟩ := by
            obtain ⟨cps⟩ := c
            congr 1
            apply Array.ext'
            exact hc
          exact op_in_sign pins s σ H x y v u Q I rx ry ⟨ch, z, ec ▸ h1.str, h2.str, q'⟩
        · cases ee
      | _ => cases ee
    | _ => cases d1 <;> cases ee
theorem pr_nin (hK : X.K = k.K) (hu : X.A.units + 64 < cLine) : OpR X (compareOp .NotIn) (rP2 k .notin) := by
  intro pins s σ H x y v u Q I rx ry ⟨G, ds, d, sb, pr, e, q⟩
  obtain ⟨d1, d2, rfl, h1, h2⟩ := pr.two_inv
  change (inD d1 d2).map (fun b => D.bl (!b)) = some d at e
  cases ee : inD d1 d2 with
  | none => rw [ee] at e; cases e
  | some b =>
    rw [ee] at e
    cases e
    have q' := fin_flat (v := .bl (!b)) sb rfl q
    cases d2 with
    | lst l => exact op_notIn_seq pins s σ H x y v u Q I rx ry (inD_seq hK (neg := true) sb h1 (.inl h2) (by cases d1 <;> exact ee) q')
    | tup l =>
      have ee : (if (d1.flat && l.all D.flat) = true then some (l.any fun y => eqF y d1) else inDeep d1 l) = some b := by cases d1 <;> exact ee
      by_cases hf : (d1.flat && l.all D.flat) = true
      · exact op_notIn_seq pins s σ H x y v u Q I rx ry (inD_seq hK (neg := true) sb h1 (.inr h2) (by rw [if_pos hf] at ee ⊢; exact ee) q')
      · rw [if_neg hf] at ee
        exact (in_deep hK hu I rx ry sb h1 h2 ee).2 q'
    | str z =>
      cases d1 with
      | str c =>
        change (match c.cps.toList with | [c] => some (decide (c ∈ z.cps.toList)) | _ => none) = some b at ee
        split at ee
        · rename_i ch hc
          cases ee
          have ec : c = ⟨#[ch]⟩ := by
            obtain ⟨cps⟩ := c
            congr 1
            apply Array.ext'
            exact hc
          exact op_notIn_sign pins s σ H x y v u Q I rx ry ⟨ch, z, ec ▸ h1.str, h2.str, q'⟩
        · cases ee
      | _ => cases ee
    | _ => cases d1 <;> cases ee
end
end DL

set_option Elab.async false
set_option linter.all false
set_option maxRecDepth 100000
set_option maxHeartbeats 4000000
namespace DL
open PySem L2 PyProof.Rows
section
variable {k : Wk} {X : Cx}
theorem pr_len (hK : X.K = k.K) : CallR X (.builtin "len") (rP k .len) := by
  intro pins s σ H xs us Q I r ⟨G, ds, d, sb, pr, e, q⟩
  change lenP ds = some d at e
  cases pr with
  | nil => cases e
  | cons h1 pr =>
    cases pr with
    | nil =>
      rename_i d1 v
      cases d1 with
      | lst l =>
        cases e
        obtain ⟨a, vs, e1, q1, r1⟩ := h1.lst sb
        refine call_len_seq pins s σ H _ us Q I r ⟨a, vs, by rw [e1], .inl (SqL.of q1), ?_⟩
        rw [← r1.length]
        exact fin_flat sb rfl q
      | tup l =>
        cases e
        obtain ⟨a, vs, e1, q1, r1⟩ := h1.tup sb
        refine call_len_seq pins s σ H _ us Q I r ⟨a, vs, by rw [e1], .inr (hK ▸ q1), ?_⟩
        rw [← r1.length]
        exact fin_flat sb rfl q
      | scr l =>
        cases e
        obtain ⟨a, e1, q1⟩ := h1.scr sb
        refine call_len_seq pins s σ H _ us Q I r ⟨a, _, by rw [e1], .inl (hK ▸ q1), ?_⟩
        rw [List.length_map]
        exact fin_flat sb rfl q
      | str z =>
        simp only [lenP] at e
        split at e
        · rename_i hl
          cases e
          exact call_len_str pins s σ H _ us Q I r ⟨z, by rw [h1.str], le_szl hl, fin_flat sb rfl q⟩
        · cases e
      | _ => cases e
    | cons h2 pr =>
      rename_i d1 v d2 ds2 v2 vs2
      cases d1 <;> cases e
theorem pr_tupOf (hK : X.K = k.K) : CallR X (.type "tuple") (rP k .tupOf) := by
  intro pins s σ H xs us Q I r ⟨G, ds, d, sb, pr, e, q⟩
  change tupOfP ds = some d at e
  cases pr with
  | nil => cases e
  | cons h1 pr =>
    cases pr with
    | nil =>
      rename_i d1 v
      cases d1 with
      | lst l =>
        cases e
        obtain ⟨a, vs, e1, q1, r1⟩ := h1.lst sb
        exact call_tuple_of pins s σ H _ us Q I r ⟨a, vs, by rw [e1], .inl ⟨SqL.of q1, fin_tup sb r1 q⟩⟩
      | tup l =>
        cases e
        obtain ⟨a, vs, e1, q1, r1⟩ := h1.tup sb
        refine call_tuple_of pins s σ H _ us Q I r ⟨a, vs, by rw [e1], .inr ⟨hK ▸ q1, ?_⟩⟩
        rcases h1 with h1 | ⟨_, _, _, _, h1⟩
        · exact e1 ▸ q _ G H (New.refl sb) h1
        · exact h1.elim
      | _ => cases e
    | cons h2 pr =>
      rename_i d1 v d2 ds2 v2 vs2
      cases d1 <;> cases e
theorem pr_lstOfF (hK : X.K = k.K) : CallR X (.type "list") (rPF k .lstOf) := by
  intro pins s σ H xs us Q I r ⟨G, ds, l, sb, pr, e, q⟩
  change lstOfP ds = some (.lst l) at e
  cases pr with
  | nil => cases e
  | cons h1 pr =>
    cases pr with
    | nil =>
      rename_i d1 v
      cases d1 with
      | lst l =>
        cases e
        obtain ⟨a, vs, e1, q1, r1⟩ := h1.lst sb
        exact call_list_of pins s σ H _ us Q I r ⟨a, vs, by rw [e1], .inl (SqL.of q1), fun p hp => q p vs hp r1⟩
      | tup l =>
        cases e
        obtain ⟨a, vs, e1, q1, r1⟩ := h1.tup sb
        exact call_list_of pins s σ H _ us Q I r ⟨a, vs, by rw [e1], .inr (hK ▸ q1), fun p hp => q p vs hp r1⟩
      | _ => cases e
    | cons h2 pr =>
      rename_i d1 v d2 ds2 v2 vs2
      cases d1 <;> cases e
theorem leS_tr (a b c : Str) (h1 : leS a b = true) (h2 : leS b c = true) : leS a c = true := by
  unfold leS at *
  simp only [decide_eq_true_eq] at *
  exact List.le_trans h1 h2
theorem leS_tot (a b : Str) : (leS a b || leS b a) = true := by
  unfold leS
  simp only [Bool.or_eq_true, decide_eq_true_eq]
  exact List.le_total ..
theorem leS_anti (a b : Str) (h1 : leS a b = true) (h2 : leS b a = true) : a = b := by
  unfold leS at *
  simp only [decide_eq_true_eq] at *
  have := List.le_antisymm h1 h2
  cases a; cases b
  simp at this
  rw [this]
theorem rising_pw : ∀ (l : List Str) (p : Str), PyProof.Rows.risingS p l = true → (p :: l).Pairwise fun a b => leS a b = true
  | [], p, _ => by simp
  | x :: r, p, h => by
    unfold PyProof.Rows.risingS at h
    rw [Bool.and_eq_true, PyProof.Rows.ltCps_eq] at h
    have ih := rising_pw r x h.2
    have hp : leS p x = true := by
      unfold leS
      have := h.1
      simp only [Bool.not_eq_true', decide_eq_false_iff_not] at this
      exact decide_eq_true this
    refine List.pairwise_cons.mpr ⟨fun y hy => ?_, ih⟩
    rcases List.mem_cons.mp hy with rfl | hy
    · exact hp
    · exact leS_tr _ _ _ hp ((List.pairwise_cons.mp ih).1 y hy)
theorem sortedS_the {ys ss : List Str} (hp : ys.Perm ss) (h : PyProof.Rows.sortedS ys = true) : ys = ss.mergeSort leS := by
  refine List.Perm.eq_of_pairwise (le := fun a b => leS a b = true) (fun a b _ _ => leS_anti a b) ?_ (List.pairwise_mergeSort leS_tr leS_tot ss) (hp.trans (List.mergeSort_perm ss leS).symm)
  cases ys with
  | nil => exact .nil
  | cons x r => exact rising_pw r x h
theorem drs_strl {G : Hp} : ∀ {ss : List Str}, DRs k G (ss.map .str) (ss.map .str)
  | [] => rfl
  | a :: l => ⟨_, _, rfl, rfl, drs_strl⟩
/-! sorted tuples of ints -/
theorem intsD_map' : ∀ {l : List D} {ns : List Int}, intsD l = some ns → l = ns.map .int
  | [], ns, h => by cases h; rfl
  | d :: r, ns, h => by
    cases d with
    | int i =>
      simp only [intsD] at h
      cases e : intsD r with
      | none => rw [e] at h; cases h
      | some a =>
        rw [e] at h
        cases h
        rw [List.map_cons, ← intsD_map' e]
    | _ => cases h
theorem tupsD_map : ∀ {l : List D} {ts : List (List Int)}, tupsD l = some ts → l = ts.map tupI
  | [], ts, h => by cases h; rfl
  | d :: r, ts, h => by
    cases d with
    | tup l =>
      simp only [tupsD] at h
      cases e1 : intsD l with
      | none => rw [e1] at h; cases h
      | some a =>
        cases e2 : tupsD r with
        | none => rw [e1, e2] at h; cases h
        | some b =>
          rw [e1, e2] at h
          cases h
          rw [List.map_cons, ← tupsD_map e2]
          unfold tupI
          rw [intsD_map' e1]
    | _ => cases h
/-- above all items -/
def bdT (ts : List (List Int)) : Int := ts.flatten.foldl max 0 + 1
theorem foldl_max {a x : Int} : ∀ {l : List Int} {b : Int}, x ∈ l ∨ x ≤ b → x ≤ l.foldl max b
  | [], b, h => by
    rcases h with h | h
    · cases h
    · exact h
  | y :: l, b, h => by
    rw [List.foldl_cons]
    refine foldl_max (a := a) ?_
    rcases h with h | h
    · rcases List.mem_cons.mp h with rfl | h
      · exact .inr (by omega)
      · exact .inl h
    · exact .inr (by omega)
theorem bdT_ok {ts : List (List Int)} (h0 : ∀ t ∈ ts, ∀ x ∈ t, 0 ≤ x) {t : List Int} (ht : t ∈ ts) : TS.Bd (bdT ts) t := fun m hm => by
  refine ⟨h0 t ht m hm, ?_⟩
  have := foldl_max (a := 0) (x := m) (l := ts.flatten) (b := 0) (.inl (List.mem_flatten.mpr ⟨t, ht, hm⟩))
  unfold bdT
  omega
theorem evenT_inv {ts : List (List Int)} (h : evenT ts = true) : ∃ d, 1 ≤ d ∧ (∀ t ∈ ts, t.length = d) ∧ ∀ t ∈ ts, ∀ x ∈ t, 0 ≤ x := by
  cases ts with
  | nil => exact ⟨1, Nat.le_refl _, (fun t ht => nomatch ht), fun t ht => nomatch ht⟩
  | cons a r =>
    simp only [evenT, Bool.and_eq_true, decide_eq_true_iff, List.all_eq_true] at h
    exact ⟨a.length, h.1, fun t ht => (h.2 t ht).1, fun t ht => (h.2 t ht).2⟩
theorem drs_memT {G : Hp} {f : List Int → D} : ∀ {ts : List (List Int)} {vs : List V}, DRs k G (ts.map f) vs → ∀ x ∈ vs, ∃ t ∈ ts, DR k G (f t) x
  | [], vs, h, x, hx => by
    rw [show vs = [] from h] at hx
    cases hx
  | t :: ts, vs, h, x, hx => by
    obtain ⟨v, vr, rfl, r1, r2⟩ := h
    rcases List.mem_cons.mp hx with rfl | hx
    · exact ⟨t, List.mem_cons_self .., r1⟩
    · obtain ⟨u, m, q⟩ := drs_memT (ts := ts) r2 x hx
      exact ⟨u, List.mem_cons_of_mem _ m, q⟩
theorem drs_atT {G : Hp} {f : List Int → D} : ∀ {ts : List (List Int)} {vs : List V}, DRs k G (ts.map f) vs → ∀ t ∈ ts, ∃ x ∈ vs, DR k G (f t) x
  | [], vs, h, t, ht => nomatch ht
  | a :: ts, vs, h, t, ht => by
    obtain ⟨v, vr, rfl, r1, r2⟩ := h
    rcases List.mem_cons.mp ht with rfl | ht
    · exact ⟨v, List.mem_cons_self .., r1⟩
    · obtain ⟨u, m, q⟩ := drs_atT (ts := ts) r2 t ht
      exact ⟨u, List.mem_cons_of_mem _ m, q⟩
theorem drs_permT {G : Hp} {f : List Int → D} {xs ys : List V} (p : ys.Perm xs) : ∀ {ts : List (List Int)}, DRs k G (ts.map f) xs → ∃ bs : List (List Int), bs.Perm ts ∧ DRs k G (bs.map f) ys := by
  induction p with
  | nil => exact fun {ts} h => ⟨ts, .refl _, h⟩
  | cons x _ ih =>
    intro ts h
    cases ts with
    | nil => exact absurd (show _ :: _ = ([] : List V) from h) (by simp)
    | cons t ts =>
      obtain ⟨v, vr, e, r1, r2⟩ := h
      cases e
      obtain ⟨bs, b1, b2⟩ := ih r2
      exact ⟨t :: bs, b1.cons t, x, _, rfl, r1, b2⟩
  | swap x y l =>
    intro ts h
    cases ts with
    | nil => exact absurd (show _ :: _ = ([] : List V) from h) (by simp)
    | cons t ts =>
      obtain ⟨v, vr, e, r1, r2⟩ := h
      cases e
      cases ts with
      | nil => exact absurd (show _ :: _ = ([] : List V) from r2) (by simp)
      | cons t2 ts =>
        obtain ⟨v2, vr2, e2, r3, r4⟩ := r2
        cases e2
        exact ⟨t2 :: t :: ts, List.Perm.swap .., _, _, rfl, r3, _, _, rfl, r1, r4⟩
  | trans _ _ ih1 ih2 =>
    intro ts h
    obtain ⟨bs, b1, b2⟩ := ih2 h
    obtain ⟨cs, c1, c2⟩ := ih1 b2
    exact ⟨cs, c1.trans b1, c2⟩
theorem drs_ints' {G : Hp} : ∀ {t : List Int} {vs : List V}, DRs k G (t.map .int) vs → vs = t.map V.int
  | [], vs, h => h
  | a :: t, vs, h => by
    obtain ⟨v, vr, rfl, r1, r2⟩ := h
    rw [show v = V.int a from r1, drs_ints' r2]
    rfl
theorem tupI_of {K : PySem.W.Frag} (hK : K = k.K) {G H : Hp} (sb : Sub G H) {t : List Int} {x : V} (h : DR k G (tupI t) x) : TupI K H x t := by
  obtain ⟨a, vs, e, q, r⟩ := h
  rw [drs_ints' r] at q
  rw [hK]
  exact ⟨a, e, sqT_mono sb q⟩
theorem pw_codeT {K : PySem.W.Frag} (hK : K = k.K) {G H : Hp} (sb : Sub G H) {B : Int} : ∀ {bs : List (List Int)} {ys : List V}, DRs k G (bs.map tupI) ys → ys.Pairwise (fun x y => ∀ n m, TupI K H x n → TupI K H y m → TS.code B n ≤ TS.code B m) → bs.Pairwise fun a b => TS.code B a ≤ TS.code B b
  | [], ys, _, _ => .nil
  | b :: bs, ys, h, p => by
    obtain ⟨v, vr, rfl, r1, r2⟩ := h
    have p := List.pairwise_cons.mp p
    refine List.pairwise_cons.mpr ⟨fun c hc => ?_, pw_codeT hK sb r2 p.2⟩
    obtain ⟨w, hw, r3⟩ := drs_atT r2 c hc
    exact p.1 w hw b c (tupI_of hK sb r1) (tupI_of hK sb r3)
theorem leT_code {B : Int} : ∀ {a b : List Int}, a.length = b.length → TS.Bd B a → TS.Bd B b → TS.code B a ≤ TS.code B b → leT a b = true
  | [], _, _, _, _, _ => by simp [leT]
  | x :: a, [], h, _, _, _ => by simp at h
  | x :: a, y :: b, h, ha, hb, hc => by
    have hl : a.length = b.length := by simpa using h
    unfold leT
    rw [Bool.or_eq_true, decide_eq_true_iff, Bool.and_eq_true, decide_eq_true_iff]
    rcases Int.lt_trichotomy x y with z | z | z
    · exact .inl z
    · subst z
      refine .inr ⟨rfl, leT_code hl (fun m hm => ha m (List.mem_cons_of_mem _ hm)) (fun m hm => hb m (List.mem_cons_of_mem _ hm)) ?_⟩
      have := TS.code_same (B := B) (d := x) hl.symm
      omega
    · have := TS.code_lt (B := B) hl.symm (fun m hm => hb m (List.mem_cons_of_mem _ hm)) (fun m hm => ha m (List.mem_cons_of_mem _ hm)) z
      omega
theorem leT_refl : ∀ a : List Int, leT a a = true
  | [] => rfl
  | x :: a => by simp [leT, leT_refl a]
theorem leT_tr : ∀ (a b c : List Int), leT a b = true → leT b c = true → leT a c = true
  | [], _, _, _, _ => by simp [leT]
  | x :: a, [], _, h, _ => by simp [leT] at h
  | x :: a, y :: b, [], _, h => by simp [leT] at h
  | x :: a, y :: b, z :: c, h1, h2 => by
    simp only [leT, Bool.or_eq_true, decide_eq_true_iff, Bool.and_eq_true] at *
    rcases h1 with h1 | ⟨rfl, h1⟩
    · rcases h2 with h2 | ⟨rfl, h2⟩
      · exact .inl (by omega)
      · exact .inl h1
    · rcases h2 with h2 | ⟨rfl, h2⟩
      · exact .inl h2
      · exact .inr ⟨rfl, leT_tr a b c h1 h2⟩
theorem leT_tot : ∀ (a b : List Int), (leT a b || leT b a) = true
  | [], _ => by simp [leT]
  | x :: a, [] => by simp [leT]
  | x :: a, y :: b => by
    have ih := leT_tot a b
    simp only [leT, Bool.or_eq_true, decide_eq_true_iff, Bool.and_eq_true] at *
    rcases Int.lt_trichotomy x y with z | z | z
    · exact .inl (.inl z)
    · subst z
      rcases ih with h | h
      · exact .inl (.inr ⟨rfl, h⟩)
      · exact .inr (.inr ⟨rfl, h⟩)
    · exact .inr (.inl z)
theorem leT_anti : ∀ (a b : List Int), leT a b = true → leT b a = true → a = b
  | [], [], _, _ => rfl
  | [], y :: b, _, h => by simp [leT] at h
  | x :: a, [], h, _ => by simp [leT] at h
  | x :: a, y :: b, h1, h2 => by
    simp only [leT, Bool.or_eq_true, decide_eq_true_iff, Bool.and_eq_true] at *
    have e : x = y := by
      rcases h1 with h1 | h1
      · rcases h2 with h2 | h2
        · omega
        · exact h2.1.symm
      · exact h1.1
    subst e
    rw [leT_anti a b (by rcases h1 with h | h; omega; exact h.2) (by rcases h2 with h | h; omega; exact h.2)]
theorem sortedT_the {ts bs : List (List Int)} {d : Nat} (hl : ∀ t ∈ ts, t.length = d) (h0 : ∀ t ∈ ts, ∀ x ∈ t, 0 ≤ x) (hp : bs.Perm ts) (h : bs.Pairwise fun a b => TS.code (bdT ts) a ≤ TS.code (bdT ts) b) : bs = ts.mergeSort leT := by
  refine List.Perm.eq_of_pairwise (le := fun a b => leT a b = true) (fun a b _ _ => leT_anti a b) ?_ (List.pairwise_mergeSort leT_tr leT_tot ts) (hp.trans (List.mergeSort_perm ts leT).symm)
  refine List.Pairwise.imp_of_mem (fun {a b} ha hb hc => ?_) h
  have ma := hp.mem_iff.mp ha
  have mb := hp.mem_iff.mp hb
  exact leT_code ((hl a ma).trans (hl b mb).symm) (bdT_ok h0 ma) (bdT_ok h0 mb) hc
theorem pr_srtF (hK : X.K = k.K) : CallR X (.builtin "sorted") (rPF k .srt) := by
  intro pins s σ H xs us Q I r ⟨G, ds, l, sb, pr, e, q⟩
  change srtP ds = some (.lst l) at e
  cases pr with
  | nil => cases e
  | cons h1 pr =>
    cases pr with
    | nil =>
      rename_i d1 v
      cases d1 with
      | lst l0 =>
        change (match strsD l0 with | some ss => srt1 ss | none => (match tupsD l0 with | some ts => srt2 ts | none => none)) = some (.lst l) at e
        cases ei : strsD l0 with
        | none =>
          rw [ei] at e
          simp only [] at e
          cases et : tupsD l0 with
          | none => rw [et] at e; cases e
          | some ts =>
            rw [et] at e
            simp only [srt2] at e
            split at e
            · rename_i hc
              rw [Bool.and_eq_true, decide_eq_true_iff] at hc
              cases e
              obtain ⟨a, vs, e1, q1, r1⟩ := h1.lst sb
              obtain rfl := tupsD_map et
              obtain ⟨dd, h1d, hl, h0⟩ := evenT_inv hc.2
              refine cr_sortT (d := dd) (B := bdT ts) h1d pins s σ H _ us Q I r ⟨a, vs, by rw [e1], SqL.of q1, by rw [← DRs.length r1, List.length_map]; exact hc.1, fun x hx => ?_, fun ys p hp hs hn => ?_⟩
              · obtain ⟨t, ht, hd⟩ := drs_memT r1 x hx
                exact ⟨t, tupI_of hK sb hd, hl t ht, bdT_ok h0 ht⟩
              · obtain ⟨bs, b1, b2⟩ := drs_permT hp r1
                exact q p ys hn (by rw [← sortedT_the hl h0 b1 (pw_codeT hK sb b2 hs)]; exact b2)
            · cases e
        | some ss =>
          rw [ei] at e
          simp only [srt1] at e
          split at e
          · rename_i h64
            cases e
            obtain ⟨a, vs, e1, q1, r1⟩ := h1.lst sb
            rw [drs_strs ei r1] at q1
            refine cr_sortedS pins s σ H _ us Q I r ⟨a, ss, by rw [e1], SqL.of q1, h64, fun ys p hp hs hn => ?_⟩
            rw [sortedS_the hp hs]
            exact q p _ hn drs_strl
          · cases e
      | _ => cases e
    | cons h2 pr =>
      rename_i d1 v d2 ds2 v2 vs2
      cases d1 <;> cases e
theorem sum_tup {a : Addr} {ns : List Int} {pins : List (Addr × Obj)} {s : Shared} {σ : St} {H : Hp} {us : List Value} {Q : VK} (hc : X.calm = true) (I : L2.Inv X pins σ H s) (r : Vals [V.ref a] us) (hs : SqT X.K H a (ns.map V.int)) (q : Q (.int ns.sum) H) :
    wpAny (model X.prog X.w) X.A (call (.builtin "sum") us) (EP X pins σ Q) X.xe s := by
  obtain ⟨its, rv, ht, _⟩ := I.tuple hs
  rw [Vals.ref1 r]
  have hi := rv.ints
  obtain ⟨xs, hx⟩ := hi.allInts.items
  have hn : numsOf its.toArray.toList = ns := by rw [show its.toArray.toList = its from rfl, hi.numsOf]
  have hl : s.heap.IsTuple a its.toArray := ht
  rw [hx] at hl hn
  rw [nums_intItems] at hn
  refine PySem.W.ktm_sumG (I.ok.hd hc) hl fun h' tk t' hk => ?_
  rw [preSum_eq, List.take_of_length_le (by simp), hn]
  exact ⟨.int _, H, I.kept hk, ⟨_, rfl⟩, q⟩
theorem pr_sum (hK : X.K = k.K) (hc : X.calm = true) : CallR X (.builtin "sum") (rP k .sumL) := by
  intro pins s σ H xs us Q I r ⟨G, ds, d, sb, pr, e, q⟩
  change sumP ds = some d at e
  cases pr with
  | nil => cases e
  | cons h1 pr =>
    cases pr with
    | nil =>
      rename_i d1 v
      cases d1 with
      | lst l =>
        change (intsD l).map (fun ns => D.int ns.sum) = some d at e
        cases ei : intsD l with
        | none => rw [ei] at e; cases e
        | some ns =>
          rw [ei] at e
          cases e
          obtain ⟨a, vs, e1, q1, r1⟩ := h1.lst sb
          rw [drs_ints ei r1] at q1
          exact cr_sum hc pins s σ H _ us Q I r ⟨a, ns, by rw [e1], SqL.of q1, fin_flat sb rfl q⟩
      | tup l =>
        change (intsD l).map (fun ns => D.int ns.sum) = some d at e
        cases ei : intsD l with
        | none => rw [ei] at e; cases e
        | some ns =>
          rw [ei] at e
          cases e
          obtain ⟨a, vs, e1, q1, r1⟩ := h1.tup sb
          rw [drs_ints ei r1] at q1
          rw [e1] at r
          exact sum_tup hc I r (hK ▸ q1) (fin_flat sb rfl q)
      | _ => cases e
    | cons h2 pr =>
      rename_i d1 v d2 ds2 v2 vs2
      cases d1 <;> cases e
theorem pr_all (hc : X.calm = true) : CallR X (.builtin "all") (rP k .allL) := by
  intro pins s σ H xs us Q I r ⟨G, ds, d, sb, pr, e, q⟩
  change allP ds = some d at e
  cases pr with
  | nil => cases e
  | cons h1 pr =>
    cases pr with
    | nil =>
      rename_i d1 v
      cases d1 with
      | lst l =>
        change (boolsD l).map (fun ns => D.bl (ns.all id)) = some d at e
        cases ei : boolsD l with
        | none => rw [ei] at e; cases e
        | some ns =>
          rw [ei] at e
          cases e
          obtain ⟨a, vs, e1, q1, r1⟩ := h1.lst sb
          rw [drs_bools ei r1] at q1
          exact cr_all hc pins s σ H _ us Q I r ⟨a, ns, by rw [e1], SqL.of q1, fin_flat sb rfl q⟩
      | _ => cases e
    | cons h2 pr =>
      rename_i d1 v d2 ds2 v2 vs2
      cases d1 <;> cases e
theorem pr_any (hc : X.calm = true) : CallR X (.builtin "any") (rP k .anyL) := by
  intro pins s σ H xs us Q I r ⟨G, ds, d, sb, pr, e, q⟩
  change anyP ds = some d at e
  cases pr with
  | nil => cases e
  | cons h1 pr =>
    cases pr with
    | nil =>
      rename_i d1 v
      cases d1 with
      | lst l =>
        change (boolsD l).map (fun ns => D.bl (ns.any id)) = some d at e
        cases ei : boolsD l with
        | none => rw [ei] at e; cases e
        | some ns =>
          rw [ei] at e
          cases e
          obtain ⟨a, vs, e1, q1, r1⟩ := h1.lst sb
          rw [drs_bools ei r1] at q1
          exact cr_any hc pins s σ H _ us Q I r ⟨a, ns, by rw [e1], SqL.of q1, fin_flat sb rfl q⟩
      | _ => cases e
    | cons h2 pr =>
      rename_i d1 v d2 ds2 v2 vs2
      cases d1 <;> cases e
theorem one_list {G H : Hp} {ds : List D} {xs : List V} (pr : PRs k G H ds xs) {f : List D → Option D} {d : D} (e : f ds = some d) (h0 : f [] = none) (h2 : ∀ a b c, f (a :: b :: c) = none) : ∃ x v, ds = [x] ∧ xs = [v] ∧ PR k G H x v := by
  cases pr with
  | nil => rw [h0] at e; cases e
  | cons h1 pr =>
    cases pr with
    | nil => exact ⟨_, _, rfl, rfl, h1⟩
    | cons h2' pr => rw [h2] at e; cases e
theorem pr_abs : CallR X (.builtin "abs") (rP k .absI) := by
  intro pins s σ H xs us Q I r ⟨G, ds, d, sb, pr, e, q⟩
  change absP ds = some d at e
  obtain ⟨x, v, rfl, rfl, h1⟩ := one_list pr e rfl (fun a b c => by cases a <;> rfl)
  cases x with
  | int i => cases e; exact call_abs pins s σ H _ us Q I r ⟨i, by rw [h1.int], fin_flat sb rfl q⟩
  | _ => cases e
theorem pr_str : CallR X (.type "str") (rP k .strOf) := by
  intro pins s σ H xs us Q I r ⟨G, ds, d, sb, pr, e, q⟩
  change strP ds = some d at e
  obtain ⟨x, v, rfl, rfl, h1⟩ := one_list pr e rfl (fun a b c => by cases a <;> rfl)
  cases x with
  | int i =>
    simp only [strP] at e
    split at e
    · rename_i hl
      cases e
      exact call_str_int pins s σ H _ us Q I r ⟨i, by rw [h1.int], hl, fin_flat sb rfl q⟩
    · cases e
  | str z => cases e; exact SkE.call_str_str pins s σ H _ us Q I r ⟨z, by rw [h1.str], fin_flat sb rfl q⟩
  | _ => cases e
theorem pr_int : CallR X (.type "int") (rP k .intOf) := by
  intro pins s σ H xs us Q I r ⟨G, ds, d, sb, pr, e, q⟩
  change intP ds = some d at e
  obtain ⟨x, v, rfl, rfl, h1⟩ := one_list pr e rfl (fun a b c => by cases a <;> rfl)
  cases x with
  | int i => cases e; exact call_int1 pins s σ H _ us Q I r (.inl ⟨i, by rw [h1.int], fin_flat sb rfl q⟩)
  | str z =>
    change (match PySem.intText? z with | some n => if z.length ≤ 640 then some (D.int n) else none | none => none) = some d at e
    cases ei : PySem.intText? z with
    | none => rw [ei] at e; cases e
    | some n =>
      rw [ei] at e
      by_cases hl : z.length ≤ 640
      · have e' : (if z.length ≤ 640 then some (D.int n) else none) = some d := e
        rw [if_pos hl] at e'
        cases e'
        exact call_int_str pins s σ H _ us Q I r ⟨z, n, by rw [h1.str], ei, hl, fin_flat sb rfl q⟩
      · have e' : (if z.length ≤ 640 then some (D.int n) else none) = some d := e
        rw [if_neg hl] at e'
        cases e'
  | _ => cases e
theorem two_list {G H : Hp} {ds : List D} {xs : List V} (pr : PRs k G H ds xs) {f : List D → Option D} {d : D} (e : f ds = some d) (h0 : f [] = none) (h1 : ∀ a, f [a] = none) (h2 : ∀ a b c r, f (a :: b :: c :: r) = none) : ∃ x y v w, ds = [x, y] ∧ xs = [v, w] ∧ PR k G H x v ∧ PR k G H y w := by
  cases pr with
  | nil => rw [h0] at e; cases e
  | cons p1 pr =>
    cases pr with
    | nil => rw [h1] at e; cases e
    | cons p2 pr =>
      cases pr with
      | nil => exact ⟨_, _, _, _, rfl, rfl, p1, p2⟩
      | cons p3 pr => rw [h2] at e; cases e
theorem pr_min2 (hc : X.calm = true) : CallR X (.builtin "min") (rP k .min2) := by
  intro pins s σ H xs us Q I r ⟨G, ds, d, sb, pr, e, q⟩
  change min2P ds = some d at e
  obtain ⟨x, y, v, w, rfl, rfl, h1, h2⟩ := two_list pr e rfl (fun a => by cases a <;> rfl) (fun a b c r => by cases a <;> cases b <;> rfl)
  cases x with
  | int i => cases y with
    | int j => cases e; exact call_min2 hc pins s σ H _ us Q I r ⟨i, j, by rw [h1.int, h2.int], fin_flat sb rfl q⟩
    | _ => cases e
  | _ => cases e
theorem fold_min : ∀ (r : List Int) (a : Int), r.foldl min a ∈ a :: r ∧ ∀ y ∈ a :: r, r.foldl min a ≤ y
  | [], a => by simp
  | b :: r, a => by
    obtain ⟨h1, h2⟩ := fold_min r (min a b)
    simp only [List.foldl_cons, List.mem_cons] at *
    constructor
    · rcases h1 with h | h
      · by_cases c : a ≤ b
        · left; omega
        · right; left; omega
      · exact .inr (.inr h)
    · have h0 := h2 _ (.inl rfl)
      rintro y (rfl | rfl | hy)
      · omega
      · omega
      · exact h2 y (.inr hy)
theorem pr_minL (hc : X.calm = true) : CallR X (.builtin "min") (rP k .minL) := by
  intro pins s σ H xs us Q I r ⟨G, ds, d, sb, pr, e, q⟩
  change minP ds = some d at e
  cases pr with
  | nil => cases e
  | cons h1 pr =>
    cases pr with
    | nil =>
      rename_i d1 v
      cases d1 with
      | lst l =>
        change (match intsD l with | some (a :: r) => some (D.int (r.foldl min a)) | _ => none) = some d at e
        cases ei : intsD l with
        | none => rw [ei] at e; cases e
        | some ns =>
          rw [ei] at e
          cases ns with
          | nil => cases e
          | cons b ns =>
            cases e
            obtain ⟨a, vs, e1, q1, r1⟩ := h1.lst sb
            rw [drs_ints ei r1] at q1
            refine cr_min hc pins s σ H _ us Q I r ⟨a, b :: ns, by rw [e1], SqL.of q1, by simp, fun m hm hb => ?_⟩
            obtain ⟨g1, g2⟩ := fold_min ns b
            have : m = ns.foldl min b := Int.le_antisymm (hb _ g1) (g2 m hm)
            subst this
            exact fin_flat sb rfl q
      | _ => cases e
    | cons h2 pr =>
      rename_i d1 v d2 ds2 v2 vs2
      cases d1 <;> cases e
theorem fold_max : ∀ (r : List Int) (a : Int), r.foldl max a ∈ a :: r ∧ ∀ y ∈ a :: r, y ≤ r.foldl max a
  | [], a => by simp
  | b :: r, a => by
    obtain ⟨h1, h2⟩ := fold_max r (max a b)
    simp only [List.foldl_cons, List.mem_cons] at *
    constructor
    · rcases h1 with h | h
      · by_cases c : a ≤ b
        · right; left; omega
        · left; omega
      · exact .inr (.inr h)
    · have h0 := h2 _ (.inl rfl)
      rintro y (rfl | rfl | hy)
      · omega
      · omega
      · exact h2 y (.inr hy)
theorem pr_maxL (hc : X.calm = true) : CallR X (.builtin "max") (rP k .maxL) := by
  intro pins s σ H xs us Q I r ⟨G, ds, d, sb, pr, e, q⟩
  change maxP ds = some d at e
  cases pr with
  | nil => cases e
  | cons h1 pr =>
    cases pr with
    | nil =>
      rename_i d1 v
      cases d1 with
      | lst l =>
        change (match intsD l with | some (a :: r) => some (D.int (r.foldl max a)) | _ => none) = some d at e
        cases ei : intsD l with
        | none => rw [ei] at e; cases e
        | some ns =>
          rw [ei] at e
          cases ns with
          | nil => cases e
          | cons b ns =>
            cases e
            obtain ⟨a, vs, e1, q1, r1⟩ := h1.lst sb
            rw [drs_ints ei r1] at q1
            refine cr_max hc pins s σ H _ us Q I r ⟨a, b :: ns, by rw [e1], SqL.of q1, by simp, fun m hm hb => ?_⟩
            obtain ⟨g1, g2⟩ := fold_max ns b
            have : m = ns.foldl max b := Int.le_antisymm (g2 m hm) (hb _ g1)
            subst this
            exact fin_flat sb rfl q
      | _ => cases e
    | cons h2 pr =>
      rename_i d1 v d2 ds2 v2 vs2
      cases d1 <;> cases e
theorem pr_max2 (hc : X.calm = true) : CallR X (.builtin "max") (rP k .max2) := by
  intro pins s σ H xs us Q I r ⟨G, ds, d, sb, pr, e, q⟩
  change max2P ds = some d at e
  obtain ⟨x, y, v, w, rfl, rfl, h1, h2⟩ := two_list pr e rfl (fun a => by cases a <;> rfl) (fun a b c r => by cases a <;> cases b <;> rfl)
  cases x with
  | int i => cases y with
    | int j => cases e; exact call_max2 hc pins s σ H _ us Q I r ⟨i, j, by rw [h1.int, h2.int], fin_flat sb rfl q⟩
    | _ => cases e
  | _ => cases e
theorem pr_dvm : CallR X (.builtin "divmod") (rP k .dvm) := by
  intro pins s σ H xs us Q I r ⟨G, ds, d, sb, pr, e, q⟩
  change dvmP ds = some d at e
  obtain ⟨x, y, v, w, rfl, rfl, h1, h2⟩ := two_list pr e rfl (fun a => by cases a <;> rfl) (fun a b c r => by cases a <;> cases b <;> rfl)
  cases x with
  | int i => cases y with
    | int j =>
      simp only [dvmP] at e
      split at e
      · rename_i hm
        cases e
        simp only [Bool.and_eq_true, decide_eq_true_eq, Bool.not_eq_true'] at hm
        exact L2.call_divmodW pins s σ H _ us Q I r ⟨i, j, by rw [h1.int, h2.int], hm, fin_tup sb (show DRs k G [.int (i / j), .int (i % j)] [.int (i / j), .int (i % j)] from ⟨_, _, rfl, rfl, _, _, rfl, rfl, rfl⟩) q⟩
      · cases e
    | _ => cases e
  | _ => cases e
theorem pr_repr (hK : X.K = k.K) (hg : X.A.guards = some []) (hu : X.A.units + 64 < cLine) : CallR X (.builtin "repr") (rP k .repr) := by
  intro pins s σ H xs us Q I r ⟨G, ds, d, sb, pr, e, q⟩
  change reprP ds = some d at e
  obtain ⟨x, v, rfl, rfl, h1⟩ := one_list pr e rfl (fun a b c => by cases a <;> rfl)
  change (match x.toPy with | some p => if p.showable && !p.hasDict && decide (p.shown.length ≤ szl) && decide (p.depth ≤ 60) then some (D.str p.shown) else none | none => none) = some d at e
  cases ep : x.toPy with
  | none => rw [ep] at e; cases e
  | some p =>
    rw [ep] at e
    have e' : (if (p.showable && !p.hasDict && decide (p.shown.length ≤ szl) && decide (p.depth ≤ 60)) = true then some (D.str p.shown) else none) = some d := e
    split at e'
    · rename_i hm
      cases e'
      simp only [Bool.and_eq_true, decide_eq_true_eq, Bool.not_eq_true'] at hm
      obtain ⟨⟨⟨m1, m2⟩, m3⟩, m4⟩ := hm
      have q' : Q (.str p.shown) H := fin_flat sb rfl q
      have dp : Dp X.K H v p := hK ▸ toPy_pr sb ep m2 h1
      obtain ⟨u, rfl, ru⟩ := vals1 r
      obtain ⟨as, rd⟩ := Dp.reads I p v u dp ru
      cases rd with
      | none => exact PySem.P.repr_of_none ⟨.str _, H, I.tok _, ⟨s.toks, by simp only [PyData.shown]⟩, q'⟩
      | bool b => exact PySem.P.repr_of_bool ⟨.str _, H, I.tok _, ⟨s.toks, by cases b <;> simp only [PyData.shown]⟩, q'⟩
      | int i t =>
        refine PySem.P.repr_of_int ?_ ⟨.str _, H, I.tok _, ⟨_, by simp only [PyData.shown]; rfl⟩, q'⟩
        simpa [PyData.showable] using m1
      | str z t =>
        refine PySem.P.repr_of_str ⟨.str _, H, I.tok _, ⟨_, by simp only [PyData.shown]; rfl⟩, q'⟩ ?_
        have := le_szl m3
        simpa [PyData.shown] using this
      | list ho hc hd hr =>
        exact repr_of_reads' (Reads.list ho hc hd hr) m1 (PyData.noDict_hsm m2) hg (by omega) (fun _ _ e => e) (fun h' u tk hk => ⟨.str _, H, I.kept hk, ⟨_, rfl⟩, q'⟩) (le_szl m3)
      | tuple ho hc hd hr =>
        exact repr_of_reads' (Reads.tuple ho hc hd hr) m1 (PyData.noDict_hsm m2) hg (by omega) (fun _ _ e => e) (fun h' u tk hk => ⟨.str _, H, I.kept hk, ⟨_, rfl⟩, q'⟩) (le_szl m3)
      | dict ho hc hd h1 h2 => simp [PyData.hasDict] at m2
    · cases e'
/-! ### subscripts -/
theorem pr_idx (hK : X.K = k.K) : IxR X (rP2 k .idx) := by
  intro value slice pins s σ H x y v u Q I rx ry ⟨G, ds, d, sb, pr, e, q⟩ hs
  obtain ⟨d1, d2, rfl, h1, h2⟩ := pr.two_inv
  change idxP [d1, d2] = some d at e
  cases d1 with
  | lst l => cases d2 with
    | int i =>
      change atI l i = some d at e
      obtain ⟨a, vs, e1, q1, r1⟩ := h1.lst sb
      obtain ⟨w, z1, z2⟩ := atI_dr e r1
      exact ix_list value slice pins s σ H x y v u Q I rx ry ⟨a, vs, i, w, e1, h2.int, SqL.of q1, z1, fin_same sb z2 q⟩ hs
    | _ => cases e
  | tup l => cases d2 with
    | int i =>
      change atI l i = some d at e
      obtain ⟨a, vs, e1, q1, r1⟩ := h1.tup sb
      obtain ⟨w, z1, z2⟩ := atI_dr e r1
      exact ix_tup value slice pins s σ H x y v u Q I rx ry ⟨a, vs, i, w, e1, h2.int, hK ▸ q1, z1, fin_same sb z2 q⟩ hs
    | _ => cases e
  | scr l => cases d2 with
    | int i =>
      change (atI l i).map D.int = some d at e
      obtain ⟨a, e1, q1⟩ := h1.scr sb
      cases ea : atI l i with
      | none => rw [ea] at e; cases e
      | some n =>
        rw [ea] at e
        cases e
        have z1 : atI (l.map V.int) i = some (.int n) := by
          unfold atI at ea ⊢
          rw [List.length_map]
          cases ex : ixN l.length i with
          | none => rw [ex] at ea; cases ea
          | some j =>
            rw [ex] at ea
            show (l.map V.int)[j]? = _
            rw [List.getElem?_map, show l[j]? = some n from ea]
            rfl
        exact ix_list value slice pins s σ H x y v u Q I rx ry ⟨a, _, i, _, e1, h2.int, hK ▸ q1, z1, fin_flat sb rfl q⟩ hs
    | _ => cases e
  | str z => cases d2 with
    | int i =>
      simp only [idxP] at e
      split at e
      · rename_i hl
        cases ea : atI z.cps.toList i with
        | none => rw [ea] at e; cases e
        | some c =>
          rw [ea] at e
          cases e
          exact ix_str value slice pins s σ H x y v u Q I rx ry ⟨z, i, c, h1.str, h2.int, le_szl hl, ea, fin_flat sb rfl q⟩ hs
      · cases e
    | _ => cases e
  | _ => cases e
/-- x[lo:hi] -/
def rCut (k : Wk) : V → Option Int → Option Int → Hp → VK → Prop := fun x lo hi H Q => ∃ G d r, Sub G H ∧ PR k G H d x ∧ cut1 d lo hi = some r ∧ ∀ v G' H', New G H G' H' → DR k G' r v → Q v H'
def rCutF (k : Wk) : V → Option Int → Option Int → Hp → VK → Prop := fun x lo hi H Q => ∃ G d l, Sub G H ∧ PR k G H d x ∧ cutL d lo hi = some (.lst l) ∧ ∀ a xs, H a = none → DRs k G l xs → Q (.ref a) (upd H a (.lst xs))
theorem cutD_whole {l : List D} {lo hi : Option Int} (h1 : HT.sIx l.length 0 lo = 0) (h2 : HT.sIx l.length l.length hi = l.length) : cutD l lo hi = l := by
  unfold cutD
  rw [h1, h2]
  simp
theorem pr_cut (hK : X.K = k.K) : SlR X (rCut k) := by
  intro pins s σ H x v vl vu lo hi sl Q I rx hs pl pu ⟨G, d, r, sb, h1, e, q⟩
  cases d with
  | lst l =>
    cases e
    obtain ⟨a, vs, e1, q1, r1⟩ := h1.lst sb
    exact sl_list pins s σ H x v vl vu lo hi sl Q I rx hs pl pu ⟨a, vs, e1, SqL.of q1, fin_lst sb (cut_dr r1) q⟩
  | tup l =>
    cases e
    obtain ⟨a, vs, e1, q1, r1⟩ := h1.tup sb
    refine sl_tupA pins s σ H x v vl vu lo hi sl Q I rx hs pl pu ⟨a, vs, e1, hK ▸ q1, fun z => ?_, fun _ => fin_tup sb (cut_dr r1) q⟩
    rw [← r1.length] at z
    rcases h1 with h1 | ⟨_, _, _, _, h1⟩
    · refine e1 ▸ q _ G H (New.refl sb) ?_
      rw [cutD_whole z.1 z.2]
      exact h1
    · exact h1.elim
  | scr l =>
    cases e
    obtain ⟨a, e1, q1⟩ := h1.scr sb
    exact sl_list pins s σ H x v vl vu lo hi sl Q I rx hs pl pu ⟨a, _, e1, hK ▸ q1, fin_lst sb (cut_dr (drs_ofInts l)) q⟩
  | str z =>
    simp only [cut1] at e
    split at e
    · rename_i hl
      cases e
      exact sl_str pins s σ H x v vl vu lo hi sl Q I rx hs pl pu ⟨z, h1.str, le_szl hl, fin_flat sb rfl q⟩
    · cases e
  | _ => cases e
theorem pr_cutF (hK : X.K = k.K) : SlR X (rCutF k) := by
  intro pins s σ H x v vl vu lo hi sl Q I rx hs pl pu ⟨G, d, r, sb, h1, e, q⟩
  cases d with
  | lst l =>
    cases e
    obtain ⟨a, vs, e1, q1, r1⟩ := h1.lst sb
    exact sl_list pins s σ H x v vl vu lo hi sl Q I rx hs pl pu ⟨a, vs, e1, SqL.of q1, fun p hp => q p _ hp (cut_dr r1)⟩
  | scr l =>
    cases e
    obtain ⟨a, e1, q1⟩ := h1.scr sb
    exact sl_list pins s σ H x v vl vu lo hi sl Q I rx hs pl pu ⟨a, _, e1, hK ▸ q1, fun p hp => q p _ hp (cut_dr (drs_ofInts l))⟩
  | _ => cases e
/-! ### methods of texts -/
theorem pr_splitF : MtR X "str.split" (fun x xs H Q => rPF k .split (x :: xs) H Q) := by
  intro pins s σ H x xs v us Q I rx rs ⟨G, ds, l, sb, pr, e, q⟩
  change splitP ds = some (.lst l) at e
  obtain ⟨d1, d2, v1, w1, rfl, ev, h1, h2⟩ := two_list pr e rfl (fun a => by cases a <;> rfl) (fun a b c r => by cases a <;> cases b <;> rfl)
  cases ev
  cases d1 with
  | str a => cases d2 with
    | str b =>
      simp only [splitP] at e
      split at e
      · rename_i hm
        cases e
        simp only [Bool.and_eq_true, decide_eq_true_eq] at hm
        refine mt_split pins s σ H _ _ v us Q I rx rs ⟨a, b, h1.str, by rw [h2.str], by simpa using hm.1, le_szl hm.2, fun p hp => ?_⟩
        refine q p _ hp ?_
        have := drs_ofStrs (k := k) (G := G) (Txt.split a b)
        exact this
      · cases e
    | _ => cases e
  | _ => cases e
theorem join2_eq (a : Str) : ∀ ys : List Str, join2 a ys = (ys.map (·.length)).sum + ys.length * a.length
  | [] => by simp [join2]
  | y :: r => by
    rw [join2, join2_eq a r, List.map_cons, List.sum_cons, List.length_cons, Nat.succ_mul]
    omega
theorem pr_join (hK : X.K = k.K) : MtR X "str.join" (fun x xs H Q => rP k .join (x :: xs) H Q) := by
  intro pins s σ H x xs v us Q I rx rs ⟨G, ds, d, sb, pr, e, q⟩
  change joinP ds = some d at e
  obtain ⟨d1, d2, v1, w1, rfl, ev, h1, h2⟩ := two_list pr e rfl (fun a => by cases a <;> rfl) (fun a b c r => by cases a <;> cases b <;> rfl)
  cases ev
  have go : ∀ (a : Str) (l : List D) (vs : List V) (p : Addr), d1 = D.str a → x = V.str a → w1 = V.ref p → (SqL X.K H p vs ∨ SqT X.K H p vs) → DRs k G l vs → join1 a l = some d → wpAny (model X.prog X.w) X.A (call (.builtin "str.join") (v :: us)) (EP X pins σ Q) X.xe s := by
    intro a l vs p e1 e2 e3 hs r1 e
    unfold join1 at e
    cases es : strsD l with
    | none => rw [es] at e; cases e
    | some ys =>
      rw [es] at e
      have e' : (if join2 a ys ≤ szl then some (D.str (Txt.join a ys)) else none) = some d := e
      split at e'
      · rename_i hl
        cases e'
        rw [drs_strs es r1] at hs
        refine mt_join pins s σ H _ _ v us Q I rx rs ⟨a, p, ys, e2, by rw [e3], hs, ?_, fin_flat sb rfl q⟩
        rw [← join2_eq]
        exact hl
      · cases e'
  cases d1 with
  | str a => cases d2 with
    | lst l =>
      obtain ⟨p, vs, e1, q1, r1⟩ := h2.lst sb
      exact go a l vs p rfl h1.str e1 (.inl (SqL.of q1)) r1 e
    | tup l =>
      obtain ⟨p, vs, e1, q1, r1⟩ := h2.tup sb
      exact go a l vs p rfl h1.str e1 (.inr (hK ▸ q1)) r1 e
    | _ => cases e
  | _ => cases e
end
end DL

set_option Elab.async false
set_option linter.all false
set_option maxRecDepth 100000
set_option maxHeartbeats 4000000
namespace DL
open PySem L2 PyProof.Rows
section
variable {k : Wk} {W : WX} {pg : Pg} {cl : CallH} {X : Cx}
/-! ### operands -/
theorem sp_val {c : CE} {e : Expr} (h : PE X e (tE k W pg cl c)) : PE X e (tP k W pg cl (.val c)) := h.imp fun σ H Q ⟨G, st, r, x, q⟩ => by
  have x' : Xc k W σ st G H ((runE pg cl c st).bind fun d s1 => .ok (OV.d d) s1) := by
    have := x
    simp only [runOV] at this
    exact this
  refine tR.first r x' fun d st1 v G1 H1 e1 p1 v1 x1 => ?_
  refine q (.d d) st1 v G1 H1 ?_ p1 v1
  simp only [runOV, e1, R.bind]
theorem sp_ival {c : CE} {e : Expr} (h : PE X e (tE k W pg cl c)) : PE X e (fun σ H Q => tP k W pg cl (.ival c) σ H Q) := h.imp fun σ H Q ⟨G, st, r, x, q⟩ => by
  have x' : Xc k W σ st G H ((runE pg cl c st).bind fun d s1 => match d with | .int i => .ok (OV.d (.int i)) s1 | _ => .bad) := by
    have := x
    simp only [runOV] at this
    exact this
  refine tR.first r x' fun d st1 v G1 H1 e1 p1 v1 x1 => ?_
  cases d with
  | int i =>
    refine q (.d (.int i)) st1 v G1 H1 ?_ p1 v1
    simp only [runOV, e1, R.bind]
  | _ => exact x1.elim
theorem sp_sval {c : CE} {e : Expr} (h : PE X e (tE k W pg cl c)) : PE X e (fun σ H Q => tP k W pg cl (.sval c) σ H Q) := h.imp fun σ H Q ⟨G, st, r, x, q⟩ => by
  have x' : Xc k W σ st G H ((runE pg cl c st).bind fun d s1 => match d with | .str i => .ok (OV.d (.str i)) s1 | _ => .bad) := by
    have := x
    simp only [runOV] at this
    exact this
  refine tR.first r x' fun d st1 v G1 H1 e1 p1 v1 x1 => ?_
  cases d with
  | str i =>
    refine q (.d (.str i)) st1 v G1 H1 ?_ p1 v1
    simp only [runOV, e1, R.bind]
  | _ => exact x1.elim
theorem ival_inv {c : CE} {st st1 : Slots} {a : OV} (h : runOV pg cl (.ival c) st = .ok a st1) : ∃ i, a = .d (.int i) := by
  simp only [runOV] at h
  cases e : runE pg cl c st with
  | ok d s1 =>
    rw [e] at h
    cases d with
    | int i => cases h; exact ⟨i, rfl⟩
    | _ => cases h
  | exc c fs s => rw [e] at h; cases h
  | bad => rw [e] at h; cases h
theorem sval_inv {c : CE} {st st1 : Slots} {a : OV} (h : runOV pg cl (.sval c) st = .ok a st1) : ∃ i, a = .d (.str i) := by
  simp only [runOV] at h
  cases e : runE pg cl c st with
  | ok d s1 =>
    rw [e] at h
    cases d with
    | str i => cases h; exact ⟨i, rfl⟩
    | _ => cases h
  | exc c fs s => rw [e] at h; cases h
  | bad => rw [e] at h; cases h
theorem sp_pk {i : Nat} {x : Str} {pos : Pos} (h : PE X (.Name x pos) (tVar i)) : PE X (.Name x pos) (tP k W pg cl (.pk i)) := h.imp fun σ H Q ⟨G, st, r, x, q⟩ => by
  have x' : Xc k W σ st G H (match seen st i with | some _ => R.ok (OV.s i) st | none => .bad) := by
    have := x
    simp only [runOV] at this
    exact this
  cases e : seen st i with
  | none => rw [e] at x'; exact x'.elim
  | some d =>
    obtain ⟨v, h1, _⟩ := r.seen e
    refine ⟨v, h1, q (.s i) st v G H ?_ (Post.refl r) h1⟩
    simp only [runOV, e]
theorem so_nil : PA X [] (tO k W pg cl .nil) := pa_nil.imp fun σ H Q ⟨G, st, r, _, q⟩ => q [] st [] G H (by simp only [runO]) (Post.refl r) .nil
theorem so_cons {o : CP} {l : CO} {e : Expr} {es : List Expr} (hs : noStar e = true) (h : PE X e (tP k W pg cl o)) (hr : PA X es (tO k W pg cl l)) : PA X (e :: es) (tO k W pg cl (.cons o l)) :=
  (pa_cons h hr (star_no hs)).imp fun σ H Q ⟨G, st, r, x, q⟩ => by
    have x' : Xc k W σ st G H ((runOV pg cl o st).bind fun d s1 => (runO pg cl l s1).bind fun ds s2 => .ok (d :: ds) s2) := by
      have := x
      simp only [runO] at this
      exact this
    refine tR.first r x' fun d st1 v G1 H1 e1 p1 v1 x1 => ?_
    refine tR.first p1.rel x1 fun ds st2 vs G2 H2 e2 p2 v2 x2 => ?_
    refine q (d :: ds) st2 (v :: vs) G2 H2 ?_ (p1.trans p2) (.cons (vOV.mono p2.mono v1) v2)
    simp only [runO, e1, e2, R.bind]
/-- what a primitive makes of its operands -/
def finP (p : Pr) (os : List OV) (s : Slots) : R D := match solve s os with
  | none => .bad
  | some ds => match runP p ds with
    | some d => .ok d s
    | none => .bad
theorem prim_run {p : Pr} {l : CO} {st : Slots} : runE pg cl (.prim p l) st = (runO pg cl l st).bind fun os s1 => finP p os s1 := by simp only [runE]; rfl
theorem prim_run1 {p : Pr} {o : CP} {st : Slots} : runE pg cl (.prim p (.cons o .nil)) st = (runOV pg cl o st).bind fun a s1 => finP p [a] s1 := by
  rw [prim_run]
  simp only [runO]
  cases runOV pg cl o st <;> rfl
theorem prim_run2 {p : Pr} {o o2 : CP} {st : Slots} : runE pg cl (.prim p (.cons o (.cons o2 .nil))) st = (runOV pg cl o st).bind fun a s1 => (runOV pg cl o2 s1).bind fun b s2 => finP p [a, b] s2 := by
  rw [prim_run]
  simp only [runO]
  cases runOV pg cl o st with
  | ok a s1 =>
    simp only [R.bind]
    cases runOV pg cl o2 s1 <;> rfl
  | exc c fs s => rfl
  | bad => rfl
theorem finP_ok {p : Pr} {os : List OV} {σ : St} {st : Slots} {G H : Hp} {vs : List V} (r : Rel k G H σ st) (x : Xc k W σ st G H (finP p os st)) (v : OVR k σ G os vs) : ∃ ds d, PRs k G H ds vs ∧ runP p ds = some d ∧ finP p os st = .ok d st := by
  unfold finP at x ⊢
  cases e : solve st os with
  | none => rw [e] at x; exact x.elim
  | some ds =>
    rw [e] at x
    cases e2 : runP p ds with
    | none =>
      exfalso
      have x' : Xc k W σ st G H (match runP p ds with | some d => R.ok d st | none => .bad) := x
      rw [e2] at x'
      exact x'
    | some d => exact ⟨ds, d, solve_ok r v e, e2, by simp only [e2]⟩
theorem rP_of {p : Pr} {os : List OV} {σ : St} {st st1 : Slots} {G H G1 H1 : Hp} {vs : List V} {Q : VK} (p1 : Post k σ st G H σ st1 G1 H1) (x : Xc k W σ st1 G1 H1 (finP p os st1)) (v : OVR k σ G1 os vs)
    (q : ∀ d v G' H', finP p os st1 = .ok d st1 → Post k σ st G H σ st1 G' H' → DR k G' d v → Q v H') : rP k p vs H1 Q := by
  obtain ⟨ds, d, h1, h2, h3⟩ := finP_ok p1.rel x v
  exact ⟨G1, ds, d, p1.rel.sub, h1, h2, fun v G' H' n dr => q d v G' H' h3 (p1.new' n) dr⟩
theorem rPF_of {p : Pr} {os : List OV} {σ : St} {st st1 : Slots} {G H G1 H1 : Hp} {vs : List V} {Q : VK} (hp : ∀ ds d, runP p ds = some d → ∃ l, d = .lst l) (p1 : Post k σ st G H σ st1 G1 H1) (x : Xc k W σ st1 G1 H1 (finP p os st1)) (v : OVR k σ G1 os vs)
    (q : ∀ d v G' H', finP p os st1 = .ok d st1 → Post k σ st G H σ st1 G' H' → vF k σ H G' H' st1 d v → Q v H') : rPF k p vs H1 Q := by
  obtain ⟨ds, d, h1, h2, h3⟩ := finP_ok p1.rel x v
  obtain ⟨l, rfl⟩ := hp ds d h2
  exact ⟨G1, ds, l, p1.rel.sub, h1, h2, fun a xs ha dr => q _ _ G1 _ h3 (p1.new' (New.putH p1.rel.sub ha)) (sf_new p1.rel ha (p1.dom a ha) dr)⟩
/-! ### two operands -/
theorem se_two {p : Pr} {o o2 : CP} {e : Expr} {ta tb : TE} (h : PE X e (fun σ H Q => tP k W pg cl o σ H fun x H1 => tP k W pg cl o2 σ H1 fun y H2 => rP k p [x, y] H2 Q)) : PE X e (tE k W pg cl (.prim p (.cons o (.cons o2 .nil)))) :=
  h.imp fun σ H Q ⟨G, st, r, x, q⟩ => by
    rw [prim_run2] at x
    refine tR.first r x fun a st1 v G1 H1 e1 p1 v1 x1 => ?_
    refine tR.first p1.rel x1 fun b st2 w G2 H2 e2 p2 v2 x2 => ?_
    refine rP_of (p1.trans p2) x2 (.cons (vOV.mono p2.mono v1) (.cons v2 .nil)) fun d v G' H' e3 p3 dr => q d st2 v G' H' ?_ p3 dr
    rw [prim_run2, e1]
    show ((runOV pg cl o2 st1).bind fun b s2 => finP p [a, b] s2) = _
    rw [e2]
    exact e3
theorem sf_two {p : Pr} {o o2 : CP} {e : Expr} (hp : ∀ ds d, runP p ds = some d → ∃ l, d = .lst l) (h : PE X e (fun σ H Q => tP k W pg cl o σ H fun x H1 => tP k W pg cl o2 σ H1 fun y H2 => rPF k p [x, y] H2 Q)) : PE X e (tF k W pg cl (.prim p (.cons o (.cons o2 .nil)))) :=
  h.imp fun σ H Q ⟨G, st, r, x, q⟩ => by
    rw [prim_run2] at x
    refine tR.first r x fun a st1 v G1 H1 e1 p1 v1 x1 => ?_
    refine tR.first p1.rel x1 fun b st2 w G2 H2 e2 p2 v2 x2 => ?_
    refine rPF_of hp (p1.trans p2) x2 (.cons (vOV.mono p2.mono v1) (.cons v2 .nil)) fun d v G' H' e3 p3 dr => q d st2 v G' H' ?_ p3 dr
    rw [prim_run2, e1]
    show ((runOV pg cl o2 st1).bind fun b s2 => finP p [a, b] s2) = _
    rw [e2]
    exact e3
theorem se_bin {op : Operator} {p : Pr} {a b : Expr} {o o2 : CP} {pos : Pos} (ho : OpR X (binaryOp op) (rP2 k p)) (ha : PE X a (tP k W pg cl o)) (hb : PE X b (tP k W pg cl o2)) : PE X (.BinOp a op b pos) (tE k W pg cl (.prim p (.cons o (.cons o2 .nil)))) :=
  se_two (ta := tP k W pg cl o) (tb := tP k W pg cl o2) ((pe_op ho ha hb).imp fun _ _ _ h => h)
theorem se_cmp {op : CmpOp} {p : Pr} {a b : Expr} {o o2 : CP} {pos : Pos} (ho : OpR X (compareOp op) (rP2 k p)) (hm : behindInMarks op b = false) (ha : PE X a (tP k W pg cl o)) (hb : PE X b (tP k W pg cl o2)) : PE X (.Compare a [op] [b] pos) (tE k W pg cl (.prim p (.cons o (.cons o2 .nil)))) :=
  se_two (ta := tP k W pg cl o) (tb := tP k W pg cl o2) ((pe_cmpR ho ha hb hm).imp fun _ _ _ h => h)
/-- a test of a comparison, from its value's reading -/
theorem st_cmp {op : CmpOp} {p : Pr} {a b : Expr} {o o2 : CP} {pos : Pos} (ho : OpR X (compareOp op) (rP2 k p)) (hm : behindInMarks op b = false) (ha : PE X a (tP k W pg cl o)) (hb : PE X b (tP k W pg cl o2)) : PT X (.Compare a [op] [b] pos) (tT k W pg cl (.prim p (.cons o (.cons o2 .nil)))) :=
  (pt_cmpR ho ha hb hm).imp fun σ H Q h => by
    obtain ⟨G, st, r, x, q⟩ := tE_B h
    rw [prim_run2] at x
    refine tR.first r x fun a st1 v G1 H1 e1 p1 v1 x1 => ?_
    refine tR.first p1.rel x1 fun b st2 w G2 H2 e2 p2 v2 x2 => ?_
    refine rP_of (p1.trans p2) x2 (.cons (vOV.mono p2.mono v1) (.cons v2 .nil)) fun d v G' H' e3 p3 dr => q d st2 v G' H' ?_ p3 dr
    rw [prim_run2, e1]
    show ((runOV pg cl o2 st1).bind fun b s2 => finP p [a, b] s2) = _
    rw [e2]
    exact e3
/-- is None -/
theorem dr_non {G : Hp} {d : D} {v : V} (h : DR k G d v) : decide (v = .non) = d.isNon := by
  cases d with
  | non => rw [show v = .non from h]; rfl
  | bl b => rw [show v = .bl b from h]; rfl
  | int b => rw [show v = .int b from h]; rfl
  | str b => rw [show v = .str b from h]; rfl
  | tup l => obtain ⟨a, _, e, _⟩ := h; rw [e]; rfl
  | lst l => obtain ⟨a, _, e, _⟩ := h; rw [e]; rfl
  | dct ks l => obtain ⟨a, _, e, _⟩ := h; rw [e]; rfl
  | obj c l => obtain ⟨_, a, _, _, e, _⟩ := h; rw [e]; rfl
  | scr l => obtain ⟨a, e, _⟩ := h; rw [e]; rfl
  | cls c => obtain ⟨_, e⟩ := h; rw [e]; rfl
theorem pr_non {G H : Hp} {d : D} {v : V} (h : PR k G H d v) : decide (v = .non) = d.isNon := by
  rcases h with h | ⟨a, o, e, _, h⟩
  · exact dr_non h
  · subst e
    cases d with
    | lst l => rfl
    | dct ks l => rfl
    | obj c l => rfl
    | _ => exact h.elim
theorem se_one {p : Pr} {o : CP} {e : Expr} (h : PE X e (fun σ H Q => tP k W pg cl o σ H fun x H1 => rP k p [x] H1 Q)) : PE X e (tE k W pg cl (.prim p (.cons o .nil))) :=
  h.imp fun σ H Q ⟨G, st, r, x, q⟩ => by
    rw [prim_run1] at x
    refine tR.first r x fun a st1 v G1 H1 e1 p1 v1 x1 => ?_
    refine rP_of p1 x1 (.cons v1 .nil) fun d v G' H' e3 p3 dr => q d st1 v G' H' ?_ p3 dr
    rw [prim_run1, e1]
    exact e3
theorem st_one {p : Pr} {o : CP} {e : Expr} (h : PT X e (fun σ H Q => tP k W pg cl o σ H fun x H1 => rP k p [x] H1 fun x H2 => ∃ c, x = .bl c ∧ Q c H2)) : PT X e (tT k W pg cl (.prim p (.cons o .nil))) :=
  h.imp fun σ H Q h => by
    obtain ⟨G, st, r, x, q⟩ := tE_B h
    rw [prim_run1] at x
    refine tR.first r x fun a st1 v G1 H1 e1 p1 v1 x1 => ?_
    refine rP_of p1 x1 (.cons v1 .nil) fun d v G' H' e3 p3 dr => q d st1 v G' H' ?_ p3 dr
    rw [prim_run1, e1]
    exact e3
theorem rP_isN {v : V} {H : Hp} {Q : VK} (h : rP k .isN [v] H Q) : Q (.bl (decide (v = .non))) H := by
  obtain ⟨G, ds, d, sb, pr, e, q⟩ := h
  obtain ⟨x, rfl, h1⟩ := pr.one_inv
  cases e
  rw [pr_non h1]
  exact fin_flat sb rfl q
theorem rP_isnN {v : V} {H : Hp} {Q : VK} (h : rP k .isnN [v] H Q) : Q (.bl (!decide (v = .non))) H := by
  obtain ⟨G, ds, d, sb, pr, e, q⟩ := h
  obtain ⟨x, rfl, h1⟩ := pr.one_inv
  cases e
  rw [pr_non h1]
  exact fin_flat sb rfl q
theorem tP_imp {o : CP} {σ : St} {H : Hp} {Q Q' : VK} (h : tP k W pg cl o σ H Q) (i : ∀ v H1, Q v H1 → Q' v H1) : tP k W pg cl o σ H Q' := by
  obtain ⟨G, st, r, x, q⟩ := h
  exact ⟨G, st, r, x, fun a st' v G' H' e p w => i _ _ (q a st' v G' H' e p w)⟩
theorem se_isN {a : Expr} {o : CP} {j : Nat} {pos pos' : Pos} (ha : PE X a (tP k W pg cl o)) : PE X (.Compare a [.Is] [.Constant .none j pos'] pos) (tE k W pg cl (.prim .isN (.cons o .nil))) :=
  se_one ((pe_cmp (pc_isN ha)).imp fun σ H Q h => tP_imp h fun v H1 z => rP_isN z)
theorem se_isnN {a : Expr} {o : CP} {j : Nat} {pos pos' : Pos} (ha : PE X a (tP k W pg cl o)) : PE X (.Compare a [.IsNot] [.Constant .none j pos'] pos) (tE k W pg cl (.prim .isnN (.cons o .nil))) :=
  se_one ((pe_cmp (pc_notN ha)).imp fun σ H Q h => tP_imp h fun v H1 z => rP_isnN z)
theorem st_isN {a : Expr} {o : CP} {j : Nat} {pos pos' : Pos} (ha : PE X a (tP k W pg cl o)) : PT X (.Compare a [.Is] [.Constant .none j pos'] pos) (tT k W pg cl (.prim .isN (.cons o .nil))) :=
  st_one ((pt_cmp (pc_isN ha)).imp fun σ H Q h => tP_imp h fun v H1 z => rP_isN z)
theorem st_isnN {a : Expr} {o : CP} {j : Nat} {pos pos' : Pos} (ha : PE X a (tP k W pg cl o)) : PT X (.Compare a [.IsNot] [.Constant .none j pos'] pos) (tT k W pg cl (.prim .isnN (.cons o .nil))) :=
  st_one ((pt_cmp (pc_notN ha)).imp fun σ H Q h => tP_imp h fun v H1 z => rP_isnN z)
/-- -a -/
theorem se_neg {a : Expr} {o : CP} {pos : Pos} (ha : PE X a (tP k W pg cl o)) : PE X (.UnaryOp .USub a pos) (tE k W pg cl (.prim .neg (.cons o .nil))) :=
  se_one ((pe_un un_neg ha).imp fun σ H Q h => tP_imp h fun v H1 z => by
    obtain ⟨G, ds, d, sb, pr, e, q⟩ := z
    obtain ⟨x, rfl, h1⟩ := pr.one_inv
    change negP [x] = some d at e
    cases x with
    | int i => cases e; exact ⟨i, h1.int, fin_flat sb rfl q⟩
    | _ => cases e)
/-! ### calls of built-ins -/
theorem nostars {es : List Expr} (h : es.all noStar = true) (pos : Pos) (env : Env) : (backTo pos (starEach es env)).any (·.1) = false := by
  induction es with
  | nil => rfl
  | cons e es ih =>
    rw [List.all_cons, Bool.and_eq_true] at h
    rw [star_no h.1]
    show (false || (backTo pos (starEach es env)).any (·.1)) = false
    rw [ih h.2]
    rfl
theorem se_callR {p : Pr} {l : CO} {e : Expr} (h : PE X e (fun σ H Q => tO k W pg cl l σ H fun vs H1 => rP k p vs H1 Q)) : PE X e (tE k W pg cl (.prim p l)) :=
  h.imp fun σ H Q ⟨G, st, r, x, q⟩ => by
    rw [prim_run] at x
    refine tR.first r x fun os st1 vs G1 H1 e1 p1 v1 x1 => ?_
    refine rP_of p1 x1 v1 fun d v G' H' e3 p3 dr => q d st1 v G' H' ?_ p3 dr
    rw [prim_run, e1]
    exact e3
theorem sf_callR {p : Pr} {l : CO} {e : Expr} (hp : ∀ ds d, runP p ds = some d → ∃ l, d = .lst l) (h : PE X e (fun σ H Q => tO k W pg cl l σ H fun vs H1 => rPF k p vs H1 Q)) : PE X e (tF k W pg cl (.prim p l)) :=
  h.imp fun σ H Q ⟨G, st, r, x, q⟩ => by
    rw [prim_run] at x
    refine tR.first r x fun os st1 vs G1 H1 e1 p1 v1 x1 => ?_
    refine rPF_of hp p1 x1 v1 fun d v G' H' e3 p3 dr => q d st1 v G' H' ?_ p3 dr
    rw [prim_run, e1]
    exact e3
/-- what a builtin's name needs -/
structure Bn (X : Cx) (x : Str) (u : Value) : Prop where
  gl : Gl X x
  mg : X.mg x = none
  bt : bootBuiltins x = some u
  nn : x ≠ "__name__"
  db : (x == ("__debug__" : Str)) = false
theorem se_callB {p : Pr} {l : CO} {x : Str} {id : String} {e : Expr} {es : List Expr} {pos p1 : Pos} (b : Bn X x (.builtin id)) (hc : CallR X (.builtin id) (rP k p)) (hs : (e :: es).all noStar = true) (ha : PA X (e :: es) (tO k W pg cl l)) : PE X (.Call (.Name x p1) (e :: es) [] pos) (tE k W pg cl (.prim p l)) := by
  rw [List.all_cons, Bool.and_eq_true] at hs
  exact se_callR ((pe_callB hc b.gl b.mg b.bt ha b.nn b.db (star_no hs.1) (nostars hs.2 _ _)).imp fun _ _ _ h => h)
theorem se_callTy {p : Pr} {l : CO} {x : Str} {T : String} {e : Expr} {es : List Expr} {pos p1 : Pos} (b : Bn X x (.type T)) (hc : CallR X (.type T) (rP k p)) (hs : (e :: es).all noStar = true) (ha : PA X (e :: es) (tO k W pg cl l)) : PE X (.Call (.Name x p1) (e :: es) [] pos) (tE k W pg cl (.prim p l)) := by
  rw [List.all_cons, Bool.and_eq_true] at hs
  exact se_callR ((pe_callTy hc b.gl b.mg b.bt ha b.nn b.db (star_no hs.1) (nostars hs.2 _ _)).imp fun _ _ _ h => h)
theorem sf_callTy {p : Pr} {l : CO} {x : Str} {T : String} {e : Expr} {es : List Expr} {pos p1 : Pos} (hp : ∀ ds d, runP p ds = some d → ∃ l, d = .lst l) (b : Bn X x (.type T)) (hc : CallR X (.type T) (rPF k p)) (hs : (e :: es).all noStar = true) (ha : PA X (e :: es) (tO k W pg cl l)) : PE X (.Call (.Name x p1) (e :: es) [] pos) (tF k W pg cl (.prim p l)) := by
  rw [List.all_cons, Bool.and_eq_true] at hs
  exact sf_callR hp ((pe_callTy hc b.gl b.mg b.bt ha b.nn b.db (star_no hs.1) (nostars hs.2 _ _)).imp fun _ _ _ h => h)
theorem sf_callB {p : Pr} {l : CO} {x : Str} {id : String} {e : Expr} {es : List Expr} {pos p1 : Pos} (hp : ∀ ds d, runP p ds = some d → ∃ l, d = .lst l) (b : Bn X x (.builtin id)) (hc : CallR X (.builtin id) (rPF k p)) (hs : (e :: es).all noStar = true) (ha : PA X (e :: es) (tO k W pg cl l)) : PE X (.Call (.Name x p1) (e :: es) [] pos) (tF k W pg cl (.prim p l)) := by
  rw [List.all_cons, Bool.and_eq_true] at hs
  exact sf_callR hp ((pe_callB hc b.gl b.mg b.bt ha b.nn b.db (star_no hs.1) (nostars hs.2 _ _)).imp fun _ _ _ h => h)
/-! ### subscripts, slices, methods -/
def notSlice : Expr → Bool
  | .Slice _ _ _ _ => false
  | _ => true
theorem plainIx {b : Expr} (h : notSlice b = true) : PlainIx b := fun o i => by
  cases b <;> first | rfl | cases h
theorem se_idx {a b : Expr} {o o2 : CP} {pos : Pos} (hK : X.K = k.K) (hb' : notSlice b = true) (ha : PE X a (tP k W pg cl o)) (hb : PE X b (tP k W pg cl o2)) : PE X (.Subscript a b pos) (tE k W pg cl (.prim .idx (.cons o (.cons o2 .nil)))) :=
  se_two (ta := tP k W pg cl o) (tb := tP k W pg cl o2) ((pe_ix (pr_idx hK) ha hb (plainIx hb')).imp fun _ _ _ h => h)
end
end DL

set_option Elab.async false
set_option linter.all false
set_option maxRecDepth 100000
set_option maxHeartbeats 4000000
namespace DL
open PySem L2 PyProof.Rows
def freshP : Pr → Bool
  | .addL => true
  | .mulL => true
  | .slcL _ _ => true
  | .lstOf => true
  | .split => true
  | .lstRng => true
  | .srt => true
  | _ => false
theorem freshP_ok {p : Pr} (h : freshP p = true) (ds : List D) (d : D) (e : runP p ds = some d) : ∃ l, d = .lst l := by
  cases p with
  | addL =>
    change addLP ds = some d at e
    unfold addLP at e
    split at e
    · split at e
      · cases e; exact ⟨_, rfl⟩
      · cases e
    · cases e
  | mulL =>
    change mulLP ds = some d at e
    unfold mulLP at e
    split at e
    · split at e
      · cases e; exact ⟨_, rfl⟩
      · cases e
    · cases e
  | slcL a b =>
    change slcLP a b ds = some d at e
    have z : ∀ x lo hi, cutL x lo hi = some d → ∃ l, d = .lst l := fun x lo hi e => by
      unfold cutL at e
      split at e
      · cases e; exact ⟨_, rfl⟩
      · cases e; exact ⟨_, rfl⟩
      · cases e
    unfold slcLP at e
    split at e
    · exact z _ _ _ e
    · exact z _ _ _ e
    · exact z _ _ _ e
    · cases e
  | lstOf =>
    change lstOfP ds = some d at e
    unfold lstOfP at e
    split at e
    · cases e; exact ⟨_, rfl⟩
    · cases e; exact ⟨_, rfl⟩
    · cases e
  | split =>
    change splitP ds = some d at e
    unfold splitP at e
    split at e
    · split at e
      · cases e; exact ⟨_, rfl⟩
      · cases e
    · cases e
  | lstRng =>
    change (rngI ds).map D.lst = some d at e
    cases e2 : rngI ds with
    | none => rw [e2] at e; cases e
    | some l => rw [e2] at e; cases e; exact ⟨_, rfl⟩
  | srt =>
    change srtP ds = some d at e
    unfold srtP at e
    split at e
    · split at e
      · unfold srt1 at e
        split at e
        · cases e; exact ⟨_, rfl⟩
        · cases e
      · split at e
        · unfold srt2 at e
          split at e
          · cases e; exact ⟨_, rfl⟩
          · cases e
        · cases e
    · cases e
  | _ => cases h
section
variable {k : Wk} {W : WX} {pg : Pg} {cl : CallH} {X : Cx}
theorem prim_run3 {p : Pr} {o o2 o3 : CP} {st : Slots} : runE pg cl (.prim p (.cons o (.cons o2 (.cons o3 .nil)))) st = (runOV pg cl o st).bind fun a s1 => (runOV pg cl o2 s1).bind fun b s2 => (runOV pg cl o3 s2).bind fun c s3 => finP p [a, b, c] s3 := by
  rw [prim_run]
  simp only [runO]
  cases runOV pg cl o st with
  | ok a s1 =>
    simp only [R.bind]
    cases runOV pg cl o2 s1 with
    | ok b s2 =>
      simp only [R.bind]
      cases runOV pg cl o3 s2 <;> rfl
    | exc c fs s => rfl
    | bad => rfl
  | exc c fs s => rfl
  | bad => rfl
theorem PRs.three_inv {G H : Hp} {v w u : V} {ds : List D} (h : PRs k G H ds [v, w, u]) : ∃ d e f, ds = [d, e, f] ∧ PR k G H d v ∧ PR k G H e w ∧ PR k G H f u := by
  cases h with
  | cons h r =>
    cases r with
    | cons h2 r =>
      cases r with
      | cons h3 r => cases r; exact ⟨_, _, _, rfl, h, h2, h3⟩
/-! ### slices -/
theorem se_slc10 {e a : Expr} {o o2 : CP} {pos p2 : Pos} (hK : X.K = k.K) (he : PE X e (tP k W pg cl o)) (ha : PE X a (tP k W pg cl o2)) : PE X (.Subscript e (.Slice (some a) none none p2) pos) (tE k W pg cl (.prim (.slc true false) (.cons o (.cons o2 .nil)))) :=
  (pe_slice (pr_cut hK) he (po_some ha) po_none).imp fun σ H Q ⟨G, st, r, x, q⟩ => by
    rw [prim_run2] at x
    refine tR.first r x fun a st1 v G1 H1 e1 p1 v1 x1 => ?_
    refine tR.first p1.rel x1 fun b st2 w G2 H2 e2 p2 v2 x2 => ?_
    obtain ⟨ds, d, h1, h2, h3⟩ := finP_ok (p1.trans p2).rel x2 (.cons (vOV.mono p2.mono v1) (.cons v2 .nil))
    obtain ⟨d1, d2, rfl, g1, g2⟩ := h1.two_inv
    change slcP true false [d1, d2] = some d at h2
    cases d2 with
    | int i =>
      refine ⟨i, g2.int, G2, d1, d, p2.rel.sub, g1, h2, fun u G' H' n dr => q d st2 u G' H' ?_ ((p1.trans p2).new' n) dr⟩
      rw [prim_run2, e1]
      show ((runOV pg cl o2 st1).bind fun b s2 => finP _ [a, b] s2) = _
      rw [e2]
      exact h3
    | _ => cases h2
theorem se_slc01 {e a : Expr} {o o2 : CP} {pos p2 : Pos} (hK : X.K = k.K) (he : PE X e (tP k W pg cl o)) (ha : PE X a (tP k W pg cl o2)) : PE X (.Subscript e (.Slice none (some a) none p2) pos) (tE k W pg cl (.prim (.slc false true) (.cons o (.cons o2 .nil)))) :=
  (pe_slice (pr_cut hK) he po_none (po_some ha)).imp fun σ H Q ⟨G, st, r, x, q⟩ => by
    rw [prim_run2] at x
    refine tR.first r x fun a st1 v G1 H1 e1 p1 v1 x1 => ?_
    refine tR.first p1.rel x1 fun b st2 w G2 H2 e2 p2 v2 x2 => ?_
    obtain ⟨ds, d, h1, h2, h3⟩ := finP_ok (p1.trans p2).rel x2 (.cons (vOV.mono p2.mono v1) (.cons v2 .nil))
    obtain ⟨d1, d2, rfl, g1, g2⟩ := h1.two_inv
    change slcP false true [d1, d2] = some d at h2
    cases d2 with
    | int i =>
      refine ⟨i, g2.int, G2, d1, d, p2.rel.sub, g1, h2, fun u G' H' n dr => q d st2 u G' H' ?_ ((p1.trans p2).new' n) dr⟩
      rw [prim_run2, e1]
      show ((runOV pg cl o2 st1).bind fun b s2 => finP _ [a, b] s2) = _
      rw [e2]
      exact h3
    | _ => cases h2
theorem se_slc11 {e a b : Expr} {o o3 : CP} {c2 : CE} {pos p2 : Pos} (hK : X.K = k.K) (he : PE X e (tP k W pg cl o)) (ha : PE X a (tP k W pg cl (.ival c2))) (hb : PE X b (tP k W pg cl o3)) : PE X (.Subscript e (.Slice (some a) (some b) none p2) pos) (tE k W pg cl (.prim (.slc true true) (.cons o (.cons (.ival c2) (.cons o3 .nil))))) :=
  (pe_slice (pr_cut hK) he (po_some ha) (po_some hb)).imp fun σ H Q ⟨G, st, r, x, q⟩ => by
    rw [prim_run3] at x
    refine tR.first r x fun a st1 v G1 H1 e1 p1 v1 x1 => ?_
    refine tR.first p1.rel x1 fun b st2 w G2 H2 e2 p2 v2 x2 => ?_
    obtain ⟨j, rfl⟩ := ival_inv e2
    refine ⟨j, v2, ?_⟩
    refine tR.first p2.rel x2 fun c st3 u G3 H3 e3 p3 v3 x3 => ?_
    obtain ⟨ds, d, h1, h2, h3⟩ := finP_ok p3.rel x3 (.cons (vOV.mono (p2.mono.trans p3.mono) v1) (.cons (vOV.mono p3.mono v2) (.cons v3 .nil)))
    obtain ⟨d1, d2, d3, rfl, g1, g2, g3⟩ := h1.three_inv
    change slcP true true [d1, d2, d3] = some d at h2
    cases d2 with
    | int i2 => cases d3 with
      | int i3 =>
        have ej : i2 = j := by
          have z := g2.int
          rw [show w = .int j from v2] at z
          cases z
          rfl
        subst ej
        refine ⟨i3, g3.int, G3, d1, d, p3.rel.sub, g1, h2, fun u G' H' n dr => q d st3 u G' H' ?_ (((p1.trans p2).trans p3).new' n) dr⟩
        rw [prim_run3, e1]
        simp only [R.bind, e2, e3]
        exact h3
      | _ => cases h2
    | _ => cases h2
theorem sf_slc10 {e a : Expr} {o o2 : CP} {pos p2 : Pos} (hK : X.K = k.K) (he : PE X e (tP k W pg cl o)) (ha : PE X a (tP k W pg cl o2)) : PE X (.Subscript e (.Slice (some a) none none p2) pos) (tF k W pg cl (.prim (.slcL true false) (.cons o (.cons o2 .nil)))) :=
  (pe_slice (pr_cutF hK) he (po_some ha) po_none).imp fun σ H Q ⟨G, st, r, x, q⟩ => by
    rw [prim_run2] at x
    refine tR.first r x fun a st1 v G1 H1 e1 p1 v1 x1 => ?_
    refine tR.first p1.rel x1 fun b st2 w G2 H2 e2 p2 v2 x2 => ?_
    obtain ⟨ds, d, h1, h2, h3⟩ := finP_ok (p1.trans p2).rel x2 (.cons (vOV.mono p2.mono v1) (.cons v2 .nil))
    obtain ⟨l, rfl⟩ := freshP_ok (p := .slcL true false) rfl ds d h2
    obtain ⟨d1, d2, rfl, g1, g2⟩ := h1.two_inv
    change slcLP true false [d1, d2] = some (.lst l) at h2
    cases d2 with
    | int i =>
      refine ⟨i, g2.int, G2, d1, l, p2.rel.sub, g1, h2, fun u xs hu dr => q _ st2 _ G2 _ ?_ ((p1.trans p2).new' (New.putH p2.rel.sub hu)) (sf_new p2.rel hu ((p1.trans p2).dom _ hu) dr)⟩
      rw [prim_run2, e1]
      show ((runOV pg cl o2 st1).bind fun b s2 => finP _ [a, b] s2) = _
      rw [e2]
      exact h3
    | _ => cases h2
theorem sf_slc01 {e a : Expr} {o o2 : CP} {pos p2 : Pos} (hK : X.K = k.K) (he : PE X e (tP k W pg cl o)) (ha : PE X a (tP k W pg cl o2)) : PE X (.Subscript e (.Slice none (some a) none p2) pos) (tF k W pg cl (.prim (.slcL false true) (.cons o (.cons o2 .nil)))) :=
  (pe_slice (pr_cutF hK) he po_none (po_some ha)).imp fun σ H Q ⟨G, st, r, x, q⟩ => by
    rw [prim_run2] at x
    refine tR.first r x fun a st1 v G1 H1 e1 p1 v1 x1 => ?_
    refine tR.first p1.rel x1 fun b st2 w G2 H2 e2 p2 v2 x2 => ?_
    obtain ⟨ds, d, h1, h2, h3⟩ := finP_ok (p1.trans p2).rel x2 (.cons (vOV.mono p2.mono v1) (.cons v2 .nil))
    obtain ⟨l, rfl⟩ := freshP_ok (p := .slcL false true) rfl ds d h2
    obtain ⟨d1, d2, rfl, g1, g2⟩ := h1.two_inv
    change slcLP false true [d1, d2] = some (.lst l) at h2
    cases d2 with
    | int i =>
      refine ⟨i, g2.int, G2, d1, l, p2.rel.sub, g1, h2, fun u xs hu dr => q _ st2 _ G2 _ ?_ ((p1.trans p2).new' (New.putH p2.rel.sub hu)) (sf_new p2.rel hu ((p1.trans p2).dom _ hu) dr)⟩
      rw [prim_run2, e1]
      show ((runOV pg cl o2 st1).bind fun b s2 => finP _ [a, b] s2) = _
      rw [e2]
      exact h3
    | _ => cases h2
/-! ### methods of texts -/
def noCall0 : Expr → Bool
  | .Call (.Name _ _) [] [] _ => false
  | _ => true
theorem base_ok {o : Expr} (h : noCall0 o = true) (a : Str) (env : Env) : attributeBase o a env (eval o env) = eval o env := by
  unfold attributeBase
  split
  · cases h
  · rfl
theorem one_star {e : Expr} (hs : noStar e = true) (env : Env) : starEach [e] env = [(false, eval e env)] := by
  rw [star_no hs]
  rfl
theorem sf_split {a b : Expr} {c : CE} {o2 : CP} {apos pos : Pos} (hn : noCall0 a = true) (hl : (apos.endLine == pos.line) = true) (hs : noStar b = true) (ha : PE X a (tP k W pg cl (.sval c))) (hb : PE X b (tP k W pg cl o2)) : PE X (.Call (.Attribute a "split" apos) [b] [] pos) (tF k W pg cl (.prim .split (.cons (.sval c) (.cons o2 .nil)))) :=
  sf_two (freshP_ok rfl) ((pe_m1 F.slot_str_split F.type_str_split pr_splitF ha hb (one_star hs _) (base_ok hn _ _) hl).imp fun σ H Q ⟨G, st, r, x, q⟩ =>
    ⟨G, st, r, x, fun a st' v G' H' e p w => ⟨by
      obtain ⟨i, rfl⟩ := sval_inv e
      exact ⟨i, w⟩, q a st' v G' H' e p w⟩⟩)
theorem se_join {a b : Expr} {c : CE} {o2 : CP} {apos pos : Pos} (hK : X.K = k.K) (hn : noCall0 a = true) (hl : (apos.endLine == pos.line) = true) (hs : noStar b = true) (ha : PE X a (tP k W pg cl (.sval c))) (hb : PE X b (tP k W pg cl o2)) : PE X (.Call (.Attribute a "join" apos) [b] [] pos) (tE k W pg cl (.prim .join (.cons (.sval c) (.cons o2 .nil)))) :=
  se_two (ta := tP k W pg cl (.sval c)) (tb := tP k W pg cl o2) ((pe_m1 F.slot_str_join F.type_str_join (pr_join hK) ha hb (one_star hs _) (base_ok hn _ _) hl).imp fun σ H Q ⟨G, st, r, x, q⟩ =>
    ⟨G, st, r, x, fun a st' v G' H' e p w => ⟨by
      obtain ⟨i, rfl⟩ := sval_inv e
      exact ⟨i, w⟩, q a st' v G' H' e p w⟩⟩)
/-! ### isinstance -/
def Ty.nm : Ty → String
  | .int => "int"
  | .str => "str"
  | .tup => "tuple"
  | .bool => "bool"
  | .list => "list"
  | .dict => "dict"
  | .cls _ => ""
def D.tyN : D → String
  | .non => "NoneType"
  | .bl _ => "bool"
  | .int _ => "int"
  | .str _ => "str"
  | .tup _ => "tuple"
  | .lst _ => "list"
  | .dct _ _ => "dict"
  | .obj _ _ => ""
  | .cls _ => "type"
  | .scr _ => "list"
def tyNames : List String := ["NoneType", "bool", "int", "str", "tuple", "list", "dict"]
/-- what isinstance wants of own classes -/
structure KitO (k : Wk) : Prop where
  ins : ∀ (H : Hp) (a dx : Addr) (n : Nat) (fs : List (Str × V)), n ∈ k.cs → H a = some (.ins (k.ca n) dx fs) → TyX k.K H (.ref a) (.ref (k.ca n))
  no : ∀ n ∈ k.cs, ∀ T ∈ tyNames, PySem.W.kitOne k.K (.ref (k.ca n)) (.type T) = some false
  ty : ∀ n ∈ k.cs, ∀ T ∈ tyNames, PySem.W.kitOne k.K (.type T) (.ref (k.ca n)) = some false
  own : ∀ n ∈ k.cs, ∀ m ∈ k.cs, PySem.W.kitOne k.K (.ref (k.ca n)) (.ref (k.ca m)) = some (m == n)
theorem sqT_ty {K : PySem.W.Frag} {H : Hp} {a : Addr} {vs : List V} (h : SqT K H a vs) : TyX K H (.ref a) (.type "tuple") := by
  rcases h with (h | ⟨o, h⟩) | ⟨o, its, n, h1, h2, _⟩
  · exact .base (.tup h)
  · exact .fTuple h
  · exact .kTuple h1 h2
theorem sqL_ty {K : PySem.W.Frag} {H : Hp} {a : Addr} {vs : List V} (h : SqL K H a vs) : TyX K H (.ref a) (.type "list") := by
  rcases h with (h | ⟨o, h⟩) | ⟨o, its, n, h1, h2, _⟩
  · exact .base (.lst h)
  · exact .base (.frz h)
  · exact .kList h1 h2
theorem pr_ty {G H : Hp} {d : D} {v : V} (sb : Sub G H) (kit : KitO k) (h : PR k G H d v) (hn : d.isCls = false) : (∃ c l, d = .obj c l ∧ c ∈ k.cs ∧ TyX k.K H v (.ref (k.ca c))) ∨ (d.tyN ∈ tyNames ∧ (∀ c l, d ≠ .obj c l) ∧ TyX k.K H v (.type d.tyN)) := by
  cases d with
  | non => rw [h.non]; exact .inr ⟨by decide, (fun _ _ z => nomatch z), .base .non⟩
  | bl b => rw [h.bl]; exact .inr ⟨by show "bool" ∈ tyNames; decide, (fun _ _ z => nomatch z), .base (.bl b)⟩
  | int b => rw [h.int]; exact .inr ⟨by show "int" ∈ tyNames; decide, (fun _ _ z => nomatch z), .base (.int b)⟩
  | str b => rw [h.str]; exact .inr ⟨by show "str" ∈ tyNames; decide, (fun _ _ z => nomatch z), .base (.str b)⟩
  | tup l =>
    obtain ⟨a, vs, e, q, _⟩ := h.tup sb
    rw [e]
    exact .inr ⟨by show "tuple" ∈ tyNames; decide, (fun _ _ z => nomatch z), sqT_ty q⟩
  | lst l =>
    obtain ⟨a, vs, e, q, _⟩ := h.lst sb
    rw [e]
    exact .inr ⟨by show "list" ∈ tyNames; decide, (fun _ _ z => nomatch z), .base (.lst q)⟩
  | scr l =>
    obtain ⟨a, e, q⟩ := h.scr sb
    rw [e]
    exact .inr ⟨by show "list" ∈ tyNames; decide, (fun _ _ z => nomatch z), sqL_ty q⟩
  | dct ks l =>
    refine .inr ⟨by show "dict" ∈ tyNames; decide, (fun _ _ z => nomatch z), ?_⟩
    rcases h with ⟨a, kvs, e, q, _⟩ | ⟨a, o, e, q, kvs, e2, _⟩
    · rw [e]; exact .base (.dK (sb _ _ q))
    · subst e2; rw [e]; exact .base (.dK q)
  | obj c l =>
    left
    rcases h with ⟨hc, a, dx, kvs, e, q, _⟩ | ⟨a, o, e, q, hc, dx, kvs, e2, _⟩
    · rw [e]; exact ⟨c, l, rfl, hc, kit.ins H a dx c kvs hc (sb _ _ q)⟩
    · subst e2; rw [e]; exact ⟨c, l, rfl, hc, kit.ins H a dx c kvs hc q⟩
  | cls c => cases hn
theorem kit_all : ∀ d ∈ tyNames, ∀ t ∈ [Ty.int, .str, .tup, .bool, .list, .dict], kitB d t.nm = some (match t, d with | .int, "int" => true | .int, "bool" => true | .bool, "bool" => true | .str, "str" => true | .tup, "tuple" => true | .list, "list" => true | .dict, "dict" => true | _, _ => false) := by
  decide +kernel
theorem isTy_kit {d : D} {t : Ty} (ht : t ∈ [Ty.int, .str, .tup, .bool, .list, .dict]) (hd : d.tyN ∈ tyNames) (ho : ∀ c l, d ≠ .obj c l) : kitB d.tyN t.nm = some (isTy t d) := by
  rw [kit_all d.tyN hd t ht]
  congr 1
  simp only [List.mem_cons, List.not_mem_nil, or_false] at ht
  rcases ht with rfl | rfl | rfl | rfl | rfl | rfl <;> cases d <;> first | rfl | exact absurd rfl (ho _ _)
/-- isinstance(x, T) -/
theorem se_isi {a b : Expr} {o : CP} {t : Ty} {cv : V} {p1 pos : Pos} (hK : X.K = k.K) (kit : KitO k) (bn : Bn X "isinstance" (.builtin "isinstance")) (hs : noStar a = true) (hsb : noStar b = true)
    (ht : (t ∈ [Ty.int, .str, .tup, .bool, .list, .dict] ∧ cv = .ty t.nm) ∨ ∃ c ∈ k.cs, t = .cls c ∧ cv = .ref (k.ca c)) (ha : PE X a (tP k W pg cl o)) (hb : PE X b (tC cv)) : PE X (.Call (.Name "isinstance" p1) [a, b] [] pos) (tE k W pg cl (.prim (.isI t) (.cons o .nil))) := by
  refine se_one ((pe_callB call_isi bn.gl bn.mg bn.bt (pa_cons ha (pa_cons hb pa_nil (star_no hsb)) (star_no hs)) bn.nn bn.db (star_no hs) (by rw [star_no hsb]; rfl)).imp fun σ H Q h => tP_imp h fun v H1 z => ?_)
  obtain ⟨G, ds, d, sb, pr, e, q⟩ := z
  obtain ⟨x, rfl, h1⟩ := pr.one_inv
  have e0 : (if x.isCls then none else some (D.bl (isTy t x))) = some d := e
  have hn : x.isCls = false := by
    cases z : x.isCls with
    | false => rfl
    | true => rw [z] at e0; cases e0
  rw [hn] at e0
  have e' : some (D.bl (isTy t x)) = some d := e0
  cases e'
  have q' : Q (.bl (isTy t x)) H1 := fin_flat sb rfl q
  show rIsi X.K [v, cv] H1 Q
  rw [hK]
  rcases pr_ty sb kit h1 hn with ⟨c, l, rfl, hc, ty⟩ | ⟨hd, ho, ty⟩
  · rcases ht with ⟨ht, rfl⟩ | ⟨m, hm, rfl, rfl⟩
    · refine ⟨v, _, _, _, false, rfl, .ty t.nm, ty, kit.no c hc t.nm ?_, ?_⟩
      · simp only [List.mem_cons, List.not_mem_nil, or_false] at ht
        rcases ht with rfl | rfl | rfl | rfl | rfl | rfl <;> decide
      · have z : isTy t (.obj c l) = false := by
          simp only [List.mem_cons, List.not_mem_nil, or_false] at ht
          rcases ht with rfl | rfl | rfl | rfl | rfl | rfl <;> rfl
        rw [z] at q'
        exact q'
    · exact ⟨v, _, _, _, _, rfl, .own _, ty, kit.own c hc m hm, q'⟩
  · rcases ht with ⟨ht, rfl⟩ | ⟨m, hm, rfl, rfl⟩
    · exact ⟨v, _, _, _, _, rfl, .ty t.nm, ty, kit_ty (isTy_kit ht hd ho), q'⟩
    · refine ⟨v, _, _, _, false, rfl, .own _, ty, kit.ty m hm x.tyN hd, ?_⟩
      have z : isTy (.cls m) x = false := by
        cases x <;> first | rfl | exact absurd rfl (ho _ _)
      rw [z] at q'
      exact q'
end
end DL

set_option Elab.async false
set_option linter.all false
set_option maxRecDepth 100000
set_option maxHeartbeats 4000000
namespace DL
open PySem L2 PyProof.Rows
/-! ### what is walked -/
structure WalkD (k : Wk) (G0 : Hp) (xs : List D) (J : It) : Prop where
  goes : ∀ (i : Nat) (H : Hp), i < xs.length → Sub G0 H → J.go i H
  stops : ∀ H, Sub G0 H → J.stop xs.length H
  yields : ∀ (i : Nat) (H : Hp) (x : V) (H' : Hp) (d : D) (G : Hp), xs[i]? = some d → Sub G0 G → Sub G H → J.yld i H x H' → ∃ G', New G H G' H' ∧ DR k G' d x
def vI (k : Wk) : Hp → Hp → Slots → List D → It → Prop := fun G _ _ xs J => WalkD k G xs J
def tI (k : Wk) (W : WX) (pg : Pg) (cl : CallH) (it : CI) : TI := tR k W (runI pg cl it) (vI k)
section
variable {k : Wk} {G0 : Hp}
theorem DRs.getV {G : Hp} : ∀ {l : List D} {vs : List V} {i : Nat} {d : D} {v : V}, DRs k G l vs → l[i]? = some d → vs[i]? = some v → DR k G d v := fun {l vs i d v} h e e2 => by
  obtain ⟨w, h1, h2⟩ := DRs.get h e
  rw [h1] at e2
  cases e2
  exact h2
theorem lt_of_get {α : Type} {l : List α} {i : Nat} {d : α} (h : l[i]? = some d) : i < l.length := (List.getElem?_eq_some_iff.mp h).1
theorem walkD_list {a : Addr} {xs : List D} {vs : List V} (h : G0 a = some (.lst vs)) (r : DRs k G0 xs vs) : WalkD k G0 xs (Itl k.K a) := by
  have sq : ∀ {H : Hp}, Sub G0 H → SqL k.K H a vs := fun s => .inl (.inl (s _ _ h))
  have hl := r.length
  refine ⟨fun i H hi s => ⟨vs, vs[i]'(by omega), sq s, by simp [show i < vs.length by omega]⟩, fun H s => ⟨vs, sq s, by omega⟩, fun i H x H' d G e s0 s1 y => ?_⟩
  obtain ⟨e1, y⟩ := y
  subst e1
  exact ⟨G, New.refl s1, DR.mono s0 _ _ (DRs.getV r e (y vs (sq (s0.trans s1))))⟩
theorem walkD_tup {a : Addr} {xs : List D} {vs : List V} (h : SqT k.K G0 a vs) (r : DRs k G0 xs vs) : WalkD k G0 xs (Itt k.K a) := by
  have sq : ∀ {H : Hp}, Sub G0 H → SqT k.K H a vs := fun s => sqT_mono s h
  have hl := r.length
  refine ⟨fun i H hi s => ⟨vs, vs[i]'(by omega), sq s, by simp [show i < vs.length by omega]⟩, fun H s => ⟨vs, sq s, by omega⟩, fun i H x H' d G e s0 s1 y => ?_⟩
  obtain ⟨e1, y⟩ := y
  subst e1
  exact ⟨G, New.refl s1, DR.mono s0 _ _ (DRs.getV r e (y vs (sq (s0.trans s1))))⟩
theorem walkD_str {z : Str} : WalkD k G0 (z.cps.toList.map fun c => .str ⟨#[c]⟩) (Its z) := by
  refine ⟨fun i H hi s => by show i < z.cps.size; simpa using hi, fun H s => by show z.cps.size ≤ _; simp, fun i H x H' d G e s0 s1 y => ?_⟩
  obtain ⟨e1, c, hc, e2⟩ := y
  subst e1 e2
  refine ⟨G, New.refl s1, ?_⟩
  rw [List.getElem?_map, Array.getElem?_toList, hc] at e
  cases e
  rfl
theorem walkD_rng {lo hi : Int} : WalkD k G0 ((List.range (hi - lo).toNat).map fun i => .int (lo + (i : Nat))) (Itr lo (hi - lo).toNat) := by
  refine ⟨fun i H hi s => by rw [List.length_map, List.length_range] at hi; exact hi, fun H s => by rw [List.length_map, List.length_range]; exact Nat.le_refl _, fun i H x H' d G e s0 s1 y => ?_⟩
  obtain ⟨e1, e2⟩ := y
  subst e1 e2
  refine ⟨G, New.refl s1, ?_⟩
  rw [List.getElem?_map] at e
  cases e3 : (List.range (hi - lo).toNat)[i]? with
  | none => rw [e3] at e; cases e
  | some j =>
    rw [e3] at e
    cases e
    have := List.getElem?_eq_some_iff.mp e3
    obtain ⟨h1, h2⟩ := this
    rw [List.getElem_range] at h2
    subst h2
    rfl
theorem enumD_len : ∀ (n : Nat) (l : List D), (enumD n l).length = l.length
  | _, [] => rfl
  | n, x :: r => by
    show (enumD (n + 1) r).length + 1 = r.length + 1
    rw [enumD_len]
theorem enumD_get : ∀ (n : Nat) (l : List D) (i : Nat), (enumD n l)[i]? = (l[i]?).map fun x => .tup [.int ((n + i : Nat) : Nat), x]
  | _, [], i => rfl
  | n, x :: r, 0 => rfl
  | n, x :: r, i + 1 => by
    show (enumD (n + 1) r)[i]? = ((r[i]?).map _)
    rw [enumD_get, show n + 1 + i = n + (i + 1) by omega]
theorem zipD_get : ∀ (l m : List D) (i : Nat) (d : D), (zipD l m)[i]? = some d → ∃ x y, l[i]? = some x ∧ m[i]? = some y ∧ d = .tup [x, y]
  | x :: xs, y :: ys, 0, d, e => by cases e; exact ⟨x, y, rfl, rfl, rfl⟩
  | x :: xs, y :: ys, i + 1, d, e => zipD_get xs ys i d e
  | [], ys, i, d, e => by cases e
  | x :: xs, [], i, d, e => by cases e
theorem zipD_len : ∀ (l m : List D), (zipD l m).length = min l.length m.length
  | x :: xs, y :: ys => by
    show (zipD xs ys).length + 1 = min (xs.length + 1) (ys.length + 1)
    rw [zipD_len]
    omega
  | [], ys => by show 0 = min 0 ys.length; omega
  | x :: xs, [] => by show 0 = min (xs.length + 1) 0; omega
theorem pair_new {G H : Hp} {T : Addr} {d e : D} {x y : V} (s : Sub G H) (hT : H T = none) (r1 : DR k G d x) (r2 : DR k G e y) : ∃ G', New G H G' (upd H T (.tup [x, y])) ∧ DR k G' (.tup [d, e]) (.ref T) := by
  have n := New.put (o := .tup [x, y]) s hT
  exact ⟨_, n, T, [x, y], rfl, .inl (.inl upd_same), ⟨x, [y], rfl, DR.mono n.mono _ _ r1, DRs.one (DR.mono n.mono _ _ r2)⟩⟩
theorem walkD_enum {J : It} {l : List D} {vs : List V} (r : DRs k G0 l vs) (go : ∀ (i : Nat) (H : Hp), i < vs.length → Sub G0 H → J.go i H) (st : ∀ H, Sub G0 H → J.stop vs.length H)
    (yl : ∀ (i : Nat) (H : Hp) (v : V) (H' : Hp), Sub G0 H → J.yld i H v H' → ∃ T x, v = .ref T ∧ H T = none ∧ H' = upd H T (.tup [.int (i : Nat), x]) ∧ vs[i]? = some x) : WalkD k G0 (enumD 0 l) J := by
  have hl := r.length
  refine ⟨fun i H hi s => go i H (by rw [enumD_len] at hi; omega) s, fun H s => by rw [enumD_len, hl]; exact st H s, fun i H x H' d G e s0 s1 y => ?_⟩
  obtain ⟨T, u, e1, hT, e2, hu⟩ := yl i H x H' (s0.trans s1) y
  subst e1 e2
  rw [enumD_get] at e
  cases e3 : l[i]? with
  | none => rw [e3] at e; cases e
  | some d0 =>
    rw [e3] at e
    cases e
    rw [Nat.zero_add]
    exact pair_new s1 hT rfl (DR.mono s0 _ _ (DRs.getV r e3 hu))
theorem walkD_zip {J : It} {l m : List D} {vs ws : List V} (r : DRs k G0 l vs) (r2 : DRs k G0 m ws) (go : ∀ (i : Nat) (H : Hp), i < vs.length → i < ws.length → Sub G0 H → J.go i H) (st : ∀ H, Sub G0 H → J.stop (min vs.length ws.length) H)
    (yl : ∀ (i : Nat) (H : Hp) (v : V) (H' : Hp), Sub G0 H → J.yld i H v H' → ∃ T x y, v = .ref T ∧ H T = none ∧ H' = upd H T (.tup [x, y]) ∧ vs[i]? = some x ∧ ws[i]? = some y) : WalkD k G0 (zipD l m) J := by
  have hl := r.length
  have hl2 := r2.length
  refine ⟨fun i H hi s => go i H (by rw [zipD_len] at hi; omega) (by rw [zipD_len] at hi; omega) s, fun H s => by rw [zipD_len, hl, hl2]; exact st H s, fun i H x H' d G e s0 s1 y => ?_⟩
  obtain ⟨T, u, w, e1, hT, e2, hu, hw⟩ := yl i H x H' (s0.trans s1) y
  subst e1 e2
  obtain ⟨x1, y1, q1, q2, rfl⟩ := zipD_get l m i d e
  exact pair_new s1 hT (DR.mono s0 _ _ (DRs.getV r q1 hu)) (DR.mono s0 _ _ (DRs.getV r2 q2 hw))
end
/-! ### enumerate over a tuple -/
def ItE (K : PySem.W.Frag) (a : Addr) : It :=
  ⟨fun i H => ∃ (xs : List V) (x : V), SqT K H a xs ∧ xs[i]? = some x, fun i H v H' => ∃ T x, v = .ref T ∧ H T = none ∧ H' = upd H T (.tup [.int (i : Nat), x]) ∧ ∀ xs, SqT K H a xs → xs[i]? = some x, fun i H => ∃ xs : List V, SqT K H a xs ∧ xs.length = i⟩
theorem turn_enT {P : Program} {w : World} {K : PySem.W.Frag} {elts : List Expr} {kk : Nat} {tpos : Pos} (a e it : Addr) (hei : e ≠ it) (hai : a ≠ it) (hae : a ≠ e) :
    Turn P w K (.Tuple elts kk tpos) (ItE K a) [e, it] e (fun i h => (∃ old, IsEnum h e it ((i : Nat) : Int) old) ∧ h.IsTupleIter it a i) where
  mem := by simp
  obj := fun i h ⟨⟨old, he⟩, ⟨o, ho, hc, hd⟩⟩ b hb => by
    rcases (by simpa using hb : b = e ∨ b = it) with rfl | rfl
    · exact ⟨_, he, fun v q => nomatch q⟩
    · exact ⟨o, ho, fun v q => by rw [hd] at q; cases q⟩
  keep := fun i h h' ⟨⟨old, he⟩, hi⟩ q => ⟨⟨old, q e (by simp) _ he⟩, hi.at fun o z => q it (by simp) o z⟩
  item := fun X hP hw hK hc i pins s σ H E I hf ⟨⟨old, he⟩, hit⟩ ⟨xs, x, hq, hx⟩ => by
    subst hP hw hK
    obtain ⟨its, rv, pt, hz⟩ := I.tuple hq
    obtain ⟨u, hu, ru⟩ := rv.get hx
    have hel : e < s.heap.objs.size := Heap.lt_size he
    have hil : it < s.heap.objs.size := by obtain ⟨_, q, _⟩ := hit; exact Heap.lt_size q
    have Dr := Draws.tuple (prog := X.prog) (w := X.w) (A := X.A.in1) (I.ok.hd hc) it a hai its.toArray
    refine wpAny_pyNext_enum_itemD Dr he ⟨hit, pt⟩ (by have z := lt_of_get hu; simpa using z) hei (by simp [hei]; exact fun z => hae z.symm) fun y h' tk hy ho hst hT hsz hk => ?_
    have ey : u = y := by
      have hy' : its[i]? = some y := by simpa using hy
      rw [hu] at hy'
      exact Option.some.inj hy'
    subst ey
    refine ⟨_, rfl, wpAny_letOwnedTupleGo_enum (s := { s with heap := h', toks := tk + 1 }) ho fun h'' he' sb => ?_⟩
    have hT2 := (sb.2 _ (Nat.ne_of_gt hel)).trans hT
    have I1 : Inv X pins σ (upd H s.heap.objs.size (.tup [.int (i : Nat), x])) { s with heap := h'', toks := tk + 1 } :=
      I.turnedNew (ch := [e, it]) (fun b ob hb q => (sb.2 b (fun z => hb (by simp [z]))).trans (hk b ob (fun z => hb (by simp [z])) (fun z => hb (by simp [z])) q)) hf (Nat.le_refl _)
        ⟨by show 2 ≤ sizeLine; decide, [.int i tk, u], .cons ⟨_, rfl⟩ (.cons ru .nil), ⟨_, hT2, rfl, _, rfl⟩⟩
    refine ⟨.ref s.heap.objs.size, _, I1, rfl, ⟨_, x, rfl, I.hok.fresh (Nat.le_refl _), rfl, fun ys hy => by rw [I.tuple_inj hy hq]; exact hx⟩, ⟨⟨u, ?_⟩, hst.1.at fun o q => (sb.2 it (Ne.symm hei)).trans q⟩, fun b hb => ?_⟩
    · rw [show ((i + 1 : Nat) : Int) = (i : Int) + 1 by omega]
      exact he'
    · have hb' : b < s.heap.objs.size := by
        rcases (by simpa using hb : b = e ∨ b = it) with rfl | rfl <;> assumption
      rw [upd_ne (Nat.ne_of_lt hb')]
      exact (hf b hb).1
  done := fun X hP hw hK hc i pins s σ H E I hf ⟨⟨old, he⟩, hit⟩ ⟨xs, hq, hx⟩ => by
    subst hP hw hK
    obtain ⟨its, rv, pt, hz⟩ := I.tuple hq
    obtain ⟨f0, f1, f2, f3, f4, f5⟩ := hf it (by simp)
    have hl := rv.length
    have Dr := Draws.tuple (prog := X.prog) (w := X.w) (A := X.A.in1) (I.ok.hd hc) it a hai its.toArray
    have ei : i = its.toArray.size := by simp; omega
    subst ei
    exact wpAny_pyNext_enum_endD Dr he ⟨hit, pt⟩ fun h' eb => ⟨rfl, I.turned (t' := s.toks) (fun b o hb q => eb b o hb q) f0 f1 f3 f4 f5⟩
  self := fun A i s Q E ⟨⟨_, he⟩, _⟩ h => wpAny_pyIter_enum he h
theorem meets_enT {v : Value} {o : Obj} {H : Heap → Prop} (B : Begins v o H) :
    Meets (Builtin.«enumerate.__new__» ⟨[.type "enumerate", v], []⟩) (fun _ R s => H s.heap ∧
      R (.ok (.ret (.ref (s.heap.push o).objs.size))) { s with heap := (s.heap.push o).push { cls := .type "enumerate", data := .fields #[.none, .bool false, .ref s.heap.objs.size, rawInt 0, .none, .none] } }) :=
  .of_wp fun prog w A R s ⟨h1, h⟩ => by
    obtain ⟨hp, g, d, tk, os⟩ := s
    have hsub := sub_enumerate
    have q1 : ∀ {A' : Around} {E : Value → Shared → Prop} {Q : Value → Shared → Prop}, Q (.ref hp.objs.size) ⟨hp.push o, g, d, tk, os⟩ → wpAny (model prog w) A' (pyIter v) Q E ⟨hp, g, d, tk, os⟩ :=
      fun q => B.iter prog w _ _ ⟨hp, g, d, tk, os⟩ _ h1 q
    wp_walk using q1
    refine wpAny_stack_any fun st => wpAny_pure ?_
    split
    · rename_i c _ _ _ _ _
      cases (c == Value.type "enumerate") <;> (wp_walk using q1; exact ⟨_, rfl, h⟩)
    · wp_walk using q1
      exact ⟨_, rfl, h⟩
theorem call_enT {prog : Program} {w : World} {A : Around} {E : Value → Shared → Prop} {s : Shared} {v : Value} {o : Obj} {H : Heap → Prop} {Q : Value → Shared → Prop} (B : Begins v o H) (h1 : H s.heap)
    (h : ∀ h', IsEnum h' (s.heap.objs.size + 1) s.heap.objs.size 0 .none → h'.get? s.heap.objs.size = some o → (∀ b o, s.heap.get? b = some o → h'.get? b = some o) → Q (.ref (s.heap.objs.size + 1)) { s with heap := h' }) :
    wpAny (model prog w) A (call (.type "enumerate") [v]) Q E s := by
  refine callType_new F.called_enumerate (by decide) (F.typeCall_enumerate_1 _) (F.newCall_enumerate_1 _) (fun obj => F.args_object_init_2 obj _) F.entry_enumerate_new (meets_enT B) ⟨h1, ?_⟩
  have hz : (s.heap.push o).objs.size = s.heap.objs.size + 1 := Heap.size_push ..
  show _ ∧ _
  rw [hz]
  have he := Heap.get?_push_size (s.heap.push o) (o := { cls := .type "enumerate", data := .fields #[.none, .bool false, .ref s.heap.objs.size, rawInt 0, .none, .none] }) rfl
  rw [hz] at he
  exact ⟨⟨_, he, rfl⟩, h _ he (Heap.get?_push_of_some _ (Heap.get?_push_size _ B.free)) fun b o x => Heap.get?_push_of_some _ (Heap.get?_push_of_some _ x)⟩
section
variable {k : Wk} {W : WX} {pg : Pg} {cl : CallH} {X : Cx} {tg : Expr}
theorem _root_.L2.PI.imp {e : Expr} {t t' : TI} (h : PI X tg e t) (i : ∀ σ H R, t' σ H R → t σ H R) : PI X tg e t' := ⟨fun pins s σ H R I q => h.run pins s σ H R I (i σ H R q)⟩
/-- over a list, a tuple, a text -/
def iAny (K : PySem.W.Frag) (te : TE) : TI := fun σ H R => te σ H fun x H1 => (∃ a xs, x = .ref a ∧ SqL K H1 a xs ∧ R (Itl K a) H1) ∨ (∃ a xs, x = .ref a ∧ SqT K H1 a xs ∧ R (Itt K a) H1) ∨ ∃ z, x = .str z ∧ R (Its z) H1
theorem pi_any {e : Expr} {te : TE} (he : PE X e te) : PI X tg e (iAny X.K te) := by
  refine ⟨fun pins s σ H R I h => thn (he.run pins s σ H _ I h) fun v s1 ⟨x, H1, I1, r1, q1⟩ => ?_⟩
  rcases q1 with ⟨a, xs, ex, hq, q⟩ | ⟨a, xs, ex, hq, q⟩ | ⟨z, ex, q⟩
  · subst ex
    cases r1
    obtain ⟨its, rv, p, hz⟩ := I1.list hq
    exact wpAny_pyIter_list p.isList (pi_one (tk := s1.toks) I1 _ (turn_list a _) ⟨_, Heap.get?_push_size _ rfl, rfl, rfl⟩ q)
  · subst ex
    cases r1
    obtain ⟨its, rv, p, hz⟩ := I1.tuple hq
    exact wpAny_pyIter_tuple (show s1.heap.IsTuple a its.toArray from p) (pi_one (tk := s1.toks) I1 _ (turn_tuple a _) ⟨_, Heap.get?_push_size _ rfl, rfl, rfl⟩ q)
  · subst ex
    obtain ⟨t, rfl⟩ := r1
    cases ha : z.cps.all (· < 128) with
    | false => exact wpAny_pyIter_wide ha (pi_one (tk := s1.toks) I1 _ (turn_str _ z t "str_iterator" (.inr rfl)) ⟨_, Heap.get?_push_size _ rfl, rfl, rfl⟩ q)
    | true => exact wpAny_pyIter_ascii ha (pi_one (tk := s1.toks) I1 _ (turn_str _ z t "str_ascii_iterator" (.inl rfl)) ⟨_, Heap.get?_push_size _ rfl, rfl, rfl⟩ q)
theorem opt_ok {α β : Type} {x : Option α} {f : α → R β} {σ : St} {st : Slots} {G H : Hp} (h : Xc k W σ st G H (optR x f)) : ∃ a, x = some a := by
  cases x with
  | none => exact h.elim
  | some a => exact ⟨a, rfl⟩
theorem si_seq {c : CE} {e : Expr} (hK : X.K = k.K) (he : PE X e (tE k W pg cl c)) : PI X tg e (tI k W pg cl (.seq c)) := (pi_any he).imp fun σ H R ⟨G, st, r, x, q⟩ => by
  simp only [runI] at x
  refine tR.first r x fun d st1 v G1 H1 e1 p1 v1 x1 => ?_
  obtain ⟨xs, hx⟩ := opt_ok x1
  have hr : runI pg cl (.seq c) st = .ok xs st1 := by simp only [runI, e1, DL.R.bind, hx, optR]
  cases d with
  | lst l =>
    obtain ⟨a, vs, ev, h1, h2⟩ := v1
    cases hx
    exact .inl ⟨a, vs, ev, .inl (.inl (p1.rel.sub _ _ h1)), q _ st1 _ G1 H1 hr p1 (by rw [hK]; exact walkD_list h1 h2)⟩
  | tup l =>
    obtain ⟨a, vs, ev, h1, h2⟩ := v1
    cases hx
    exact .inr (.inl ⟨a, vs, ev, by rw [hK]; exact sqT_mono p1.rel.sub h1, q _ st1 _ G1 H1 hr p1 (by rw [hK]; exact walkD_tup h1 h2)⟩)
  | str z =>
    have hx' : (if z.length ≤ szl then some (z.cps.toList.map fun c => D.str ⟨#[c]⟩) else none) = some xs := hx
    split at hx'
    · cases hx'
      exact .inr (.inr ⟨z, v1, q _ st1 _ G1 H1 hr p1 walkD_str⟩)
    · cases hx'
  | _ => cases hx
theorem rngOk {a b : Int} {xs : List D} (h : rng a b = some xs) : (-(2 ^ 62) ≤ a ∧ a < 2 ^ 62 ∧ -(2 ^ 62) ≤ b ∧ b < 2 ^ 62) ∧ xs = (List.range (b - a).toNat).map fun i => .int (a + (i : Nat)) := by
  unfold rng at h
  split at h
  · rename_i q
    simp only [Bool.and_eq_true, decide_eq_true_eq] at q
    cases h
    exact ⟨⟨q.1.1.1.1, q.1.1.1.2, q.1.1.2, q.1.2⟩, rfl⟩
  · cases h
theorem drs1 {G : Hp} {d : D} {vs : List V} (h : DRs k G [d] vs) : ∃ v, vs = [v] ∧ DR k G d v := by
  obtain ⟨v, vr, e, h1, h2⟩ := h
  have h2' : vr = [] := h2
  subst h2'
  exact ⟨v, e, h1⟩
theorem drs2 {G : Hp} {d e : D} {vs : List V} (h : DRs k G [d, e] vs) : ∃ v w, vs = [v, w] ∧ DR k G d v ∧ DR k G e w := by
  obtain ⟨v, vr, e1, h1, h2⟩ := h
  obtain ⟨w, rfl, h3⟩ := drs1 h2
  exact ⟨v, w, e1, h1, h3⟩
theorem stars2 {a b : Expr} {env : Env} (h1 : noStar a = true) (h2 : noStar b = true) : starEach [a, b] env = [(false, eval a env), (false, eval b env)] := by
  rw [star_no h1, star_no h2]
  rfl
theorem runL1 {c : CE} {st st1 : Slots} {ds : List D} (h : runL pg cl (.cons c .nil) st = .ok ds st1) : ∃ d, ds = [d] := by
  simp only [runL] at h
  cases e : runE pg cl c st with
  | ok d s => rw [e] at h; cases h; exact ⟨d, rfl⟩
  | exc a b s => rw [e] at h; cases h
  | bad => rw [e] at h; cases h
theorem runL2 {c c2 : CE} {st st1 : Slots} {ds : List D} (h : runL pg cl (.cons c (.cons c2 .nil)) st = .ok ds st1) : ∃ d e, ds = [d, e] := by
  simp only [runL] at h
  cases e : runE pg cl c st with
  | ok d s =>
    rw [e] at h
    simp only [R.bind] at h
    cases e2 : runE pg cl c2 s with
    | ok d2 s2 => rw [e2] at h; cases h; exact ⟨d, d2, rfl⟩
    | exc a b s => rw [e2] at h; cases h
    | bad => rw [e2] at h; cases h
  | exc a b s => rw [e] at h; cases h
  | bad => rw [e] at h; cases h
theorem si_rng1 {a : Expr} {c : CE} {p pos : Pos} (hg : Gl X "range") (hm : X.mg "range" = none) (hs : noStar a = true) (ha : PA X [a] (tL k W pg cl (.cons c .nil))) : PI X tg (.Call (.Name "range" p) [a] [] pos) (tI k W pg cl (.rng (.cons c .nil))) := (pi_range1 hg hm ha (one_star hs _)).imp fun σ H R ⟨G, st, r, x, q⟩ => by
  simp only [runI] at x
  refine tR.first r x fun ds st1 vs G1 H1 e1 p1 v1 x1 => ?_
  obtain ⟨xs, hx⟩ := opt_ok x1
  have hr : runI pg cl (.rng (.cons c .nil)) st = .ok xs st1 := by simp only [runI, e1, DL.R.bind, hx, optR]
  obtain ⟨d, rfl⟩ := runL1 e1
  obtain ⟨v, rfl, u1⟩ := drs1 v1
  cases d with
  | int j =>
    obtain ⟨⟨g1, g2, g3, g4⟩, rfl⟩ := rngOk (show rng 0 j = some xs from hx)
    refine ⟨j, by rw [show v = .int j from u1], g3, g4, q _ st1 _ G1 H1 hr p1 ?_⟩
    have z := walkD_rng (k := k) (G0 := G1) (lo := 0) (hi := j)
    rw [Int.sub_zero] at z ⊢
    exact z
  | _ => cases hx
theorem si_rng2 {a b : Expr} {c c2 : CE} {p pos : Pos} (hg : Gl X "range") (hm : X.mg "range" = none) (hs : noStar a = true) (hs2 : noStar b = true) (ha : PA X [a, b] (tL k W pg cl (.cons c (.cons c2 .nil)))) : PI X tg (.Call (.Name "range" p) [a, b] [] pos) (tI k W pg cl (.rng (.cons c (.cons c2 .nil)))) := (pi_range2 hg hm ha (stars2 hs hs2) (one_star hs2 _)).imp fun σ H R ⟨G, st, r, x, q⟩ => by
  simp only [runI] at x
  refine tR.first r x fun ds st1 vs G1 H1 e1 p1 v1 x1 => ?_
  obtain ⟨xs, hx⟩ := opt_ok x1
  have hr : runI pg cl (.rng (.cons c (.cons c2 .nil))) st = .ok xs st1 := by simp only [runI, e1, DL.R.bind, hx, optR]
  obtain ⟨d, d2, rfl⟩ := runL2 e1
  obtain ⟨v, w, rfl, u1, u2⟩ := drs2 v1
  cases d with
  | int i => cases d2 with
    | int j =>
      obtain ⟨hb, rfl⟩ := rngOk (show rng i j = some xs from hx)
      exact ⟨i, j, by rw [show v = .int i from u1, show w = .int j from u2], hb, q _ st1 _ G1 H1 hr p1 walkD_rng⟩
    | _ => cases hx
  | _ => cases hx
/-- enumerate over a list or a tuple -/
def iEn (K : PySem.W.Frag) (ta : TA) : TI := fun σ H R => ta σ H fun vs H1 => (∃ a xs, vs = [.ref a] ∧ SqL K H1 a xs ∧ R (Ite K a) H1) ∨ ∃ a xs, vs = [.ref a] ∧ SqT K H1 a xs ∧ R (ItE K a) H1
theorem pi_en {e : Expr} {ta : TA} {p pos tpos : Pos} {elts : List Expr} {kk : Nat} (hg : Gl X "enumerate") (hm : X.mg "enumerate" = none) (ha : PA X [e] ta) (hs : noStar e = true) :
    PI X (.Tuple elts kk tpos) (.Call (.Name "enumerate" p) [e] [] pos) (iEn X.K ta) := by
  refine ⟨fun pins s σ H R I h => Call_ (ld_blt I hg hm boot_enumerate (PyProof.Rows.callWith_type1 (thn (ha.run pos pins s σ H _ I h) fun us s1 ⟨vs, H1, I1, r1, q1⟩ => ?_) (one_star hs _) rfl))⟩
  have fr : ∀ b ∈ [s1.heap.objs.size + 1, s1.heap.objs.size], FpOk X pins H1 b := fun b hb => by
    have hle : s1.heap.objs.size ≤ b := by
      rcases (by simpa using hb : b = s1.heap.objs.size + 1 ∨ b = s1.heap.objs.size) with z | z
      · rw [z]; exact Nat.le_add_right _ _
      · rw [z]; exact Nat.le_refl _
    exact I1.fpOk hle (I1.hok.fresh hle)
  rcases q1 with ⟨a, xs, rfl, hq, q⟩ | ⟨a, xs, rfl, hq, q⟩
  · obtain ⟨u, rfl, ru⟩ := vals1 r1
    cases ru
    obtain ⟨its, rv, p', hz⟩ := I1.list hq
    exact call_enumerate_list p'.isList fun h' he hit hsz hk => wpAny_pyIter_enum he
      ⟨_, _, _, _, H1, rfl, I1.kept (t' := s1.toks) hk, turn_enum a (s1.heap.objs.size + 1) s1.heap.objs.size, ⟨⟨.none, he⟩, hit, Nat.succ_ne_self _⟩, fr, q⟩
  · obtain ⟨u, rfl, ru⟩ := vals1 r1
    cases ru
    obtain ⟨its, rv, p', hz⟩ := I1.tuple hq
    have la : a < s1.heap.objs.size := by obtain ⟨o, ho, _⟩ := id p'; exact Heap.lt_size ho
    exact call_enT (begins_tuple a its.toArray) p' fun h' he hit hk => wpAny_pyIter_enum he
      ⟨_, _, _, _, H1, rfl, I1.kept (t' := s1.toks) hk, turn_enT a (s1.heap.objs.size + 1) s1.heap.objs.size (Nat.succ_ne_self _) (Nat.ne_of_lt la) (Nat.ne_of_lt (Nat.lt_succ_of_lt la)), ⟨⟨.none, he⟩, ⟨_, hit, rfl, rfl⟩⟩, fr, q⟩
theorem si_enum {e : Expr} {c : CE} {p pos tpos : Pos} {elts : List Expr} {kk : Nat} (hK : X.K = k.K) (hg : Gl X "enumerate") (hm : X.mg "enumerate" = none) (hs : noStar e = true) (ha : PA X [e] (tL k W pg cl (.cons c .nil))) :
    PI X (.Tuple elts kk tpos) (.Call (.Name "enumerate" p) [e] [] pos) (tI k W pg cl (.enum (.cons c .nil))) := (pi_en hg hm ha hs).imp fun σ H R ⟨G, st, r, x, q⟩ => by
  simp only [runI] at x
  refine tR.first r x fun ds st1 vs G1 H1 e1 p1 v1 x1 => ?_
  obtain ⟨xs, hx⟩ := opt_ok x1
  have hr : runI pg cl (.enum (.cons c .nil)) st = .ok xs st1 := by simp only [runI, e1, DL.R.bind, hx, optR]
  obtain ⟨d, rfl⟩ := runL1 e1
  obtain ⟨v, rfl, u1⟩ := drs1 v1
  cases d with
  | lst l =>
    obtain ⟨a, vs, rfl, h1, h2⟩ := u1
    have hx' : some (enumD 0 l) = some xs := hx
    cases hx'
    have sq : ∀ {H : Hp}, Sub G1 H → SqL X.K H a vs := fun s => .inl (.inl (s _ _ h1))
    refine .inl ⟨a, vs, rfl, sq p1.rel.sub, q _ st1 _ G1 H1 hr p1 (walkD_enum h2 (fun i H hi s => ⟨vs, vs[i], sq s, by simp [hi]⟩) (fun H s => ⟨vs, sq s, Nat.le_refl _⟩) fun i H v H' s y => ?_)⟩
    obtain ⟨T, u, e1, hT, e2, hu⟩ := y
    exact ⟨T, u, e1, hT, e2, hu vs (sq s)⟩
  | tup l =>
    obtain ⟨a, vs, rfl, h1, h2⟩ := u1
    have hx' : some (enumD 0 l) = some xs := hx
    cases hx'
    have sq : ∀ {H : Hp}, Sub G1 H → SqT X.K H a vs := fun s => by rw [hK]; exact sqT_mono s h1
    refine .inr ⟨a, vs, rfl, sq p1.rel.sub, q _ st1 _ G1 H1 hr p1 (walkD_enum h2 (fun i H hi s => ⟨vs, vs[i], sq s, by simp [hi]⟩) (fun H s => ⟨vs, sq s, rfl⟩) fun i H v H' s y => ?_)⟩
    obtain ⟨T, u, e1, hT, e2, hu⟩ := y
    exact ⟨T, u, e1, hT, e2, hu vs (sq s)⟩
  | _ => cases hx
end
end DL

set_option Elab.async false
set_option linter.all false
set_option maxRecDepth 100000
set_option maxHeartbeats 4000000
namespace DL
open PySem L2 PyProof.Rows
/-! ### zip over a list and a tuple, by the library's draws -/
inductive Kd where
  | l | t
/-- the abstract sequence, the sequence in the heap, its iterator -/
def Kd.sq (p : Kd) (K : PySem.W.Frag) (H : Hp) (a : Addr) (xs : List V) : Prop := match p with
  | .l => SqL K H a xs
  | .t => SqT K H a xs
def Kd.at_ (p : Kd) (h : Heap) (a : Addr) (its : Array Value) : Prop := match p with
  | .l => h.IsList a its
  | .t => h.IsTuple a its
def Kd.itr (p : Kd) (h : Heap) (c a : Addr) (i : Nat) : Prop := match p with
  | .l => h.IsListIter c a i
  | .t => h.IsTupleIter c a i
def Kd.obj (p : Kd) (a : Addr) : Obj := match p with
  | .l => { cls := .type "list_iterator", data := .fields #[.ref a, .int 0 0] }
  | .t => { cls := .type "tuple_iterator", data := .fields #[.ref a, .int 0 0] }
theorem Kd.draws (p : Kd) {prog : Program} {w : World} {A : Around} (hh : A.handled = none) (c a : Addr) (hne : a ≠ c) (its : Array Value) : Draws prog w A c [c, a] its.size (fun i v => its[i]? = some v) (fun i h => p.itr h c a i ∧ p.at_ h a its) := by
  cases p with
  | l => exact Draws.list hh c a hne its
  | t => exact Draws.tuple hh c a hne its
theorem Kd.begins (p : Kd) (a : Addr) (its : Array Value) : Begins (.ref a) (p.obj a) fun h => p.at_ h a its := by
  cases p with
  | l => exact begins_list a its
  | t => exact begins_tuple a its
theorem Kd.first {p : Kd} {h : Heap} {c a : Addr} (e : h.get? c = some (p.obj a)) : p.itr h c a 0 := by
  cases p <;> exact ⟨_, e, rfl, rfl⟩
theorem Kd.stays {p : Kd} {h h' : Heap} {c a : Addr} {i : Nat} (x : p.itr h c a i) (k : ∀ o, h.get? c = some o → h'.get? c = some o) : p.itr h' c a i := by
  cases p <;> (obtain ⟨o, e, r⟩ := x; exact ⟨o, k o e, r⟩)
theorem Kd.plain {p : Kd} {h : Heap} {c a : Addr} {i : Nat} (x : p.itr h c a i) : ∃ o, h.get? c = some o ∧ ∀ v, o.data ≠ .cell v := by
  cases p <;> (obtain ⟨o, e, _, d⟩ := x; exact ⟨o, e, fun v q => by rw [d] at q; cases q⟩)
theorem Kd.real {p : Kd} {X : Cx} {pins : List (Addr × Obj)} {σ : St} {H : Hp} {s : Shared} {a : Addr} {xs : List V} (I : Inv X pins σ H s) (h : p.sq X.K H a xs) : ∃ its : List Value, Vals xs its ∧ p.at_ s.heap a its.toArray := by
  cases p with
  | l =>
    obtain ⟨its, rv, q, _⟩ := I.list h
    exact ⟨its, rv, q.isList⟩
  | t =>
    obtain ⟨its, rv, q, _⟩ := I.tuple h
    exact ⟨its, rv, q⟩
theorem Kd.same {p : Kd} {X : Cx} {pins : List (Addr × Obj)} {σ : St} {H : Hp} {s : Shared} {a : Addr} {xs ys : List V} (I : Inv X pins σ H s) (h : p.sq X.K H a xs) (h' : p.sq X.K H a ys) : xs = ys := by
  cases p with
  | l => exact I.list_inj h h'
  | t => exact I.tuple_inj h h'
theorem Kd.lt {p : Kd} {h : Heap} {a : Addr} {its : Array Value} (x : p.at_ h a its) : a < h.objs.size := by
  cases p <;> (obtain ⟨o, e, _⟩ := x; exact Heap.lt_size e)
/-- the walk: pairs of what stands at a, at b -/
def ItM (p p' : Kd) (K : PySem.W.Frag) (a b : Addr) : It :=
  ⟨fun i H => ∃ (xs ys : List V) (x y : V), p.sq K H a xs ∧ p'.sq K H b ys ∧ xs[i]? = some x ∧ ys[i]? = some y,
    fun i H v H' => ∃ c x y, v = .ref c ∧ H c = none ∧ H' = upd H c (.tup [x, y]) ∧ (∀ xs, p.sq K H a xs → xs[i]? = some x) ∧ ∀ ys, p'.sq K H b ys → ys[i]? = some y,
    fun i H => ∃ xs ys : List V, p.sq K H a xs ∧ p'.sq K H b ys ∧ i = min xs.length ys.length⟩
/-- the cells of the zip at its i-th turn -/
structure AtM (p p' : Kd) (a b n : Addr) (i : Nat) (h : Heap) : Prop where
  zip : IsZip h (n + 4) (n + 2) (n + 3) .none
  ins : IsTupOf2 h (n + 2) (.ref n) (.ref (n + 1))
  out : ∃ u v, IsTupOf2 h (n + 3) u v
  one : p.itr h n a i
  two : p'.itr h (n + 1) b i
abbrev cellsM (n : Addr) : List Addr := [n + 4, n + 2, n + 3, n, n + 1]
theorem near {n c : Nat} (e : c = n + 4 ∨ c = n + 2 ∨ c = n + 3 ∨ c = n ∨ c = n + 1) : n ≤ c ∧ c ≤ n + 4 := by omega
theorem apart2 (n : Nat) : n + 2 ≠ n + 4 ∧ n + 2 ≠ n + 3 ∧ n + 2 ≠ n ∧ n + 2 ≠ n + 1 := by omega
theorem cellsM_lt {n c : Addr} (h : c ∈ cellsM n) : n ≤ c ∧ c ≤ n + 4 := by
  have e : c = n + 4 ∨ c = n + 2 ∨ c = n + 3 ∨ c = n ∨ c = n + 1 := by simpa using h
  exact near e
theorem AtM.top {p p' : Kd} {a b n : Addr} {i : Nat} {h : Heap} (x : AtM p p' a b n i h) : n + 4 < h.objs.size := Heap.lt_size x.zip
theorem turnM {P : Program} {w : World} {K : PySem.W.Frag} {elts : List Expr} {kk : Nat} {tpos : Pos} (p p' : Kd) {a b n : Addr} (ha : a < n) (hb : b < n) : Turn P w K (.Tuple elts kk tpos) (ItM p p' K a b) (cellsM n) (n + 4) (AtM p p' a b n) where
  mem := List.mem_cons_self ..
  obj := fun i h x c hc => by
    have e : c = n + 4 ∨ c = n + 2 ∨ c = n + 3 ∨ c = n ∨ c = n + 1 := by simpa using hc
    rcases e with rfl | rfl | rfl | rfl | rfl
    · exact ⟨_, x.zip, fun v q => nomatch q⟩
    · exact ⟨_, x.ins, fun v q => nomatch q⟩
    · obtain ⟨u, v, q⟩ := x.out
      exact ⟨_, q, fun v q => nomatch q⟩
    · exact Kd.plain x.one
    · exact Kd.plain x.two
  keep := fun i h h' x q => by
    obtain ⟨u, v, z⟩ := x.out
    exact ⟨q _ (by simp) _ x.zip, q _ (by simp) _ x.ins, ⟨u, v, q _ (by simp) _ z⟩, Kd.stays x.one (q _ (by simp)), Kd.stays x.two (q _ (by simp))⟩
  item := fun X hP hw hK hc i pins s σ H E I hf x ⟨xs, ys, vx, vy, q1, q2, g1, g2⟩ => by
    subst hP hw hK
    obtain ⟨u, v, ho⟩ := x.out
    obtain ⟨its, rv, r1⟩ := Kd.real I q1
    obtain ⟨its', rv', r2⟩ := Kd.real I q2
    obtain ⟨m1, k1, s1⟩ := rv.get g1
    obtain ⟨m2, k2, s2⟩ := rv'.get g2
    have top := x.top
    have d1 := p.draws (prog := X.prog) (w := X.w) (A := X.A.in1) (I.ok.hd hc) n a (Nat.ne_of_lt ha) its.toArray
    have d2 := p'.draws (prog := X.prog) (w := X.w) (A := X.A.in1) (I.ok.hd hc) (n + 1) b (Nat.ne_of_lt (Nat.lt_succ_of_lt hb)) its'.toArray
    have sep : ZipSep2 (n + 4) (n + 2) (n + 3) n (n + 1) [n, a] [n + 1, b] := zip_sep2 (by simpa using ha) (by simpa using hb)
    refine wpAny_pyNext_zipD2_item sep d1 d2 x.zip x.ins ho ⟨x.one, r1⟩ ⟨x.two, r2⟩ (by simpa using lt_of_get k1) (by simpa using lt_of_get k2) fun w1 w2 h' tk y1 y2 z1 z2 z3 z4 z5 z6 z7 => ?_
    have e1 : m1 = w1 := by
      have y1' : its[i]? = some w1 := by simpa using y1
      rw [k1] at y1'
      exact Option.some.inj y1'
    have e2 : m2 = w2 := by
      have y2' : its'[i]? = some w2 := by simpa using y2
      rw [k2] at y2'
      exact Option.some.inj y2'
    subst e1 e2
    refine ⟨_, rfl, wpAny_letOwnedTupleGo_zip (s := { s with heap := h', toks := tk }) z1 fun h2 z8 sb => ?_⟩
    have far : (s.heap.objs.size : Nat) ≠ n + 4 := Nat.ne_of_gt top
    have hT := (sb.2 _ far).trans z5
    have new : ObjOk X.prog X.w (upd H s.heap.objs.size (.tup [vx, vy])) h2 s.heap.objs.size (.tup [vx, vy]) := ⟨by show 2 ≤ sizeLine; decide, [m1, m2], .cons s1 (.cons s2 .nil), ⟨_, hT, rfl, _, rfl⟩⟩
    have kp : ∀ c o, c ∉ cellsM n → s.heap.get? c = some o → h2.get? c = some o := fun c o hc e => by
      have no : ∀ m ∈ cellsM n, c ≠ m := fun m hm z => hc (by rw [z]; exact hm)
      exact (sb.2 c (no _ (by simp))).trans (z7 c o (no _ (by simp)) (no _ (by simp)) (no _ (by simp)) (no _ (by simp)) e)
    have I1 := I.turnedNew (t' := tk) kp hf (Nat.le_refl _) new
    have ne : ∀ m : Nat, m < n + 4 → ∀ o, h'.get? m = some o → h2.get? m = some o := fun m hm o e => (sb.2 m (Nat.ne_of_lt hm)).trans e
    refine ⟨.ref s.heap.objs.size, _, I1, rfl, ⟨_, vx, vy, rfl, I.hok.fresh (Nat.le_refl _), rfl, fun l hl => by rw [Kd.same I hl q1]; exact g1, fun l hl => by rw [Kd.same I hl q2]; exact g2⟩, ⟨z8, ?_, ⟨m1, m2, ?_⟩, ?_, ?_⟩, fun c hcm => ?_⟩
    · exact ne (n + 2) (by omega) _ (z7 _ _ (apart2 n).1 (apart2 n).2.1 (apart2 n).2.2.1 (apart2 n).2.2.2 x.ins)
    · exact ne (n + 3) (by omega) _ z2
    · exact Kd.stays z3.1 (ne n (by omega))
    · exact Kd.stays z4.1 (ne (n + 1) (by omega))
    · have lt : c < s.heap.objs.size := Nat.lt_of_le_of_lt (cellsM_lt hcm).2 top
      rw [upd_ne (Nat.ne_of_lt lt)]
      exact (hf c hcm).1
  done := fun X hP hw hK hc i pins s σ H E I hf x ⟨xs, ys, q1, q2, hi⟩ => by
    subst hP hw hK
    obtain ⟨u, v, ho⟩ := x.out
    obtain ⟨its, rv, r1⟩ := Kd.real I q1
    obtain ⟨its', rv', r2⟩ := Kd.real I q2
    have l1 := rv.length
    have l2 := rv'.length
    have d1 := p.draws (prog := X.prog) (w := X.w) (A := X.A.in1) (I.ok.hd hc) n a (Nat.ne_of_lt ha) its.toArray
    have d2 := p'.draws (prog := X.prog) (w := X.w) (A := X.A.in1) (I.ok.hd hc) (n + 1) b (Nat.ne_of_lt (Nat.lt_succ_of_lt hb)) its'.toArray
    have sep : ZipSep2 (n + 4) (n + 2) (n + 3) n (n + 1) [n, a] [n + 1, b] := zip_sep2 (by simpa using ha) (by simpa using hb)
    refine wpAny_pyNext_zipD2_end sep d1 d2 x.zip x.ins ho ⟨x.one, r1⟩ ⟨x.two, r2⟩ (by simp; omega) (by simp; omega) (by simp; omega) fun h' tk z7 => ⟨rfl, I.turnedL (t' := tk) (ch := cellsM n) (fun c o hc e => ?_) hf⟩
    have no : ∀ m ∈ cellsM n, c ≠ m := fun m hm z => hc (by rw [z]; exact hm)
    exact z7 c o (no _ (by simp)) (no _ (by simp)) (no _ (by simp)) (no _ (by simp)) e
  self := fun A i s Q E x h => wpAny_pyIter_zip x.zip h
section
variable {k : Wk} {W : WX} {pg : Pg} {cl : CallH} {X : Cx}
/-- zip(e, e2): what the two are shows at the call -/
def iZipM (K : PySem.W.Frag) (ta : TA) : TI := fun σ H R => ta σ H fun vs H1 => ∃ (p p' : Kd) (a b : Addr) (xs ys : List V), vs = [.ref a, .ref b] ∧ p.sq K H1 a xs ∧ p'.sq K H1 b ys ∧ R (ItM p p' K a b) H1
theorem pi_zipM {e e2 : Expr} {ta : TA} {p pos tpos : Pos} {elts : List Expr} {kk : Nat} (hg : Gl X "zip") (hm : X.mg "zip" = none) (ha : PA X [e, e2] ta) (hs : noStar e = true) (hs2 : noStar e2 = true) : PI X (.Tuple elts kk tpos) (.Call (.Name "zip" p) [e, e2] [] pos) (iZipM X.K ta) := by
  refine ⟨fun pins s σ H R I h => Call_ (ld_blt I hg hm PyProof.Rows.boot_zip (PyProof.Rows.callWith_type1 (thn (ha.run pos pins s σ H _ I h) fun us s1 ⟨vs, H1, I1, rs, p1, p2, a, b, xs, ys, ev, q1, q2, q⟩ => ?_) (star_no hs) (by rw [one_star hs2]; rfl)))⟩
  subst ev
  obtain ⟨us, rfl⟩ : ∃ us', us = us' := ⟨_, rfl⟩
  have eu : us = [.ref a, .ref b] := by
    cases rs with
    | cons r rr => cases rr with
      | cons r' rr =>
        cases rr
        cases r
        cases r'
        rfl
  subst eu
  obtain ⟨its, rv, r1⟩ := Kd.real I1 q1
  obtain ⟨its', rv', r2⟩ := Kd.real I1 q2
  refine zip_begins2 (p1.begins a its.toArray) (p2.begins b its'.toArray) r1 r2 fun h' z1 z2 z3 z4 z5 z6 z7 => wpAny_pyIter_zip z1 ?_
  have I2 : Inv X pins σ H1 { s1 with heap := h' } := I1.kept (t' := s1.toks) z7
  refine ⟨s1.heap.objs.size + 4, cellsM s1.heap.objs.size, _, _, H1, rfl, I2, turnM p1 p2 (Kd.lt r1) (Kd.lt r2), ⟨z1, z2, ⟨_, _, z3⟩, Kd.first z4, Kd.first z5⟩, fun c hc => ?_, q⟩
  have le := (cellsM_lt hc).1
  exact I1.fpOk le (I1.hok.fresh le)
/-- a frozen list, a frozen tuple -/
def kdOf : D → Option (Kd × List D)
  | .lst l => some (.l, l)
  | .tup l => some (.t, l)
  | _ => none
theorem kdOf_sq {G H : Hp} {d : D} {v : V} {p : Kd} {l : List D} (e : kdOf d = some (p, l)) (h : DR k G d v) : ∃ a vs, v = .ref a ∧ (∀ {H : Hp}, Sub G H → p.sq k.K H a vs) ∧ DRs k G l vs := by
  cases d with
  | lst m =>
    cases e
    obtain ⟨a, vs, rfl, h1, h2⟩ := h
    exact ⟨a, vs, rfl, fun s => .inl (.inl (s _ _ h1)), h2⟩
  | tup m =>
    cases e
    obtain ⟨a, vs, rfl, h1, h2⟩ := h
    exact ⟨a, vs, rfl, fun s => sqT_mono s h1, h2⟩
  | _ => cases e
theorem zipI_kd {d d2 : D} {xs : List D} (h : zipI [d, d2] = some xs) : ∃ p l p' m, kdOf d = some (p, l) ∧ kdOf d2 = some (p', m) ∧ xs = zipD l m := by
  cases d <;> cases d2 <;> first | (cases h; done) | (cases h; exact ⟨_, _, _, _, rfl, rfl, rfl⟩)
theorem si_zip {e e2 : Expr} {c c2 : CE} {p pos tpos : Pos} {elts : List Expr} {kk : Nat} (hK : X.K = k.K) (hg : Gl X "zip") (hm : X.mg "zip" = none) (hs : noStar e = true) (hs2 : noStar e2 = true) (ha : PA X [e, e2] (tL k W pg cl (.cons c (.cons c2 .nil)))) :
    PI X (.Tuple elts kk tpos) (.Call (.Name "zip" p) [e, e2] [] pos) (tI k W pg cl (.zip (.cons c (.cons c2 .nil)))) := (pi_zipM hg hm ha hs hs2).imp fun σ H R ⟨G, st, r, x, q⟩ => by
  simp only [runI] at x
  refine tR.first r x fun ds st1 vs G1 H1 e1 p1 v1 x1 => ?_
  obtain ⟨xs, hx⟩ := opt_ok x1
  have hr : runI pg cl (.zip (.cons c (.cons c2 .nil))) st = .ok xs st1 := by simp only [runI, e1, DL.R.bind, hx, optR]
  obtain ⟨d, d2, rfl⟩ := runL2 e1
  obtain ⟨v, w, rfl, u1, u2⟩ := drs2 v1
  obtain ⟨k1, l, k2, m, i1, i2, rfl⟩ := zipI_kd hx
  obtain ⟨a, vs, rfl, sq, h2⟩ := kdOf_sq (H := H1) i1 u1
  obtain ⟨b, ws, rfl, sq2, g2⟩ := kdOf_sq (H := H1) i2 u2
  refine ⟨k1, k2, a, b, vs, ws, rfl, by rw [hK]; exact sq p1.rel.sub, by rw [hK]; exact sq2 p1.rel.sub, q _ st1 _ G1 H1 hr p1 ?_⟩
  rw [hK]
  refine walkD_zip h2 g2 (fun i H hi hj s => ⟨vs, ws, vs[i], ws[i], sq s, sq2 s, by simp [hi], by simp [hj]⟩) (fun H s => ⟨vs, ws, sq s, sq2 s, rfl⟩) fun i H v H' s y => ?_
  obtain ⟨c, u, z, e1, hT, e2, hu, hz⟩ := y
  exact ⟨c, u, z, e1, hT, e2, hu vs (sq s), hz ws (sq2 s)⟩
end
end DL

set_option Elab.async false
set_option linter.all false
set_option maxRecDepth 100000
set_option maxHeartbeats 4000000
namespace DL
open PySem L2 PyProof.Rows
section
variable {k : Wk} {W : WX} {pg : Pg} {cl : CallH} {X : Cx} {wl : Nat}
/-- a slot that is not lent gets frozen data -/
theorem Rel.put {G H : Hp} {σ : St} {st : Slots} {i : Nat} {d : D} {v : V} (r : Rel k G H σ st) (hi : i < st.length) (hb : ∀ d', st[i]? ≠ some (.bo d')) (hv : DR k G d v) : Post k σ st G H (σ.set i (some v)) (st.set i (.fr d)) G H := by
  have hσ : i < σ.length := by rw [← r.len]; exact hi
  have ne : ∀ j d', ownAt (st.set i (.fr d)) j = some d' → i ≠ j ∧ ownAt st j = some d' := fun j d' e => by
    by_cases c : i = j
    · subst c
      unfold ownAt at e
      rw [List.getElem?_set_self hi] at e
      cases e
    · refine ⟨c, ?_⟩
      unfold ownAt at e ⊢
      rw [List.getElem?_set_ne c] at e
      exact e
  refine ⟨Sub.refl G, fun _ _ h _ => h, fun _ _ h => .inl h, fun a ⟨j, d', e1, e2⟩ => ?_, fun _ h => h, fun j d' e => ?_, ⟨r.sub, by rw [List.length_set, List.length_set]; exact r.len, fun j d' e => ?_, fun j d' e => ?_, fun j j' d1 d2 a e1 e2 g1 g2 => ?_⟩⟩
  · obtain ⟨c, e1⟩ := ne j d' e1
    rw [List.getElem?_set_ne c] at e2
    exact .inl ⟨j, d', e1, e2⟩
  · have c : i ≠ j := fun z => by subst z; exact hb d' e
    exact ⟨⟨d', by rw [List.getElem?_set_ne c]; exact e⟩, by rw [List.getElem?_set_ne c]⟩
  · by_cases c : i = j
    · subst c
      rw [List.getElem?_set_self hi] at e
      cases e
      exact ⟨v, by rw [List.getElem?_set_self hσ], hv⟩
    · rw [List.getElem?_set_ne c] at e ⊢
      exact r.fr j d' e
  · obtain ⟨c, e⟩ := ne j d' e
    rw [List.getElem?_set_ne c]
    exact r.ow j d' e
  · obtain ⟨c1, e1⟩ := ne j d1 e1
    obtain ⟨c2, e2⟩ := ne j' d2 e2
    rw [List.getElem?_set_ne c1] at g1
    rw [List.getElem?_set_ne c2] at g2
    exact r.inj j j' d1 d2 a e1 e2 g1 g2
theorem putN_inv {i : Nat} {d : D} {s s' : Slots} (h : putN i d s = some s') : i < s.length ∧ (∀ d', s[i]? ≠ some (.bo d')) ∧ s' = s.set i (.fr d) := by
  unfold putN at h
  cases e : s[i]? with
  | none => rw [e] at h; cases h
  | some x =>
    rw [e] at h
    have hl := lt_of_get e
    cases x with
    | bo d' => cases h
    | no => cases h; exact ⟨hl, (fun d' z => nomatch z), rfl⟩
    | fr d' => cases h; exact ⟨hl, (fun d' z => nomatch z), rfl⟩
    | ow d' => cases h; exact ⟨hl, (fun d' z => nomatch z), rfl⟩
theorem putO_inv {i : Nat} {d : D} {s s' : Slots} (h : putO i d s = some s') : i < s.length ∧ (∀ d', s[i]? ≠ some (.bo d')) ∧ s' = s.set i (.ow d) := by
  unfold putO at h
  cases e : s[i]? with
  | none => rw [e] at h; cases h
  | some x =>
    rw [e] at h
    have hl := lt_of_get e
    cases x with
    | bo d' => cases h
    | no => cases h; exact ⟨hl, (fun d' z => nomatch z), rfl⟩
    | fr d' => cases h; exact ⟨hl, (fun d' z => nomatch z), rfl⟩
    | ow d' => cases h; exact ⟨hl, (fun d' z => nomatch z), rfl⟩
theorem putT_nm {i : Nat} {d : D} {s : Slots} : putT (.nm i) d s = putN i d s := by
  cases e : s[i]? with
  | none => simp [putT, putN, e]
  | some x => cases x <;> simp [putT, putN, e]
/-! ### targets -/
mutual
def CT.sl : CT → List Nat
  | .nm i => [i]
  | .tp l => ctsSl l
def ctsSl : List CT → List Nat
  | [] => []
  | t :: ts => t.sl ++ ctsSl ts
end
/-- the same but for the slots vs -/
def Same (vs : List Nat) (σ σ' : St) : Prop := σ'.length = σ.length ∧ ∀ j, j ∉ vs → σ'[j]? = σ[j]?
def tG (k : Wk) (vs : List Nat) (put : D → Slots → Option Slots) : TG := fun v σ H Q => ∃ G st d st', Rel k G H σ st ∧ DR k G d v ∧ put d st = some st' ∧ ∀ σ', Post k σ st G H σ' st' G H → Same vs σ σ' → Q σ' H
def tGs (k : Wk) (is : List Nat) (put : List D → Slots → Option Slots) : TGs := fun vs σ H Q => ∃ G st ds st', Rel k G H σ st ∧ DRs k G ds vs ∧ put ds st = some st' ∧ ∀ σ', Post k σ st G H σ' st' G H → Same is σ σ' → Q σ' H
theorem PG.imp {tg : Expr} {t t' : TG} (h : PG X tg t) (i : ∀ v σ H Q, t' v σ H Q → t v σ H Q) : PG X tg t' := ⟨fun pins s σ H v u Q I r q => h.run pins s σ H v u Q I r (i v σ H Q q)⟩
theorem PG.two {tg : Expr} {t t' : TG} (h : PG X tg t) (h2 : PG X tg t') : PG X tg (fun v σ H Q => t v σ H Q ∨ t' v σ H Q) := ⟨fun pins s σ H v u Q I r q => q.elim (h.run pins s σ H v u Q I r) (h2.run pins s σ H v u Q I r)⟩
theorem PGs.imp {tg : List Expr} {t t' : TGs} (h : PGs X tg t) (i : ∀ v σ H Q, t' v σ H Q → t v σ H Q) : PGs X tg t' := ⟨fun pins s σ H v u Q I r q => h.run pins s σ H v u Q I r (i v σ H Q q)⟩
theorem sg_nm {i : Nat} {x : Str} {pos : Pos} (h : PG X (.Name x pos) (gName i)) : PG X (.Name x pos) (tG k [i] (putT (.nm i))) := PG.imp h fun v σ H Q ⟨G, st, d, st', r, dr, e, q⟩ => by
  rw [putT_nm] at e
  obtain ⟨h1, h2, rfl⟩ := putN_inv e
  exact q _ (r.put h1 h2 dr) ⟨List.length_set, fun j hj => List.getElem?_set_ne (fun z => hj (by simp [z]))⟩
theorem asg_no {e : Expr} {es : List Expr} {env : Env} (h : noStar e = true) : assignEach (e :: es) env = (false, assign e env) :: assignEach es env := by
  cases e <;> first | rfl | cases h
theorem sgs_nil : PGs X [] (tGs k [] (putTs [])) := PGs.imp pgs_nil fun vs σ H Q ⟨G, st, ds, st', r, dr, e, q⟩ => by
  cases ds with
  | nil =>
    cases e
    exact ⟨dr, q σ (Post.refl r) ⟨rfl, fun _ _ => rfl⟩⟩
  | cons d ds => cases e
theorem putTs_cons {t : CT} {ts : List CT} {d : D} {ds : List D} {s : Slots} : putTs (t :: ts) (d :: ds) s = (putT t d s).bind (putTs ts ds) := by
  simp only [putTs]
  cases putT t d s <;> rfl
theorem sgs_cons {e : Expr} {es : List Expr} {t : CT} {ts : List CT} (hs : noStar e = true) (h1 : PG X e (tG k t.sl (putT t))) (h2 : PGs X es (tGs k (ctsSl ts) (putTs ts))) : PGs X (e :: es) (tGs k (ctsSl (t :: ts)) (putTs (t :: ts))) :=
  PGs.imp (pgs_cons h1 h2 (by rw [asg_no hs]; rfl)) fun vs σ H Q ⟨G, st, ds, st', r, dr, e, q⟩ => by
    cases ds with
    | nil => cases e
    | cons d ds =>
      obtain ⟨v, vr, rfl, r1, r2⟩ := dr
      have e' : (putT t d st).bind (putTs ts ds) = some st' := by rw [← putTs_cons]; exact e
      cases e1 : putT t d st with
      | none => rw [e1] at e'; cases e'
      | some s1 =>
        rw [e1] at e'
        exact ⟨v, vr, rfl, G, st, d, s1, r, r1, e1, fun σ1 p1 m1 => ⟨G, s1, ds, st', p1.rel, r2, e', fun σ2 p2 m2 => q σ2 (p1.trans p2) ⟨m2.1.trans m1.1, fun j hj => by
          simp only [ctsSl, List.mem_append, not_or] at hj
          exact (m2.2 j hj.2).trans (m1.2 j hj.1)⟩⟩⟩
theorem asg_len : ∀ {es : List Expr} {env : Env}, es.all noStar = true → (assignEach es env).length = es.length
  | [], env, _ => rfl
  | e :: es, env, h => by
    rw [List.all_cons, Bool.and_eq_true] at h
    rw [asg_no h.1, List.length_cons, asg_len h.2, List.length_cons]
theorem asg_find : ∀ {es : List Expr} {env : Env}, es.all noStar = true → (assignEach es env).findIdx? (·.1) = none
  | [], env, _ => rfl
  | e :: es, env, h => by
    rw [List.all_cons, Bool.and_eq_true] at h
    rw [asg_no h.1, List.findIdx?_cons]
    simp [asg_find h.2]
theorem putTs_len : ∀ {ts : List CT} {ds : List D} {s s' : Slots}, putTs ts ds s = some s' → ds.length = ts.length
  | [], [], s, s', h => rfl
  | [], d :: ds, s, s', h => by cases h
  | t :: ts, [], s, s', h => by cases h
  | t :: ts, d :: ds, s, s', h => by
    have e' : (putT t d s).bind (putTs ts ds) = some s' := by rw [← putTs_cons]; exact h
    cases e1 : putT t d s with
    | none => rw [e1] at e'; cases e'
    | some s1 => rw [e1] at e'; rw [List.length_cons, List.length_cons, putTs_len (show putTs ts ds s1 = some s' from e')]
theorem sg_tp {es : List Expr} {ts : List CT} {n : Nat} {pos : Pos} (hK : X.K = k.K) (hc : X.calm = true) (hs : es.all noStar = true) (hl : ts.length = es.length) (h : PGs X es (tGs k (ctsSl ts) (putTs ts))) : PG X (.Tuple es n pos) (tG k (CT.sl (.tp ts)) (putT (.tp ts))) :=
  PG.imp (PG.two (pg_tup hc h (asg_len hs) (asg_find hs)) (pg_lst hc h (asg_len hs) (asg_find hs))) fun v σ H Q ⟨G, st, d, st', r, dr, e, q⟩ => by
    cases d with
    | lst ds =>
      have e' : putTs ts ds st = some st' := by simpa only [putT] using e
      obtain ⟨a, vs, rfl, h1, h2⟩ := dr
      exact .inr ⟨a, vs, rfl, .inl (.inl (r.sub _ _ h1)), by rw [← h2.length, putTs_len e', hl], G, st, ds, st', r, h2, e', fun σ' p m => q σ' p (by simpa only [CT.sl] using m)⟩
    | tup ds =>
      have e' : putTs ts ds st = some st' := by simpa only [putT] using e
      obtain ⟨a, vs, rfl, h1, h2⟩ := dr
      exact .inl ⟨a, vs, rfl, by rw [hK]; exact sqT_mono r.sub h1, by rw [← h2.length, putTs_len e', hl], G, st, ds, st', r, h2, e', fun σ' p m => q σ' p (by simpa only [CT.sl] using m)⟩
    | _ => simp only [putT] at e; cases e
/-! ### statements -/
/-- what a return gives: data, or a new object -/
def RV (k : Wk) (fr : Bool) (σ : St) (st : Slots) (H : Hp) (σ' : St) (st' : Slots) (G' H' : Hp) (d : D) (v : V) : Prop := if fr = true then ∃ a o, v = .ref a ∧ H' a = some o ∧ G' a = none ∧ ¬ Own σ' st' a ∧ OR k G' d o ∧ (H a = none ∨ Own σ st a) else DR k G' d v
def endS (k : Wk) (fr : Bool) (E : Ends) (σ : St) (st : Slots) (H : Hp) (σ' : St) (st' : Slots) (G' H' : Hp) : Flow → Prop
  | .nx => E.nx σ' H'
  | .bk => E.bk σ' H'
  | .ct => E.ct σ' H'
  | .rt d => ∀ v, RV k fr σ st H σ' st' G' H' d v → E.rt v H'
def tR2 (k : Wk) (W : WX) (fr : Bool) (run : Slots → R Flow) : TS := fun E σ H => ∃ G st, Rel k G H σ st ∧ Xc k W σ st G H (run st) ∧
  ∀ fl st' σ' G' H', run st = .ok fl st' → Post k σ st G H σ' st' G' H' → endS k fr E σ st H σ' st' G' H' fl
def tS (k : Wk) (W : WX) (pg : Pg) (cl : CallH) (wl : Nat) (fr : Bool) (s : CS) : TS := tR2 k W fr (runS pg cl wl s)
def tB (k : Wk) (W : WX) (pg : Pg) (cl : CallH) (wl : Nat) (fr : Bool) (b : CB) : TS := tR2 k W fr (runB pg cl wl b)
variable {fr : Bool}
theorem RV.back {σ σ1 σ' : St} {st st1 st' : Slots} {G G1 G' H H1 H' : Hp} {d : D} {v : V} (p : Post k σ st G H σ1 st1 G1 H1) (h : RV k fr σ1 st1 H1 σ' st' G' H' d v) : RV k fr σ st H σ' st' G' H' d v := by
  unfold RV at h ⊢
  split at h
  · rename_i c
    rw [if_pos c]
    obtain ⟨a, o, h1, h2, h3, h4, h5, h6⟩ := h
    refine ⟨a, o, h1, h2, h3, h4, h5, ?_⟩
    rcases h6 with z | z
    · exact .inl (p.dom a z)
    · exact (p.own a z).symm
  · rename_i c
    rw [if_neg c]
    exact h
theorem endS.back {σ σ1 σ' : St} {st st1 st' : Slots} {G G1 G' H H1 H' : Hp} {fl : Flow} {E : Ends} (p : Post k σ st G H σ1 st1 G1 H1) (h : endS k fr E σ st H σ' st' G' H' fl) : endS k fr E σ1 st1 H1 σ' st' G' H' fl := by
  cases fl with
  | rt d => exact fun v q => h v (q.back p)
  | _ => exact h
theorem ss_pass {pos : Pos} : PS X (.Pass pos) (tS k W pg cl wl fr .pass) := ps_pass.imp fun E σ H ⟨G, st, r, x, q⟩ => q .nx st σ G H (by simp only [runS]) (Post.refl r)
theorem ss_never {s : Stmt} : PS X s (tS k W pg cl wl fr .never) := ps_never.imp fun E σ H ⟨G, st, r, x, q⟩ => by
  simp only [runS] at x
  exact x
theorem sb_nil : PSs X [] (tB k W pg cl wl fr .nil) := pss_nil.imp fun E σ H ⟨G, st, r, x, q⟩ => q .nx st σ G H (by simp only [runB]) (Post.refl r)
theorem sb_cons {a : CS} {b : CB} {s : Stmt} {rest : List Stmt} (h1 : PS X s (tS k W pg cl wl fr a)) (h2 : PSs X rest (tB k W pg cl wl fr b)) : PSs X (s :: rest) (tB k W pg cl wl fr (.cons a b)) :=
  (pss_cons h1 h2).imp fun E σ H ⟨G, st, r, x, q⟩ => by
    have x' : Xc k W σ st G H (match runS pg cl wl a st with | .ok .nx s1 => runB pg cl wl b s1 | r => r) := by
      have z := x
      simp only [runB] at z
      exact z
    have q' : ∀ fl st' σ' G' H', (match runS pg cl wl a st with | .ok .nx s1 => runB pg cl wl b s1 | r => r) = .ok fl st' → Post k σ st G H σ' st' G' H' → endS k fr E σ st H σ' st' G' H' fl := fun fl st' σ' G' H' e p => q fl st' σ' G' H' (by simp only [runB]; exact e) p
    refine ⟨G, st, r, ?_, fun fl st1 σ1 G1 H1 e p => ?_⟩
    · cases e : runS pg cl wl a st with
      | ok fl s1 => trivial
      | exc c fs s1 => rw [e] at x'; exact x'
      | bad => rw [e] at x'; exact x'
    · have e' : runS pg cl wl a st = .ok fl st1 := e
      rw [e'] at x' q'
      cases fl with
      | nx => exact ⟨G1, st1, p.rel, Xc.next p x', fun fl st2 σ2 G2 H2 e2 p2 => (q' fl st2 σ2 G2 H2 e2 (p.trans p2)).back p⟩
      | bk => exact q' .bk st1 σ1 G1 H1 rfl p
      | ct => exact q' .ct st1 σ1 G1 H1 rfl p
      | rt d => exact q' (.rt d) st1 σ1 G1 H1 rfl p
/-- no comprehension: nothing is swapped -/
def noComp : Expr → Bool
  | .ListComp _ _ _ _ => false
  | .SetComp _ _ _ _ => false
  | .DictComp _ _ _ _ _ => false
  | _ => true
theorem swaps_no {e : Expr} (h : noComp e = true) (t : Option Expr) (n : Nat) (env : Env) : swapsWith e t n env = pure false := by
  cases e <;> first | rfl | cases h
theorem ss_exp {c : CE} {e : Expr} {pos : Pos} (hc : noComp e = true) (h : PE X e (tE k W pg cl c)) : PS X (.Expr e pos) (tS k W pg cl wl fr (.exp c)) := (ps_expr h (swaps_no hc _ _ _)).imp fun E σ H ⟨G, st, r, x, q⟩ => by
  simp only [runS] at x
  refine tR.first r x fun d st1 v G1 H1 e1 p1 v1 x1 => ?_
  exact q .nx st1 σ G1 H1 (by simp only [runS, e1, R.bind]) p1
theorem ss_ret {c : CE} {e : Expr} {pos : Pos} (h : PE X e (tE k W pg cl c)) : PS X (.Return (some e) pos) (tS k W pg cl wl false (.ret c)) := (ps_ret h).imp fun E σ H ⟨G, st, r, x, q⟩ => by
  simp only [runS] at x
  refine tR.first r x fun d st1 v G1 H1 e1 p1 v1 x1 => ?_
  exact q (.rt d) st1 σ G1 H1 (by simp only [runS, e1, R.bind]) p1 v v1
theorem ss_retF {c : CE} {e : Expr} {pos : Pos} (h : PE X e (tF k W pg cl c)) : PS X (.Return (some e) pos) (tS k W pg cl wl true (.retF c)) := (ps_ret h).imp fun E σ H ⟨G, st, r, x, q⟩ => by
  simp only [runS] at x
  refine tR.first r x fun d st1 v G1 H1 e1 p1 v1 x1 => ?_
  obtain ⟨a, o, h1, h2, h3, h4, h5, h6⟩ := v1
  exact q (.rt d) st1 σ G1 H1 (by simp only [runS, e1, R.bind]) p1 v ⟨a, o, h1, h2, h4, h5, h6, .inl h3⟩
theorem ss_retN {pos : Pos} : PS X (.Return none pos) (tS k W pg cl wl false .retN) := ps_retN.imp fun E σ H ⟨G, st, r, x, q⟩ =>
  q (.rt .non) st σ G H (by simp only [runS]) (Post.refl r) .non rfl
theorem ss_ite {c : CE} {a b : CB} {e : Expr} {sa sb : List Stmt} {pos : Pos} (hc : PT X e (tT k W pg cl c)) (ha : PSs X sa (tB k W pg cl wl fr a)) (hb : PSs X sb (tB k W pg cl wl fr b)) : PS X (.If e sa sb pos) (tS k W pg cl wl fr (.ite c a b)) :=
  (ps_if hc ha hb).imp fun E σ H ⟨G, st, r, x, q⟩ => by
    simp only [runS] at x
    refine tR.first r x fun b0 st1 v G1 H1 e1 p1 v1 x1 => ?_
    cases v1
    cases b0 with
    | true =>
      rw [if_pos rfl]
      exact ⟨G1, st1, p1.rel, x1, fun fl st2 σ2 G2 H2 e2 p2 => (q fl st2 σ2 G2 H2 (by simp only [runS, e1, R.bind, if_true]; exact e2) (p1.trans p2)).back p1⟩
    | false =>
      rw [if_neg (by simp)]
      exact ⟨G1, st1, p1.rel, x1, fun fl st2 σ2 G2 H2 e2 p2 => (q fl st2 σ2 G2 H2 (by simp only [runS, e1, R.bind, Bool.false_eq_true, if_false]; exact e2) (p1.trans p2)).back p1⟩
theorem opt_some {α : Type} {x : Option Slots} {f : Slots → R α} {σ : St} {st : Slots} {G H : Hp} (h : Xc k W σ st G H (opt x f)) : ∃ a, x = some a := by
  cases x with
  | none => exact h.elim
  | some a => exact ⟨a, rfl⟩
theorem ss_asgT {c : CE} {t : CT} {e tg : Expr} {pos : Pos} (hs : swapsWithSole [tg] e pos.line X.env = pure false) (hw : swappedStores [tg] e X.env = pure none) (hn : noStar tg = true) (h : PE X e (tE k W pg cl c)) (hg : PG X tg (tG k t.sl (putT t))) : PS X (.Assign [tg] e pos) (tS k W pg cl wl fr (.asgT t c)) :=
  (ps_asg h hg hs hw (by rw [asg_no hn]; rfl)).imp fun E σ H ⟨G, st, r, x, q⟩ => by
    simp only [runS] at x
    refine tR.first r x fun d st1 v G1 H1 e1 p1 v1 x1 => ?_
    obtain ⟨st2, e2⟩ := opt_some x1
    refine ⟨G1, st1, d, st2, p1.rel, v1, e2, fun σ' p2 _ => ?_⟩
    exact q .nx st2 σ' G1 H1 (by simp only [runS, e1, R.bind, e2, opt]) (p1.trans p2)
theorem ss_asg {c : CE} {i : Nat} {x : Str} {e : Expr} {pos pos' : Pos} (hs : swapsWith e (some (.Name x pos')) pos.line X.env = pure false) (hN : X.N.Nodup) (hi : X.N[i]? = some x) (hl : X.fn x = true ∨ X.env.scope.names.lookup x = some .local) (hx : Loc X.env.scope x) (h : PE X e (tE k W pg cl c)) : PS X (.Assign [.Name x pos'] e pos) (tS k W pg cl wl fr (.asg i c)) :=
  (ps_set hN hi hx h hs hl).imp fun E σ H ⟨G, st, r, x, q⟩ => by
    simp only [runS] at x
    refine tR.first r x fun d st1 v G1 H1 e1 p1 v1 x1 => ?_
    obtain ⟨st2, e2⟩ := opt_some x1
    obtain ⟨h1, h2, rfl⟩ := putN_inv e2
    exact q .nx _ _ G1 H1 (by simp only [runS, e1, R.bind, e2, opt]) (p1.trans (p1.rel.put h1 h2 v1))
end
end DL

set_option Elab.async false
set_option linter.all false
set_option maxRecDepth 100000
set_option maxHeartbeats 4000000
namespace DL
open PySem L2 PyProof.Rows
section
variable {k : Wk} {W : WX} {pg : Pg} {cl : CallH} {X : Cx} {wl : Nat} {fr : Bool}
/-- an own or lent slot's object is rewritten -/
def Sl.keep (s : Sl) (d : D) : Sl := match s with
  | .bo _ => .bo d
  | _ => .ow d
theorem Rel.chg {G H : Hp} {σ : St} {st : Slots} {i : Nat} {d d' : D} {s : Sl} {a : Addr} {o' : HO} (r : Rel k G H σ st) (hs : st[i]? = some s) (ho : s.own = some d) (ha : σ[i]? = some (some (.ref a))) (h : OR k G d' o') : Post k σ st G H σ (st.set i (s.keep d')) G (upd H a o') := by
  have hi := lt_of_get hs
  have ow0 : ownAt st i = some d := by unfold ownAt; rw [hs]; exact ho
  obtain ⟨a', o, e1, e2, e3, e4⟩ := r.ow i d ow0
  rw [ha] at e1
  cases e1
  have kp : (s.keep d').own = some d' := by cases s <;> rfl
  have cs : ∀ j d1, ownAt (st.set i (s.keep d')) j = some d1 → (j = i ∧ d1 = d') ∨ (i ≠ j ∧ ownAt st j = some d1) := fun j d1 e => by
    by_cases c : i = j
    · subst c
      unfold ownAt at e
      rw [List.getElem?_set_self hi] at e
      have e' : (s.keep d').own = some d1 := e
      rw [kp] at e'
      cases e'
      exact .inl ⟨rfl, rfl⟩
    · refine .inr ⟨c, ?_⟩
      unfold ownAt at e ⊢
      rw [List.getElem?_set_ne c] at e
      exact e
  have ow1 : ∀ j d1, ownAt (st.set i (s.keep d')) j = some d1 → ∃ d2, ownAt st j = some d2 := fun j d1 e => by
    rcases cs j d1 e with ⟨rfl, _⟩ | ⟨_, z⟩
    · exact ⟨d, ow0⟩
    · exact ⟨d1, z⟩
  refine ⟨Sub.refl G, fun b u e n => ?_, fun _ _ h => .inl h, fun b ⟨j, d1, z1, z2⟩ => ?_, fun b e => ?_, fun j d1 e => ?_, ⟨fun b u e => ?_, by rw [List.length_set]; exact r.len, fun j d1 e => ?_, fun j d1 e => ?_, fun j j' d1 d2 b z1 z2 g1 g2 => ?_⟩⟩
  · rw [upd_ne (fun z => n (by subst z; exact ⟨i, d, ow0, ha⟩))]
    exact e
  · obtain ⟨d2, z⟩ := ow1 j d1 z1
    exact .inl ⟨j, d2, z, z2⟩
  · by_cases c : b = a
    · subst c; rw [upd_same] at e; cases e
    · rw [upd_ne c] at e; exact e
  · by_cases c : i = j
    · subst c
      rw [hs] at e
      cases e
      exact ⟨⟨d', by rw [List.getElem?_set_self hi]; rfl⟩, rfl⟩
    · exact ⟨⟨d1, by rw [List.getElem?_set_ne c]; exact e⟩, rfl⟩
  · rw [upd_ne (ne_of_none e e3)]
    exact r.sub b u e
  · by_cases c : i = j
    · subst c
      rw [List.getElem?_set_self hi] at e
      cases s <;> cases e
    · rw [List.getElem?_set_ne c] at e
      exact r.fr j d1 e
  · rcases cs j d1 e with ⟨rfl, rfl⟩ | ⟨c, z⟩
    · exact ⟨a, o', ha, upd_same, e3, h⟩
    · obtain ⟨b, u, g1, g2, g3, g4⟩ := r.ow j d1 z
      refine ⟨b, u, g1, ?_, g3, g4⟩
      rw [upd_ne (fun q => c (by subst q; exact r.inj i j d d1 _ ow0 z ha g1))]
      exact g2
  · obtain ⟨d3, z3⟩ := ow1 j d1 z1
    obtain ⟨d4, z4⟩ := ow1 j' d2 z2
    exact r.inj j j' d3 d4 b z3 z4 g1 g2
theorem chg_inv {i : Nat} {f : D → Option D} {s s' : Slots} (h : chg i f s = some s') : ∃ x d d', s[i]? = some x ∧ x.own = some d ∧ f d = some d' ∧ s' = s.set i (x.keep d') := by
  unfold DL.chg at h
  cases e : s[i]? with
  | none => rw [e] at h; cases h
  | some x =>
    rw [e] at h
    cases x with
    | no => cases h
    | fr d => cases h
    | ow d =>
      cases e2 : f d with
      | none => simp only [e2] at h; cases h
      | some d' => simp only [e2] at h; cases h; exact ⟨_, d, d', rfl, rfl, e2, rfl⟩
    | bo d =>
      cases e2 : f d with
      | none => simp only [e2] at h; cases h
      | some d' => simp only [e2] at h; cases h; exact ⟨_, d, d', rfl, rfl, e2, rfl⟩
/-- .. from what the slot holds -/
theorem Rel.chg_of {G H : Hp} {σ : St} {st st' : Slots} {i : Nat} {f : D → Option D} {a : Addr} (r : Rel k G H σ st) (h : DL.chg i f st = some st') (ha : σ[i]? = some (some (.ref a))) : ∃ d d' o, f d = some d' ∧ H a = some o ∧ OR k G d o ∧ ∀ o', OR k G d' o' → Post k σ st G H σ st' G (upd H a o') := by
  obtain ⟨x, d, d', h1, h2, h3, rfl⟩ := chg_inv h
  have ow0 : ownAt st i = some d := by unfold ownAt; rw [h1]; exact h2
  obtain ⟨a', o, e1, e2, e3, e4⟩ := r.ow i d ow0
  rw [ha] at e1
  cases e1
  exact ⟨d, d', o, h3, e2, e4, fun o' q => r.chg h1 h2 ha q⟩
theorem isOL_ok {G H : Hp} {σ : St} {st : Slots} {i : Nat} (r : Rel k G H σ st) (h : isOL st i = true) : ∃ a vs, σ[i]? = some (some (.ref a)) ∧ H a = some (.lst vs) := by
  unfold isOL at h
  have go : ∀ l, ownAt st i = some (.lst l) → ∃ a vs, σ[i]? = some (some (.ref a)) ∧ H a = some (.lst vs) := fun l z => by
    obtain ⟨a, o, h1, h2, _, vs, rfl, _⟩ := r.ow i _ z
    exact ⟨a, vs, h1, h2⟩
  cases e : st[i]? with
  | none => rw [e] at h; cases h
  | some x =>
    rw [e] at h
    cases x with
    | no => cases h
    | fr d => cases h
    | ow d => cases d with
      | lst l => exact go l (ownAt_ow e)
      | _ => cases h
    | bo d => cases d with
      | lst l => exact go l (ownAt_bo e)
      | _ => cases h
theorem if_tru {α : Type} {b : Bool} {r : R α} {σ : St} {st : Slots} {G H : Hp} (x : Xc k W σ st G H (if b = true then r else .bad)) : b = true := if_len x
/-! ### x.append(e), x.extend(e), x.pop(e) -/
theorem ss_app {c : CE} {i : Nat} {x : Str} {e : Expr} {p1 apos cpos pos : Pos} (hi : PE X (.Name x p1) (tVar i)) (hs : noStar e = true) (hl : (apos.endLine == cpos.line) = true) (h : PE X e (tE k W pg cl c)) : PS X (.Expr (.Call (.Attribute (.Name x p1) "append" apos) [e] [] cpos) pos) (tS k W pg cl wl fr (.app i c)) :=
  (ps_expr (pe_bm F.plainAttrs_list F.slot_list_append F.type_list_append mt_append hi (pa_cons h pa_nil (star_no hs)) (base_ok rfl _ _) (by rw [one_star hs]; rfl) hl (star_no hs) rfl) rfl).imp fun E σ H ⟨G, st, r, x, q⟩ => by
    simp only [runS] at x
    have ho := if_tru x
    rw [if_pos ho] at x
    obtain ⟨a, vs, h1, h2⟩ := isOL_ok r ho
    refine ⟨.ref a, h1, .inl ⟨rfl, vs, .inl (.inl h2)⟩, ?_⟩
    refine tR.first r x fun d st1 v G1 H1 e1 p1 v1 x1 => ?_
    obtain ⟨st2, e2⟩ := opt_some x1
    obtain ⟨d0, d', o, g1, g2, g3, g4⟩ := p1.rel.chg_of e2 h1
    have g1' : appD d d0 = some d' := g1
    cases d0 with
    | lst l =>
      obtain ⟨ws, rfl, g5⟩ := g3
      have g6 : (if l.length < szl then some (D.lst (l ++ [d])) else none) = some d' := g1'
      split at g6
      · rename_i hlt
        cases g6
        refine ⟨a, ws, v, rfl, rfl, g2, by rw [← g5.length, ← szl_eq]; exact hlt, ?_⟩
        exact q .nx st2 σ G1 _ (by simp only [runS, if_pos ho, e1, R.bind, e2, opt]) (p1.trans (g4 _ ⟨_, rfl, DRs.append g5 (DRs.one v1)⟩))
      · cases g6
    | _ => cases g1'
theorem ss_ext {c : CE} {i : Nat} {x : Str} {e : Expr} {p1 apos cpos pos : Pos} (hi : PE X (.Name x p1) (tVar i)) (hs : noStar e = true) (hl : (apos.endLine == cpos.line) = true) (h : PE X e (tE k W pg cl c)) : PS X (.Expr (.Call (.Attribute (.Name x p1) "extend" apos) [e] [] cpos) pos) (tS k W pg cl wl fr (.ext i c)) :=
  (ps_expr (pe_bm F.plainAttrs_list F.slot_list_extend F.type_list_extend mt_extend hi (pa_cons h pa_nil (star_no hs)) (base_ok rfl _ _) (by rw [one_star hs]; rfl) hl (star_no hs) rfl) rfl).imp fun E σ H ⟨G, st, r, x, q⟩ => by
    simp only [runS] at x
    have ho := if_tru x
    rw [if_pos ho] at x
    obtain ⟨a, vs, h1, h2⟩ := isOL_ok r ho
    refine ⟨.ref a, h1, .inl ⟨rfl, vs, .inl (.inl h2)⟩, ?_⟩
    refine tR.first r x fun d st1 v G1 H1 e1 p1 v1 x1 => ?_
    obtain ⟨st2, e2⟩ := opt_some x1
    obtain ⟨d0, d', o, g1, g2, g3, g4⟩ := p1.rel.chg_of e2 h1
    have g1' : extD d d0 = some d' := g1
    cases d0 with
    | lst l =>
      cases d with
      | lst m =>
        obtain ⟨ws, rfl, g5⟩ := g3
        obtain ⟨b, us, rfl, b1, b2⟩ := v1
        have g6 : (if l.length + m.length ≤ szl then some (D.lst (l ++ m)) else none) = some d' := g1'
        split at g6
        · rename_i hlt
          cases g6
          refine ⟨a, b, ws, us, rfl, rfl, g2, p1.rel.sub _ _ b1, by rw [← g5.length, ← b2.length, ← szl_eq]; exact hlt, ?_⟩
          exact q .nx st2 σ G1 _ (by simp only [runS, if_pos ho, e1, R.bind, e2, opt]) (p1.trans (g4 _ ⟨_, rfl, DRs.append g5 b2⟩))
        · cases g6
      | _ => cases g1'
    | _ => cases g1'
theorem DRs.eraseIdx {G : Hp} : ∀ {l : List D} {vs : List V} (i : Nat), DRs k G l vs → DRs k G (l.eraseIdx i) (vs.eraseIdx i)
  | [], vs, i, h => by
    have e : vs = [] := h
    rw [e]
    exact rfl
  | d :: ds, vs, 0, h => by
    obtain ⟨v, vr, e, r1, r2⟩ := h
    subst e
    exact r2
  | d :: ds, vs, i + 1, h => by
    obtain ⟨v, vr, e, r1, r2⟩ := h
    subst e
    exact ⟨v, _, rfl, r1, DRs.eraseIdx i r2⟩
theorem popD_inv {i : Nat} {d x : D} {s s' : Slots} (h : popD i d s = .ok x s') : ∃ l j n, d = .int n ∧ s[i]? = some (.ow (.lst l)) ∧ l.length ≤ szl ∧ ixN l.length n = some j ∧ l[j]? = some x ∧ s' = s.set i (.ow (.lst (l.eraseIdx j))) := by
  unfold popD at h
  split at h
  · split at h
    · split at h
      · split at h
        · split at h
          · cases h
            exact ⟨_, _, _, rfl, by assumption, by assumption, by assumption, by assumption, rfl⟩
          · cases h
        · cases h
      · cases h
    · cases h
  · cases h
theorem popD_Xc {i : Nat} {d : D} {σ : St} {st s : Slots} {G H : Hp} (h : Xc k W σ st G H (popD i d s)) : ∃ x s', popD i d s = .ok x s' := by
  cases e : popD i d s with
  | ok x s' => exact ⟨x, s', rfl⟩
  | bad => rw [e] at h; exact h.elim
  | exc c fs s' =>
    exfalso
    unfold popD at e
    split at e
    · split at e
      · split at e
        · split at e
          · split at e <;> cases e
          · cases e
        · cases e
      · cases e
    · cases e
theorem ixN_szl {n m : Nat} {i : Int} {j : Nat} (hl : n ≤ szl) (e : n = m) (h : ixN n i = some j) : -(2 ^ 63) ≤ i ∧ i < 2 ^ 63 ∧ seqIndex? i m = some j := by
  subst e
  obtain ⟨h1, h2, h3, h4⟩ := ixN_seq h
  unfold szl at hl
  exact ⟨by omega, by omega, h1⟩
theorem se_pop {c : CE} {i : Nat} {x : Str} {e : Expr} {p1 apos cpos : Pos} (hi : PE X (.Name x p1) (tVar i)) (hs : noStar e = true) (hl : (apos.endLine == cpos.line) = true) (h : PE X e (tE k W pg cl c)) : PE X (.Call (.Attribute (.Name x p1) "pop" apos) [e] [] cpos) (tE k W pg cl (.pop i c)) :=
  (pe_bm F.plainAttrs_list F.slot_list_pop F.type_list_pop mt_popAt hi (pa_cons h pa_nil (star_no hs)) (base_ok rfl _ _) (by rw [one_star hs]; rfl) hl (star_no hs) rfl).imp fun σ H Q ⟨G, st, r, x, q⟩ => by
    simp only [runE] at x
    have ho := if_tru x
    rw [if_pos ho] at x
    obtain ⟨a, vs, h1, h2⟩ := isOL_ok r ho
    refine ⟨.ref a, h1, .inl ⟨rfl, vs, .inl (.inl h2)⟩, ?_⟩
    refine tR.first r x fun d st1 v G1 H1 e1 p1 v1 x1 => ?_
    obtain ⟨y, st2, e2⟩ := popD_Xc x1
    obtain ⟨l, j, n, rfl, g1, g2, g3, g4, rfl⟩ := popD_inv e2
    obtain ⟨a', o, b1, b2, b3, ws, rfl, b4⟩ := p1.rel.ow i _ (ownAt_ow g1)
    rw [h1] at b1
    cases b1
    obtain ⟨u, w1, w2⟩ := DRs.get b4 g4
    obtain ⟨z1, z2, z3⟩ := ixN_szl g2 b4.length g3
    refine ⟨a, ws, n, j, u, rfl, by rw [show v = .int n from v1], b2, z1, z2, z3, w1, ?_⟩
    refine q y _ u G1 _ ?_ (p1.trans (p1.rel.chg (s := .ow (.lst l)) (d' := .lst (l.eraseIdx j)) g1 rfl h1 ⟨_, rfl, DRs.eraseIdx j b4⟩)) w2
    simp only [runE, if_pos ho, e1, R.bind]
    exact e2
/-! ### x[i] = e -/
theorem swaps_sub {e o i : Expr} {p : Pos} {n : Nat} {env : Env} : swapsWith e (some (.Subscript o i p)) n env = pure false := by
  cases e <;> rfl
theorem swaps_tup {e : Expr} {es : List Expr} {m : Nat} {p : Pos} {n : Nat} {env : Env} : swapsWith e (some (.Tuple es m p)) n env = pure false := by
  cases e <;> rfl
theorem swaps_att {e o : Expr} {f : Str} {p : Pos} {n : Nat} {env : Env} : swapsWith e (some (.Attribute o f p)) n env = pure false := by
  cases e <;> rfl
theorem sole_sub {e o i : Expr} {p : Pos} {n : Nat} {env : Env} : swapsWithSole [.Subscript o i p] e n env = pure false := swaps_sub (e := e) (o := o) (i := i) (p := p) (n := n) (env := env)
theorem sole_tup {e : Expr} {es : List Expr} {m : Nat} {p : Pos} {n : Nat} {env : Env} : swapsWithSole [.Tuple es m p] e n env = pure false := swaps_tup (e := e) (es := es) (m := m) (p := p) (n := n) (env := env)
theorem stores_sub {e o i : Expr} {p : Pos} {env : Env} : swappedStores [.Subscript o i p] e env = pure none := by
  cases e <;> rfl
def noTup : Expr → Bool
  | .Tuple _ _ _ => false
  | _ => true
theorem stores_nt {e : Expr} {tgs : List Expr} {env : Env} (h : noTup e = true) : swappedStores tgs e env = pure none := by
  unfold swappedStores
  split
  · rename_i ts vs heq
    exfalso
    split at heq
    · cases h
    · cases h
    · cases heq
  · rfl
theorem assign_sub {o i : Expr} {p : Pos} {env : Env} (hs : notSlice i = true) : ∀ v, assign (.Subscript o i p) env v = (do
      let ov ← holding [v] (eval o env)
      let iv ← holding [v, ov] (eval i env)
      standAt p
      holding [v, ov, iv] (setItem ov iv v)
      release [v, ov, iv] []) := fun v => by
  cases i <;> first | rfl | cases hs
theorem setD_or {G H : Hp} {d kd d0 d' : D} {kv v : V} {o : HO} (h : setD kd d d0 = some d') (hk : DR k G kd kv) (hv : DR k G d v) (ho : OR k G d0 o) : ∃ ws n j, kv = .int n ∧ o = .lst ws ∧ ixN ws.length n = some j ∧ OR k G d' (.lst (ws.set j v)) := by
  cases d0 with
  | lst l =>
    cases kd with
    | int n =>
      obtain ⟨ws, rfl, r⟩ := ho
      have h' : (match ixN l.length n with | some j => some (D.lst (l.set j d)) | none => none) = some d' := h
      cases e : ixN l.length n with
      | none => rw [e] at h'; cases h'
      | some j =>
        rw [e] at h'
        cases h'
        exact ⟨ws, n, j, hk, rfl, by rw [← r.length]; exact e, ⟨_, rfl, DRs.set hv j r⟩⟩
    | _ => cases h
  | _ => cases h
/-- the target x[e] -/
theorem sg_sub {i : Nat} {x : Str} {e : Expr} {p1 pos : Pos} {ti : TE} (hi : PE X (.Name x p1) (tVar i)) (he : PE X e ti) (hs : notSlice e = true) : PG X (.Subscript (.Name x p1) e pos) (gSub (tVar i) ti rSetL) := pg_sub hi he set_list (assign_sub hs)
theorem ss_setI {c cx : CE} {i : Nat} {x : Str} {e ex : Expr} {p1 p2 pos : Pos} (hi : PE X (.Name x p1) (tVar i)) (hs : notSlice ex = true) (hx : PE X ex (tE k W pg cl cx)) (h : PE X e (tE k W pg cl c)) : PS X (.Assign [.Subscript (.Name x p1) ex p2] e pos) (tS k W pg cl wl fr (.setI i cx c)) :=
  (ps_asg h (sg_sub hi hx hs) sole_sub stores_sub rfl).imp fun E σ H ⟨G, st, r, x, q⟩ => by
    simp only [runS] at x
    refine tR.first r x fun d st1 v G1 H1 e1 p1 v1 x1 => ?_
    have ho := if_tru x1
    rw [if_pos ho] at x1
    obtain ⟨a, vs, h1, h2⟩ := isOL_ok p1.rel ho
    refine ⟨.ref a, h1, ?_⟩
    refine tR.first p1.rel x1 fun kd st2 kv G2 H2 e2 p2 v2 x2 => ?_
    obtain ⟨st3, e3⟩ := opt_some x2
    obtain ⟨d0, d', o, g1, g2, g3, g4⟩ := p2.rel.chg_of e3 h1
    obtain ⟨ws, n, j, rfl, rfl, z1, z2⟩ := setD_or (H := H) g1 v2 (DR.mono p2.mono _ _ v1) g3
    refine ⟨a, ws, n, j, rfl, rfl, g2, z1, ?_⟩
    exact q .nx st3 σ G2 _ (by simp only [runS, e1, R.bind, if_pos ho, e2, e3, opt]) ((p1.trans p2).trans (g4 _ z2))
theorem pair_inv {d : D} {de : D × D} (h : pairD d = some de) : d = .tup [de.1, de.2] := by
  unfold pairD at h
  split at h
  · cases h; rfl
  · cases h
/-- x[e], y = e2 -/
theorem ss_setN {c cx : CE} {i j : Nat} {x y : Str} {e ex : Expr} {p1 p2 p3 p4 pos : Pos} {n : Nat} (hK : X.K = k.K) (hc : X.calm = true) (hi : PE X (.Name x p1) (tVar i)) (hj : PG X (.Name y p3) (gName j)) (hs : notSlice ex = true) (hx : PE X ex (tE k W pg cl cx)) (h : PE X e (tE k W pg cl c)) (ht : noTup e = true) : PS X (.Assign [.Tuple [.Subscript (.Name x p1) ex p2, .Name y p3] n p4] e pos) (tS k W pg cl wl fr (.setN i cx j c)) :=
  (ps_asg h (pg_tup hc (pgs_cons (sg_sub hi hx hs) (pgs_cons hj pgs_nil rfl) rfl) rfl rfl) sole_tup (stores_nt ht) rfl).imp fun E σ H ⟨G, st, r, x, q⟩ => by
    simp only [runS] at x
    refine tR.first r x fun d st1 v G1 H1 e1 p1 v1 x1 => ?_
    obtain ⟨de, hde⟩ := opt_ok x1
    have x1' : Xc k W σ st1 G1 H1 (if isOL st1 i then (runE pg cl cx st1).bind fun k s2 => opt (chg i (setD k de.1) s2) fun s3 => opt (putN j de.2 s3) fun s4 => R.ok Flow.nx s4 else .bad) := by
      rw [hde] at x1
      exact x1
    have ed := pair_inv hde
    subst ed
    obtain ⟨b, bs, rfl, b1, b2⟩ := v1
    obtain ⟨v0, v1, rfl, b3, b4⟩ := drs2 b2
    refine ⟨b, _, rfl, by rw [hK]; exact sqT_mono p1.rel.sub b1, rfl, v0, _, rfl, ?_⟩
    have ho := if_tru x1'
    rw [if_pos ho] at x1'
    obtain ⟨a, vs, h1, h2⟩ := isOL_ok p1.rel ho
    refine ⟨.ref a, h1, ?_⟩
    refine tR.first p1.rel x1' fun kd st2 kv G2 H2 e2 p2 v2 x2 => ?_
    obtain ⟨st3, e3⟩ := opt_some x2
    have x3 : Xc k W σ st2 G2 H2 (opt (putN j de.2 st3) fun s4 => R.ok Flow.nx s4) := by rw [e3] at x2; exact x2
    obtain ⟨st4, e4⟩ := opt_some x3
    obtain ⟨d0, d', o, g1, g2, g3, g4⟩ := p2.rel.chg_of e3 h1
    obtain ⟨ws, n, jj, rfl, rfl, z1, z2⟩ := setD_or (H := H) g1 v2 (DR.mono p2.mono _ _ b3) g3
    refine ⟨a, ws, n, jj, rfl, rfl, g2, z1, v1, [], rfl, rfl, ?_⟩
    have p3 := g4 _ z2
    obtain ⟨w1, w2, rfl⟩ := putN_inv e4
    exact q .nx _ _ G2 _ (by simp only [runS, e1, R.bind, hde, optR, if_pos ho, e2, e3, opt, e4]) (((p1.trans p2).trans p3).trans (p3.rel.put w1 w2 (DR.mono p2.mono _ _ b4)))
/-! ### a new object gets a name -/
theorem Post.putO {σ0 σ : St} {st st1 : Slots} {G H G1 H1 : Hp} {i : Nat} {d : D} {v : V} (p : Post k σ0 st G H σ st1 G1 H1) (hi : i < st1.length) (hb : ∀ d', st1[i]? ≠ some (.bo d')) (hv : vF k σ H G1 H1 st1 d v) : Post k σ0 st G H (σ.set i (some v)) (st1.set i (.ow d)) G1 H1 := by
  obtain ⟨a, o, rfl, h1, h2, h3, h4, h5⟩ := hv
  have hσ : i < σ.length := by rw [← p.rel.len]; exact hi
  have cs : ∀ j d1, ownAt (st1.set i (.ow d)) j = some d1 → (i = j ∧ d1 = d) ∨ (i ≠ j ∧ ownAt st1 j = some d1) := fun j d1 e => by
    by_cases c : i = j
    · subst c
      unfold ownAt at e
      rw [List.getElem?_set_self hi] at e
      cases e
      exact .inl ⟨rfl, rfl⟩
    · refine .inr ⟨c, ?_⟩
      unfold ownAt at e ⊢
      rw [List.getElem?_set_ne c] at e
      exact e
  have nb : ∀ j d', st[j]? = some (.bo d') → i ≠ j := fun j d' e z => by
    subst z
    obtain ⟨⟨d1, z⟩, _⟩ := p.bo i d' e
    exact hb d1 z
  refine ⟨p.mono, p.keep, p.new, fun b ⟨j, d1, z1, z2⟩ => ?_, p.dom, fun j d' e => ?_, ⟨p.rel.sub, by rw [List.length_set, List.length_set]; exact p.rel.len, fun j d1 e => ?_, fun j d1 e => ?_, fun j j' d1 d2 b z1 z2 g1 g2 => ?_⟩⟩
  · rcases cs j d1 z1 with ⟨rfl, rfl⟩ | ⟨c, z⟩
    · rw [List.getElem?_set_self hσ] at z2
      cases z2
      exact .inr h2
    · rw [List.getElem?_set_ne c] at z2
      exact p.own b ⟨j, d1, z, z2⟩
  · have c := nb j d' e
    obtain ⟨z1, z2⟩ := p.bo j d' e
    rw [List.getElem?_set_ne c, List.getElem?_set_ne c]
    exact ⟨z1, z2⟩
  · by_cases c : i = j
    · subst c
      rw [List.getElem?_set_self hi] at e
      cases e
    · rw [List.getElem?_set_ne c] at e ⊢
      exact p.rel.fr j d1 e
  · rcases cs j d1 e with ⟨rfl, rfl⟩ | ⟨c, z⟩
    · exact ⟨a, o, by rw [List.getElem?_set_self hσ], h1, h3, h5⟩
    · rw [List.getElem?_set_ne c]
      exact p.rel.ow j d1 z
  · rcases cs j d1 z1 with ⟨rfl, rfl⟩ | ⟨c, z⟩
    · rcases cs j' d2 z2 with ⟨rfl, rfl⟩ | ⟨c', z'⟩
      · rfl
      · exfalso
        rw [List.getElem?_set_self hσ] at g1
        rw [List.getElem?_set_ne c'] at g2
        cases g1
        exact h4 ⟨j', d2, z', g2⟩
    · rcases cs j' d2 z2 with ⟨rfl, rfl⟩ | ⟨c', z'⟩
      · exfalso
        rw [List.getElem?_set_self hσ] at g2
        rw [List.getElem?_set_ne c] at g1
        cases g2
        exact h4 ⟨j, d1, z, g1⟩
      · rw [List.getElem?_set_ne c] at g1
        rw [List.getElem?_set_ne c'] at g2
        exact p.rel.inj j j' d1 d2 b z z' g1 g2
theorem ss_asgO {c : CE} {i : Nat} {x : Str} {e : Expr} {pos pos' : Pos} (hs : swapsWith e (some (.Name x pos')) pos.line X.env = pure false) (hN : X.N.Nodup) (hi : X.N[i]? = some x) (hl : X.fn x = true ∨ X.env.scope.names.lookup x = some .local) (hx : Loc X.env.scope x) (h : PE X e (tF k W pg cl c)) : PS X (.Assign [.Name x pos'] e pos) (tS k W pg cl wl fr (.asgO i c)) :=
  (ps_set hN hi hx h hs hl).imp fun E σ H ⟨G, st, r, x, q⟩ => by
    simp only [runS] at x
    refine tR.first r x fun d st1 v G1 H1 e1 p1 v1 x1 => ?_
    obtain ⟨st2, e2⟩ := opt_some x1
    obtain ⟨h1, h2, rfl⟩ := putO_inv e2
    exact q .nx _ _ G1 H1 (by simp only [runS, e1, R.bind, e2, opt]) (p1.putO h1 h2 v1)
end
end DL

set_option Elab.async false
set_option linter.all false
set_option maxRecDepth 100000
set_option maxHeartbeats 4000000
namespace DL
open PySem L2 PyProof.Rows
section
variable {k : Wk} {W : WX} {pg : Pg} {cl : CallH} {X : Cx} {wl : Nat} {fr : Bool}
/-! ### for -/
section
variable {body : Slots → R Flow} {put : D → Slots → Option Slots} {x : D} {xs : List D} {s s1 s2 : Slots}
theorem forL_no (h : put x s = none) : forL body put (x :: xs) s = .bad := by simp only [forL, h]
theorem forL_nx (h : put x s = some s1) (e : body s1 = .ok .nx s2) : forL body put (x :: xs) s = forL body put xs s2 := by simp only [forL, h, e]
theorem forL_ct (h : put x s = some s1) (e : body s1 = .ok .ct s2) : forL body put (x :: xs) s = forL body put xs s2 := by simp only [forL, h, e]
theorem forL_bk (h : put x s = some s1) (e : body s1 = .ok .bk s2) : forL body put (x :: xs) s = .ok .nx s2 := by simp only [forL, h, e]
theorem forL_rt {d : D} (h : put x s = some s1) (e : body s1 = .ok (.rt d) s2) : forL body put (x :: xs) s = .ok (.rt d) s2 := by simp only [forL, h, e]
theorem forL_exc {c : Nat} {fs : List D} (h : put x s = some s1) (e : body s1 = .exc c fs s2) : forL body put (x :: xs) s = .exc c fs s2 := by simp only [forL, h, e]
theorem forL_bad (h : put x s = some s1) (e : body s1 = .bad) : forL body put (x :: xs) s = .bad := by simp only [forL, h, e]
end
theorem drop_get {α : Type} {xs : List α} {i : Nat} (h : i < xs.length) : xs.drop i = xs[i] :: xs.drop (i + 1) := List.drop_eq_getElem_cons h
theorem ss_for {t : CT} {it : CI} {b : CB} {tg iter : Expr} {body : List Stmt} {pos : Pos} (hp : PassesOwn (model X.prog X.w) X.A X.env X.xe) (hc : X.calm = true) (hi : PI X tg iter (tI k W pg cl it)) (hg : PG X tg (tG k t.sl (putT t))) (hb : PSs X body (tB k W pg cl wl fr b)) (hs : ∀ x, foldedSetIterable iter X.env x = pure x) : PS X (.For tg iter body [] pos) (tS k W pg cl wl fr (.for_ t it b)) :=
  (ps_for hp hc hi hg hb hs).imp fun E σ H ⟨G, st, r, x, q⟩ => by
    simp only [runS] at x
    refine tR.first r x fun xs st1 J G1 H1 e1 p1 v1 x1 => ?_
    have w : Walk J xs.length (fun H => Sub G1 H) (fun i H x H' => ∀ d G, xs[i]? = some d → Sub G1 G → Sub G H → ∃ G', New G H G' H' ∧ DR k G' d x) :=
      ⟨fun i H hi s => v1.goes i H hi s, fun H s => v1.stops H s, fun i H x H' hi s y d G e s0 s1 => v1.yields i H x H' d G e s0 s1 y⟩
    have q' : ∀ fl st' σ' G' H', forL (runB pg cl wl b) (putT t) xs st1 = .ok fl st' → Post k σ st1 G1 H1 σ' st' G' H' → endS k fr E σ st H σ' st' G' H' fl := fun fl st' σ' G' H' e p => q fl st' σ' G' H' (by simp only [runS, e1, R.bind]; exact e) (p1.trans p)
    refine for_it w (fun i σ' H' => ∃ st' G', Post k σ st1 G1 H1 σ' st' G' H' ∧ Xc k W σ' st' G' H' (forL (runB pg cl wl b) (putT t) (xs.drop i) st') ∧ forL (runB pg cl wl b) (putT t) xs st1 = forL (runB pg cl wl b) (putT t) (xs.drop i) st') ⟨st1, G1, Post.refl p1.rel, x1, rfl⟩ (fun i σ' H' hi ⟨st', G', p, _⟩ => p.mono.trans p.rel.sub) ?_ ?_
    · intro i xv σ' H' H'' hlt ⟨st', G', p, x', e'⟩ y
      rw [drop_get hlt] at x' e'
      obtain ⟨G2, n2, dr⟩ := y xs[i] G' (by simp [hlt]) p.mono p.rel.sub
      have p2 := p.new' n2
      cases e2 : putT t xs[i] st' with
      | none => rw [forL_no e2] at x'; exact x'.elim
      | some st2 =>
        refine ⟨G2, st', xs[i], st2, p2.rel, dr, e2, fun σ2 p3 _ => ?_⟩
        have pz := (n2.post p.rel).trans p3
        have p4 := p2.trans p3
        have xz := Xc.next pz x'
        refine ⟨G2, st2, p3.rel, ?_, fun fl st3 σ3 G3 H3 e3 p5 => ?_⟩
        · cases e3 : runB pg cl wl b st2 with
          | ok fl s => trivial
          | exc c fs s => rw [forL_exc e2 e3] at xz; exact xz
          | bad => rw [forL_bad e2 e3] at xz; exact xz
        · have e3' : runB pg cl wl b st2 = .ok fl st3 := e3
          cases fl with
          | nx =>
            rw [forL_nx e2 e3'] at xz e'
            exact ⟨st3, G3, p4.trans p5, Xc.next p5 xz, e'⟩
          | ct =>
            rw [forL_ct e2 e3'] at xz e'
            exact ⟨st3, G3, p4.trans p5, Xc.next p5 xz, e'⟩
          | bk =>
            rw [forL_bk e2 e3'] at e'
            exact q' .nx st3 σ3 G3 H3 e' (p4.trans p5)
          | rt d =>
            rw [forL_rt e2 e3'] at e'
            exact (q' (.rt d) st3 σ3 G3 H3 e' (p4.trans p5)).back (p1.trans p4)
    · intro σ' H' ⟨st', G', p, x', e'⟩
      rw [List.drop_length] at e'
      exact q' .nx st' σ' G' H' e' p
/-! ### while -/
section
variable {test : Slots → R Bool} {body : Slots → R Flow} {n : Nat} {s s1 s2 : Slots}
theorem whileL_t (h : test s = .ok true s1) (e : body s1 = .ok .nx s2 ∨ body s1 = .ok .ct s2) : whileL test body (n + 1) s = whileL test body n s2 := by
  rcases e with e | e <;> simp only [whileL, h, e]
theorem whileL_f (h : test s = .ok false s1) : whileL test body (n + 1) s = .ok .nx s1 := by simp only [whileL, h]
theorem whileL_bk (h : test s = .ok true s1) (e : body s1 = .ok .bk s2) : whileL test body (n + 1) s = .ok .nx s2 := by simp only [whileL, h, e]
theorem whileL_rt {d : D} (h : test s = .ok true s1) (e : body s1 = .ok (.rt d) s2) : whileL test body (n + 1) s = .ok (.rt d) s2 := by simp only [whileL, h, e]
theorem whileL_exc {c : Nat} {fs : List D} (h : test s = .ok true s1) (e : body s1 = .exc c fs s2) : whileL test body (n + 1) s = .exc c fs s2 := by simp only [whileL, h, e]
theorem whileL_bad (h : test s = .ok true s1) (e : body s1 = .bad) : whileL test body (n + 1) s = .bad := by simp only [whileL, h, e]
theorem whileL_texc {c : Nat} {fs : List D} (h : test s = .exc c fs s1) : whileL test body (n + 1) s = .exc c fs s1 := by simp only [whileL, h]
theorem whileL_tbad (h : test s = .bad) : whileL test body (n + 1) s = .bad := by simp only [whileL, h]
end
theorem ss_while {c : CE} {b : CB} {e : Expr} {body : List Stmt} {pos : Pos} (hp : PassesOwn (model X.prog X.w) X.A X.env X.xe) (hc : PT X e (tT k W pg cl c)) (hb : PSs X body (tB k W pg cl wl fr b)) : PS X (.While e body [] pos) (tS k W pg cl wl fr (.whl c b)) :=
  (ps_while hp hc hb).imp fun E σ H ⟨G, st, r, x, q⟩ => by
    simp only [runS] at x
    have q' : ∀ fl st' σ' G' H', whileL (fun s => toB (runE pg cl c s)) (runB pg cl wl b) wl st = .ok fl st' → Post k σ st G H σ' st' G' H' → endS k fr E σ st H σ' st' G' H' fl := fun fl st' σ' G' H' e p => q fl st' σ' G' H' (by simp only [runS]; exact e) p
    refine ⟨fun m σ' H' => ∃ st' G', Post k σ st G H σ' st' G' H' ∧ Xc k W σ' st' G' H' (whileL (fun s => toB (runE pg cl c s)) (runB pg cl wl b) m st') ∧ whileL (fun s => toB (runE pg cl c s)) (runB pg cl wl b) wl st = whileL (fun s => toB (runE pg cl c s)) (runB pg cl wl b) m st', ⟨wl, st, G, Post.refl r, x, rfl⟩, ?_⟩
    intro m σ' H' ⟨st', G', p, x', e'⟩
    cases m with
    | zero => exact x'.elim
    | succ m =>
      refine ⟨G', st', p.rel, ?_, fun b0 st1 v G1 H1 e1 p1 v1 => ?_⟩
      · show Xc k W σ' st' G' H' (toB (runE pg cl c st'))
        cases e1 : toB (runE pg cl c st') with
        | ok b0 s => trivial
        | exc a fs s => rw [whileL_texc e1] at x'; exact x'
        | bad => rw [whileL_tbad e1] at x'; exact x'
      · cases v1
        have x1 := Xc.next p1 x'
        have p2 := p.trans p1
        cases b0 with
        | false =>
          rw [if_neg (by simp)]
          rw [whileL_f e1] at e'
          exact q' .nx st1 σ' G1 H1 e' p2
        | true =>
          rw [if_pos rfl]
          refine ⟨fun σ' H' => ∃ st' G', Post k σ st G H σ' st' G' H' ∧ Xc k W σ' st' G' H' (whileL (fun s => toB (runE pg cl c s)) (runB pg cl wl b) m st') ∧ whileL (fun s => toB (runE pg cl c s)) (runB pg cl wl b) wl st = whileL (fun s => toB (runE pg cl c s)) (runB pg cl wl b) m st', fun σ3 H3 h3 => ⟨m, Nat.lt_succ_self m, h3⟩, G1, st1, p1.rel, ?_, fun fl st3 σ3 G3 H3 e3 p5 => ?_⟩
          · cases e3 : runB pg cl wl b st1 with
            | ok fl s => trivial
            | exc a fs s => rw [whileL_exc e1 e3] at x1; exact x1
            | bad => rw [whileL_bad e1 e3] at x1; exact x1
          · have e3' : runB pg cl wl b st1 = .ok fl st3 := e3
            cases fl with
            | nx =>
              rw [whileL_t e1 (.inl e3')] at x1 e'
              exact ⟨st3, G3, p2.trans p5, Xc.next p5 x1, e'⟩
            | ct =>
              rw [whileL_t e1 (.inr e3')] at x1 e'
              exact ⟨st3, G3, p2.trans p5, Xc.next p5 x1, e'⟩
            | bk =>
              rw [whileL_bk e1 e3'] at e'
              exact q' .nx st3 σ3 G3 H3 e' (p2.trans p5)
            | rt d =>
              rw [whileL_rt e1 e3'] at e'
              exact (q' (.rt d) st3 σ3 G3 H3 e' (p2.trans p5)).back p2
/-! ### return of one's own object -/
theorem ss_retM {i : Nat} {x : Str} {p1 pos : Pos} (hi : PE X (.Name x p1) (tVar i)) : PS X (.Return (some (.Name x p1)) pos) (tS k W pg cl wl true (.retM i)) :=
  (ps_ret hi).imp fun E σ H ⟨G, st, r, x, q⟩ => by
    have x' : Xc k W σ st G H (match st[i]? with | some (.ow d) => R.ok (Flow.rt d) (st.set i .no) | _ => .bad) := by
      have z := x
      simp only [runS] at z
      exact z
    cases e : st[i]? with
    | none => rw [e] at x'; exact x'.elim
    | some s =>
      rw [e] at x'
      cases s with
      | ow d =>
        obtain ⟨a, o, h1, h2, h3, h4⟩ := r.ow i d (ownAt_ow e)
        have hl := lt_of_get e
        have ne : ∀ j d', ownAt (st.set i .no) j = some d' → i ≠ j ∧ ownAt st j = some d' := fun j d' z => by
          by_cases c : i = j
          · subst c
            unfold ownAt at z
            rw [List.getElem?_set_self hl] at z
            cases z
          · refine ⟨c, ?_⟩
            unfold ownAt at z ⊢
            rw [List.getElem?_set_ne c] at z
            exact z
        have p : Post k σ st G H σ (st.set i .no) G H := by
          refine ⟨Sub.refl G, fun _ _ h _ => h, fun _ _ h => .inl h, fun b ⟨j, d', z1, z2⟩ => .inl ⟨j, d', (ne j d' z1).2, z2⟩, fun _ h => h, fun j d' z => ?_, ⟨r.sub, by rw [List.length_set]; exact r.len, fun j d' z => ?_, fun j d' z => r.ow j d' (ne j d' z).2, fun j j' d1 d2 b z1 z2 => r.inj j j' d1 d2 b (ne j d1 z1).2 (ne j' d2 z2).2⟩⟩
          · have c : i ≠ j := fun z' => by subst z'; rw [e] at z; cases z
            exact ⟨⟨d', by rw [List.getElem?_set_ne c]; exact z⟩, rfl⟩
          · by_cases c : i = j
            · subst c
              rw [List.getElem?_set_self hl] at z
              cases z
            · rw [List.getElem?_set_ne c] at z
              exact r.fr j d' z
        refine ⟨.ref a, h1, q (.rt d) (st.set i .no) σ G H ?_ p (.ref a) ⟨a, o, rfl, h2, h3, fun ⟨j, d', z1, z2⟩ => ?_, h4, .inr ⟨i, d, ownAt_ow e, h1⟩⟩⟩
        · simp only [runS, e]
        · obtain ⟨c, z⟩ := ne j d' z1
          exact c (r.inj i j d d' a (ownAt_ow e) z h1 z2)
      | _ => exact x'.elim
/-! ### a, b = x, y -/
def freshV : List Bool → List V → List V
  | true :: fs, v :: vs => v :: freshV fs vs
  | false :: fs, _ :: vs => freshV fs vs
  | _, _ => []
def PVs (k : Wk) (σ : St) (H0 G H : Hp) (st : Slots) : List Bool → List D → List V → Prop
  | [], ds, vs => ds = [] ∧ vs = []
  | f :: fs, ds, vs => ∃ d dr v vr, ds = d :: dr ∧ vs = v :: vr ∧ (if f = true then vF k σ H0 G H st d v ∧ ∀ u ∈ freshV fs vr, u ≠ v else DR k G d v) ∧ PVs k σ H0 G H st fs dr vr
def tV (k : Wk) (W : WX) (pg : Pg) (cl : CallH) (fs : List Bool) (l : CL) : TA := fun σ H => tR k W (runL pg cl l) (fun G1 H1 st1 ds vs => PVs k σ H G1 H1 st1 fs ds vs) σ H
theorem vF.step {σ : St} {st1 st2 : Slots} {H0 G1 H1 G2 H2 : Hp} {d : D} {v : V} (h : vF k σ H0 G1 H1 st1 d v) (p : Post k σ st1 G1 H1 σ st2 G2 H2) : vF k σ H0 G2 H2 st2 d v := by
  obtain ⟨a, o, e, h1, h2, h3, h4, h5⟩ := h
  refine ⟨a, o, e, p.keep a o h1 h4, h2, ?_, fun c => ?_, OR.mono p.mono h5⟩
  · cases e2 : G2 a with
    | none => rfl
    | some u =>
      rcases p.new a u e2 with z | z | z
      · rw [h3] at z; cases z
      · rw [h1] at z; cases z
      · exact absurd z h4
  · rcases p.own a c with z | z
    · exact h4 z
    · rw [h1] at z; cases z
theorem PVs.base {σ : St} {st1 : Slots} {H0 H1 G2 H2 : Hp} (m : ∀ a, H1 a = none → H0 a = none) : ∀ {fs : List Bool} {ds : List D} {vs : List V}, PVs k σ H1 G2 H2 st1 fs ds vs → PVs k σ H0 G2 H2 st1 fs ds vs
  | [], ds, vs, h => h
  | f :: fs, ds, vs, h => by
    obtain ⟨d, dr, v, vr, e1, e2, h1, h2⟩ := h
    refine ⟨d, dr, v, vr, e1, e2, ?_, PVs.base m h2⟩
    cases f with
    | false => exact h1
    | true =>
      rw [if_pos rfl] at h1 ⊢
      obtain ⟨⟨a, o, e, g1, g2, g3, g4, g5⟩, h1'⟩ := h1
      exact ⟨⟨a, o, e, g1, m a g2, g3, g4, g5⟩, h1'⟩
theorem PVs.fresh {σ : St} {st1 : Slots} {H1 G2 H2 : Hp} : ∀ {fs : List Bool} {ds : List D} {vs : List V}, PVs k σ H1 G2 H2 st1 fs ds vs → ∀ u ∈ freshV fs vs, ∃ a, u = .ref a ∧ H1 a = none
  | [], ds, vs, h, u, hu => by cases vs <;> cases hu
  | f :: fs, ds, vs, h, u, hu => by
    obtain ⟨d, dr, v, vr, e1, e2, h1, h2⟩ := h
    subst e2
    cases f with
    | false => exact PVs.fresh h2 u hu
    | true =>
      rw [if_pos rfl] at h1
      rcases List.mem_cons.mp hu with rfl | hu
      · obtain ⟨⟨a, o, e, g1, g2, _⟩, _⟩ := h1
        exact ⟨a, e, g2⟩
      · exact PVs.fresh h2 u hu
theorem sv_nil : PA X [] (tV k W pg cl [] .nil) := pa_nil.imp fun σ H Q ⟨G, st, r, x, q⟩ => q [] st [] G H (by simp only [runL]) (Post.refl r) ⟨rfl, rfl⟩
theorem cons_run {c : CE} {l : CL} {st : Slots} : runL pg cl (.cons c l) st = (runE pg cl c st).bind fun d s1 => (runL pg cl l s1).bind fun ds s2 => .ok (d :: ds) s2 := by simp only [runL]
theorem sv_cons {c : CE} {l : CL} {e : Expr} {es : List Expr} {fs : List Bool} (hs : noStar e = true) (h : PE X e (tE k W pg cl c)) (hr : PA X es (tV k W pg cl fs l)) : PA X (e :: es) (tV k W pg cl (false :: fs) (.cons c l)) :=
  (pa_cons h hr (star_no hs)).imp fun σ H Q ⟨G, st, r, x, q⟩ => by
    have x' := x
    rw [cons_run] at x'
    refine tR.first r x' fun d st1 v G1 H1 e1 p1 v1 x1 => ?_
    refine tR.first p1.rel x1 fun ds st2 vs G2 H2 e2 p2 v2 x2 => ?_
    refine q (d :: ds) st2 (v :: vs) G2 H2 ?_ (p1.trans p2) ⟨d, ds, v, vs, rfl, rfl, ?_, PVs.base p1.dom v2⟩
    · rw [cons_run, e1]
      simp only [R.bind, e2]
    · rw [if_neg (by simp)]
      exact DR.mono p2.mono _ _ v1
theorem sv_consF {c : CE} {l : CL} {e : Expr} {es : List Expr} {fs : List Bool} (hs : noStar e = true) (h : PE X e (tF k W pg cl c)) (hr : PA X es (tV k W pg cl fs l)) : PA X (e :: es) (tV k W pg cl (true :: fs) (.cons c l)) :=
  (pa_cons h hr (star_no hs)).imp fun σ H Q ⟨G, st, r, x, q⟩ => by
    have x' := x
    rw [cons_run] at x'
    refine tR.first r x' fun d st1 v G1 H1 e1 p1 v1 x1 => ?_
    refine tR.first p1.rel x1 fun ds st2 vs G2 H2 e2 p2 v2 x2 => ?_
    refine q (d :: ds) st2 (v :: vs) G2 H2 ?_ (p1.trans p2) ⟨d, ds, v, vs, rfl, rfl, ?_, PVs.base p1.dom v2⟩
    · rw [cons_run, e1]
      simp only [R.bind, e2]
    · rw [if_pos rfl]
      refine ⟨v1.step p2, fun u hu z => ?_⟩
      obtain ⟨a, e3, h3⟩ := PVs.fresh v2 u hu
      obtain ⟨b, o, e4, h4, _⟩ := v1
      subst z
      rw [e4] at e3
      cases e3
      rw [h4] at h3
      cases h3
/-- the value's own kind -/
def VK1 (k : Wk) (σ : St) (H0 G H : Hp) (st : Slots) (f : Bool) (d : D) (v : V) : Prop := if f = true then vF k σ H0 G H st d v else DR k G d v
def put1 (f : Bool) (i : Nat) (d : D) (s : Slots) : Option Slots := if f then putO i d s else putN i d s
theorem Post.put1 {σ0 σ : St} {st st1 st2 : Slots} {G H G1 H1 : Hp} {i : Nat} {f : Bool} {d : D} {v : V} (p : Post k σ0 st G H σ st1 G1 H1) (h : VK1 k σ H G1 H1 st1 f d v) (e : DL.put1 f i d st1 = some st2) : Post k σ0 st G H (σ.set i (some v)) st2 G1 H1 := by
  cases f with
  | true =>
    obtain ⟨g1, g2, rfl⟩ := putO_inv (show DL.putO i d st1 = some st2 from e)
    exact p.putO g1 g2 (show vF k σ H G1 H1 st1 d v from h)
  | false =>
    obtain ⟨g1, g2, rfl⟩ := putN_inv (show DL.putN i d st1 = some st2 from e)
    exact p.trans (p.rel.put g1 g2 (show DR k G1 d v from h))
theorem VK1.put {σ : St} {st st2 : Slots} {H0 G H : Hp} {d d' : D} {v w : V} {i : Nat} {f g : Bool} (h : VK1 k σ H0 G H st g d v) (hne : f = true → g = true → v ≠ w) (hl : st.length = σ.length) (e : DL.put1 f i d' st = some st2) : VK1 k (σ.set i (some w)) H0 G H st2 g d v := by
  cases g with
  | false => exact h
  | true =>
    obtain ⟨a, o, ea, h1, h2, h3, h4, h5⟩ := (show vF k σ H0 G H st d v from h)
    refine (show vF k (σ.set i (some w)) H0 G H st2 d v from ⟨a, o, ea, h1, h2, h3, fun ⟨j, d1, z1, z2⟩ => ?_, h5⟩)
    have hi : i < st.length ∧ (st2 = st.set i (.ow d') ∧ f = true ∨ st2 = st.set i (.fr d')) := by
      cases f with
      | true => obtain ⟨g1, _, g2⟩ := putO_inv (show putO i d' st = some st2 from e); exact ⟨g1, .inl ⟨g2, rfl⟩⟩
      | false => obtain ⟨g1, _, g2⟩ := putN_inv (show putN i d' st = some st2 from e); exact ⟨g1, .inr g2⟩
    by_cases c : i = j
    · subst c
      rcases hi with ⟨hi, ⟨rfl, hf⟩ | rfl⟩
      · rw [List.getElem?_set_self (by rw [← hl]; exact hi)] at z2
        subst ea
        cases z2
        exact hne hf rfl rfl
      · unfold ownAt at z1
        rw [List.getElem?_set_self hi] at z1
        cases z1
    · rw [List.getElem?_set_ne c] at z2
      have z3 : ownAt st j = some d1 := by
        unfold ownAt at z1 ⊢
        rcases hi with ⟨hi, ⟨rfl, hf⟩ | rfl⟩ <;> (rw [List.getElem?_set_ne c] at z1; exact z1)
      exact h4 ⟨j, d1, z3, z2⟩
theorem putPar2 {i j : Nat} {f g : Bool} {d d2 : D} {s s' : Slots} (h : putPar [(i, f), (j, g)] [d, d2] s = some s') : ∃ s1, put1 f i d s = some s1 ∧ put1 g j d2 s1 = some s' := by
  simp only [putPar] at h
  cases e : (if f = true then putO i d s else putN i d s) with
  | none => rw [e] at h; cases h
  | some s1 =>
    rw [e] at h
    refine ⟨s1, e, ?_⟩
    cases e2 : (if g = true then putO j d2 s1 else putN j d2 s1) with
    | none => simp only [e2] at h; cases h
    | some s2 => simp only [e2] at h; cases h; exact e2
theorem PVs2 {σ : St} {H0 G H : Hp} {st : Slots} {f g : Bool} {ds : List D} {vs : List V} (h : PVs k σ H0 G H st [f, g] ds vs) : ∃ d d2 v v2, ds = [d, d2] ∧ vs = [v, v2] ∧ VK1 k σ H0 G H st f d v ∧ VK1 k σ H0 G H st g d2 v2 ∧ (f = true → g = true → v2 ≠ v) := by
  obtain ⟨d, dr, v, vr, rfl, rfl, h1, d2, dr2, v2, vr2, rfl, rfl, h2, rfl, rfl⟩ := h
  refine ⟨d, d2, v, v2, rfl, rfl, ?_, ?_, fun hf hg => ?_⟩
  · cases f with
    | true => exact h1.1
    | false => exact h1
  · cases g with
    | true => exact h2.1
    | false => exact h2
  · subst hf hg
    exact h1.2 v2 (List.mem_cons_self ..)
theorem ss_par2 {l : CL} {i j : Nat} {f g : Bool} {x y : Str} {a b : Expr} {px py pt pt2 pos : Pos} {kt k2 : Nat} (hc : X.calm = true) (hN : X.N.Nodup) (hi : X.N[i]? = some x) (hj : X.N[j]? = some y) (hij : i ≠ j)
    (hx : X.env.scope.names.lookup x = some .local) (hy : X.env.scope.names.lookup y = some .local) (ha : PA X [a, b] (tV k W pg cl [f, g] l)) (hw : swappedStores [.Tuple [.Name x px, .Name y py] kt pt] (.Tuple [a, b] k2 pt2) X.env = pure (some [x, y])) :
    PS X (.Assign [.Tuple [.Name x px, .Name y py] kt pt] (.Tuple [a, b] k2 pt2) pos) (tS k W pg cl wl fr (.par [(i, f), (j, g)] l)) :=
  (ps_par hc hN hi hj hij hx hy ha hw rfl).imp fun E σ H ⟨G, st, r, xx, q⟩ => by
    simp only [runS] at xx
    refine tR.first r xx fun ds st1 vs G1 H1 e1 p1 v1 x1 => ?_
    obtain ⟨st2, e2⟩ := opt_some x1
    obtain ⟨d, d2, v, v2, rfl, rfl, h1, h2, hn⟩ := PVs2 v1
    refine ⟨v, v2, rfl, ?_⟩
    obtain ⟨s1, g1, g2⟩ := putPar2 e2
    exact q .nx st2 _ G1 H1 (by simp only [runS, e1, R.bind, e2, opt]) ((p1.put1 h1 g1).put1 (h2.put hn p1.rel.len g1) g2)
theorem VK1.step {σ : St} {st1 st2 : Slots} {H0 G1 H1 G2 H2 : Hp} {f : Bool} {d : D} {v : V} (h : VK1 k σ H0 G1 H1 st1 f d v) (p : Post k σ st1 G1 H1 σ st2 G2 H2) : VK1 k σ H0 G2 H2 st2 f d v := by
  cases f with
  | true => exact vF.step (show vF k σ H0 G1 H1 st1 d v from h) p
  | false => exact DR.mono p.mono _ _ (show DR k G1 d v from h)
theorem putPar3 {i j l : Nat} {f g h3 : Bool} {d d2 d3 : D} {s s' : Slots} (h : putPar [(i, f), (j, g), (l, h3)] [d, d2, d3] s = some s') : ∃ s1 s2, put1 f i d s = some s1 ∧ put1 g j d2 s1 = some s2 ∧ put1 h3 l d3 s2 = some s' := by
  simp only [putPar] at h
  cases e : (if f = true then putO i d s else putN i d s) with
  | none => rw [e] at h; cases h
  | some s1 =>
    rw [e] at h
    refine ⟨s1, ?_⟩
    cases e2 : (if g = true then putO j d2 s1 else putN j d2 s1) with
    | none => simp only [e2] at h; cases h
    | some s2 =>
      simp only [e2] at h
      refine ⟨s2, e, e2, ?_⟩
      cases e3 : (if h3 = true then putO l d3 s2 else putN l d3 s2) with
      | none => simp only [e3] at h; cases h
      | some s3 => simp only [e3] at h; cases h; exact e3
theorem PVs3 {σ : St} {H0 G H : Hp} {st : Slots} {f g h : Bool} {ds : List D} {vs : List V} (p : PVs k σ H0 G H st [f, g, h] ds vs) : ∃ d d2 d3 v v2 v3, ds = [d, d2, d3] ∧ vs = [v, v2, v3] ∧ VK1 k σ H0 G H st f d v ∧ VK1 k σ H0 G H st g d2 v2 ∧ VK1 k σ H0 G H st h d3 v3 ∧ (f = true → g = true → v2 ≠ v) ∧ (f = true → h = true → v3 ≠ v) ∧ (g = true → h = true → v3 ≠ v2) := by
  obtain ⟨d, dr, v, vr, rfl, rfl, h1, d2, dr2, v2, vr2, rfl, rfl, h2, d3, dr3, v3, vr3, rfl, rfl, h3, rfl, rfl⟩ := p
  refine ⟨d, d2, d3, v, v2, v3, rfl, rfl, ?_, ?_, ?_, fun hf hg => ?_, fun hf hg => ?_, fun hf hg => ?_⟩
  · cases f with
    | true => exact h1.1
    | false => exact h1
  · cases g with
    | true => exact h2.1
    | false => exact h2
  · cases h with
    | true => exact h3.1
    | false => exact h3
  · subst hf hg
    exact h1.2 v2 (List.mem_cons_self ..)
  · subst hf hg
    cases g with
    | true => exact h1.2 v3 (List.mem_cons_of_mem _ (List.mem_cons_self ..))
    | false => exact h1.2 v3 (List.mem_cons_self ..)
  · subst hf hg
    exact h2.2 v3 (List.mem_cons_self ..)
theorem ss_par3 {l : CL} {i j m : Nat} {f g h : Bool} {x y z : Str} {a b c : Expr} {px py pz pt pt2 pos : Pos} {kt k2 : Nat} (hc : X.calm = true) (hN : X.N.Nodup) (hi : X.N[i]? = some x) (hj : X.N[j]? = some y) (hm : X.N[m]? = some z) (hij : i ≠ j) (him : i ≠ m) (hjm : j ≠ m)
    (hx : X.env.scope.names.lookup x = some .local) (hy : X.env.scope.names.lookup y = some .local) (hz : X.env.scope.names.lookup z = some .local) (ha : PA X [a, b, c] (tV k W pg cl [f, g, h] l)) (hw : swappedStores [.Tuple [.Name x px, .Name y py, .Name z pz] kt pt] (.Tuple [a, b, c] k2 pt2) X.env = pure (some [x, y, z])) :
    PS X (.Assign [.Tuple [.Name x px, .Name y py, .Name z pz] kt pt] (.Tuple [a, b, c] k2 pt2) pos) (tS k W pg cl wl fr (.par [(i, f), (j, g), (m, h)] l)) :=
  (ps_par3 hc hN hi hj hm hij him hjm hx hy hz ha hw rfl).imp fun E σ H ⟨G, st, r, xx, q⟩ => by
    simp only [runS] at xx
    refine tR.first r xx fun ds st1 vs G1 H1 e1 p1 v1 x1 => ?_
    obtain ⟨st2, e2⟩ := opt_some x1
    obtain ⟨d, d2, d3, v, v2, v3, rfl, rfl, h1, h2, h3, n1, n2, n3⟩ := PVs3 v1
    refine ⟨v, v2, v3, rfl, ?_⟩
    obtain ⟨s1, s2, g1, g2, g3⟩ := putPar3 e2
    have q1 := p1.put1 h1 g1
    have h2' := h2.put n1 p1.rel.len g1
    have q2 := q1.put1 h2' g2
    have h3' := (h3.put n2 p1.rel.len g1).put n3 q1.rel.len g2
    exact q .nx st2 _ G1 H1 (by simp only [runS, e1, R.bind, e2, opt]) (q2.put1 h3' g3)
/-- .. stored from the left, through the tuple -/
theorem ss_parT {l : CL} {i j : Nat} {f g : Bool} {x y : Str} {a b : Expr} {px py pt pt2 pos : Pos} {kt k2 : Nat} (hc : X.calm = true) (hi : PG X (.Name x px) (gName i)) (hj : PG X (.Name y py) (gName j))
    (ha : PA X [a, b] (tV k W pg cl [f, g] l)) (hw : swappedStores [.Tuple [.Name x px, .Name y py] kt pt] (.Tuple [a, b] k2 pt2) X.env = pure none) :
    PS X (.Assign [.Tuple [.Name x px, .Name y py] kt pt] (.Tuple [a, b] k2 pt2) pos) (tS k W pg cl wl fr (.par [(i, f), (j, g)] l)) :=
  (ps_asg (pe_tup ha) (pg_tup hc (pgs_cons hi (pgs_cons hj pgs_nil rfl) rfl) rfl rfl) sole_tup hw rfl).imp fun E σ H ⟨G, st, r, xx, q⟩ => by
    simp only [runS] at xx
    refine tR.first r xx fun ds st1 vs G1 H1 e1 p1 v1 x1 => ?_
    obtain ⟨st2, e2⟩ := opt_some x1
    obtain ⟨d, d2, v, v2, rfl, rfl, h1, h2, hn⟩ := PVs2 v1
    refine ⟨by show 2 ≤ sizeLine; decide, fun p hp => ⟨p, [v, v2], rfl, .inl (.inl upd_same), rfl, v, [v2], rfl, v2, [], rfl, rfl, ?_⟩⟩
    obtain ⟨s1, g1, g2⟩ := putPar2 e2
    have n := New.putH (o := .tup [v, v2]) p1.rel.sub hp
    have p2 := p1.new' n
    have h1' := h1.step (n.post p1.rel)
    have h2' := h2.step (n.post p1.rel)
    exact q .nx st2 _ G1 _ (by simp only [runS, e1, R.bind, e2, opt]) ((p2.put1 h1' g1).put1 (h2'.put hn p1.rel.len g1) g2)
/-! ### attributes -/
structure ClsD (k : Wk) (n : Nat) : Prop where
  mem : n ∈ k.cs
  cls : Cls k.K (k.ca n)
  no : ∀ f ∈ k.cf n, NoAttr k.K (k.ca n) f
  nd : (k.cf n).Nodup
  few : (k.cf n).length < 1000
theorem lookup_at : ∀ {kvs : List (Str × V)} {ns : List Str} {j : Nat} {f : Str}, kvs.map (·.1) = ns → ns.Nodup → ns[j]? = some f → kvs.lookup f = (kvs.map (·.2))[j]?
  | [], ns, j, f, h, nd, e => by
    have z : ns = [] := h.symm
    subst z
    cases e
  | (g, x) :: r, ns, 0, f, h, nd, e => by
    subst h
    cases e
    simp [List.lookup]
  | (g, x) :: r, ns, j + 1, f, h, nd, e => by
    subst h
    rw [List.map_cons] at nd e
    have e' : (r.map (·.1))[j]? = some f := e
    have ne : f ≠ g := fun z => by
      subst z
      exact (List.nodup_cons.mp nd).1 (List.mem_of_getElem? e')
    have b : (f == g) = false := by simpa using ne
    show List.lookup f ((g, x) :: r) = (r.map (·.2))[j]?
    rw [List.lookup_cons, b]
    exact lookup_at rfl (List.nodup_cons.mp nd).2 e'
theorem se_fld {e : Expr} {f : Str} {o : CP} {n j : Nat} {pos : Pos} (hK : X.K = k.K) (C : ClsD k n) (hf : (k.cf n)[j]? = some f) (hb : noCall0 e = true) (he : PE X e (tP k W pg cl o)) : PE X (.Attribute e f pos) (tE k W pg cl (.prim (.fld n j) (.cons o .nil))) :=
  se_one ((pe_fld he (base_ok hb _ _)).imp fun σ H Q h => tP_imp h fun v H1 z => by
    obtain ⟨G, ds, d, sb, pr, e, q⟩ := z
    obtain ⟨x, rfl, h1⟩ := pr.one_inv
    change fldP n j [x] = some d at e
    cases x with
    | obj c l =>
      have e' : (if c = n then l[j]? else none) = some d := e
      split at e'
      · rename_i hc
        subst hc
        have go : ∀ kvs : List (Str × V), kvs.map (·.1) = (k.cf c).take l.length → DRs k G l (kvs.map (·.2)) → ∃ w, kvs.lookup f = some w ∧ DR k G d w := fun kvs e1 r => by
          obtain ⟨w, w1, w2⟩ := DRs.get r e'
          refine ⟨w, ?_, w2⟩
          have hj := lt_of_get e'
          rw [lookup_at e1 (List.Sublist.nodup (List.take_sublist _ _) C.nd) (by rw [List.getElem?_take, if_pos hj]; exact hf)]
          exact w1
        rcases h1 with ⟨_, a, dx, kvs, e1, e2, e3, e4⟩ | ⟨a, u, e1, e2, _, dx, kvs, e5, e3, e4⟩
        · obtain ⟨w, w1, w2⟩ := go kvs e3 e4
          exact ⟨a, k.ca c, dx, kvs, w, e1, sb _ _ e2, by rw [hK]; exact C.cls, by rw [hK]; exact C.no f (List.mem_of_getElem? hf), w1, fin_same sb w2 q⟩
        · subst e5
          obtain ⟨w, w1, w2⟩ := go kvs e3 e4
          exact ⟨a, k.ca c, dx, kvs, w, e1, e2, by rw [hK]; exact C.cls, by rw [hK]; exact C.no f (List.mem_of_getElem? hf), w1, fin_same sb w2 q⟩
      · cases e'
    | _ => cases e)
theorem putF_set : ∀ {kvs : List (Str × V)} {ns : List Str} {j : Nat} {f : Str} {v : V}, kvs.map (·.1) = ns → ns.Nodup → ns[j]? = some f → (putF f v kvs).map (·.1) = ns ∧ (putF f v kvs).map (·.2) = (kvs.map (·.2)).set j v
  | [], ns, j, f, v, h, nd, e => by
    have z : ns = [] := h.symm
    subst z
    cases e
  | (g, x) :: r, ns, 0, f, v, h, nd, e => by
    subst h
    cases e
    show (if g = g then (g, v) :: r else _).map _ = _ ∧ _
    constructor <;> simp [putF]
  | (g, x) :: r, ns, j + 1, f, v, h, nd, e => by
    subst h
    rw [List.map_cons] at nd e
    have e' : (r.map (·.1))[j]? = some f := e
    have ne : g ≠ f := fun z => by
      subst z
      exact (List.nodup_cons.mp nd).1 (List.mem_of_getElem? e')
    obtain ⟨h1, h2⟩ := putF_set (v := v) (kvs := r) rfl (List.nodup_cons.mp nd).2 e'
    have z : putF f v ((g, x) :: r) = (g, x) :: putF f v r := by simp [putF, ne]
    rw [z, List.map_cons, List.map_cons, List.map_cons, List.map_cons, h1, h2]
    exact ⟨rfl, rfl⟩
theorem putF_new : ∀ {kvs : List (Str × V)} {f : Str} {v : V}, f ∉ kvs.map (·.1) → putF f v kvs = kvs ++ [(f, v)]
  | [], f, v, h => rfl
  | (g, x) :: r, f, v, h => by
    rw [List.map_cons, List.mem_cons, not_or] at h
    have ne : g ≠ f := fun z => h.1 z.symm
    have z : putF f v ((g, x) :: r) = (g, x) :: putF f v r := by simp [putF, ne]
    rw [z, putF_new h.2]
    rfl
theorem take_last {α : Type} {l : List α} {n : Nat} {x : α} (h : l[n]? = some x) : l.take (n + 1) = l.take n ++ [x] := by
  rw [List.take_add_one, h]
  rfl
theorem ss_setF {c : CE} {i n j : Nat} {x f : Str} {e : Expr} {p1 p2 pos : Pos} (hK : X.K = k.K) (C : ClsD k n) (hf : (k.cf n)[j]? = some f) (hi : PE X (.Name x p1) (tVar i)) (h : PE X e (tE k W pg cl c)) : PS X (.Assign [.Attribute (.Name x p1) f p2] e pos) (tS k W pg cl wl fr (.setF i n j c)) :=
  (ps_fld hi h swaps_att).imp fun E σ H ⟨G, st, r, x, q⟩ => by
    simp only [runS] at x
    refine tR.first r x fun d st1 v G1 H1 e1 p1 v1 x1 => ?_
    obtain ⟨st2, e2⟩ := opt_some x1
    obtain ⟨y, d0, d', z1, z2, z3, z4⟩ := chg_inv e2
    have ow0 : ownAt st1 i = some d0 := by unfold ownAt; rw [z1]; exact z2
    obtain ⟨a, o, h1, h2, h3, h4⟩ := p1.rel.ow i d0 ow0
    have z3' : setFD n j d d0 = some d' := z3
    cases d0 with
    | obj c0 l =>
      obtain ⟨hm, dx, kvs, rfl, g1, g2⟩ := h4
      have z5 : (if c0 = n then (if j < l.length then some (D.obj c0 (l.set j d)) else if j = l.length then some (D.obj c0 (l ++ [d])) else none) else none) = some d' := z3'
      split at z5
      · rename_i hc
        subst hc
        have hl2 : kvs.length = l.length := by
          have z := g2.length
          rw [List.length_map] at z
          exact z.symm
        have few : kvs.length < 1000 := by
          have z := congrArg List.length g1
          rw [List.length_map, List.length_take] at z
          have := C.few
          omega
        have fin : ∀ o', OR k G1 d' o' → o' = .ins (k.ca c0) dx (putF f v kvs) → E.nx σ (upd H1 a o') := fun o' ho _ =>
          q .nx st2 σ G1 _ (by simp only [runS, e1, R.bind, e2, opt]) (p1.trans (by rw [z4]; exact p1.rel.chg z1 z2 h1 ho))
        refine ⟨.ref a, h1, a, k.ca c0, dx, kvs, rfl, h2, by rw [hK]; exact C.cls, by rw [hK]; exact C.no f (List.mem_of_getElem? hf), few, fin _ ?_ rfl⟩
        split at z5
        · rename_i hj
          cases z5
          obtain ⟨w1, w2⟩ := putF_set (v := v) g1 (List.Sublist.nodup (List.take_sublist _ _) C.nd) (j := j) (f := f) (by rw [List.getElem?_take, if_pos hj]; exact hf)
          refine ⟨C.mem, dx, _, rfl, ?_, ?_⟩
          · rw [w1, List.length_set]
          · rw [w2]; exact DRs.set v1 j g2
        · split at z5
          · rename_i hj
            cases z5
            have nf : f ∉ kvs.map (·.1) := fun hm => by
              rw [g1] at hm
              obtain ⟨m, hm⟩ := List.mem_iff_getElem?.mp hm
              rw [List.getElem?_take] at hm
              split at hm
              · rename_i hlt
                have h1 := (List.getElem?_eq_some_iff.mp hm)
                have h2 := (List.getElem?_eq_some_iff.mp hf)
                obtain ⟨a1, a2⟩ := h1
                obtain ⟨b1, b2⟩ := h2
                have := (List.getElem_inj C.nd).mp (a2.trans b2.symm)
                omega
              · cases hm
            refine ⟨C.mem, dx, _, rfl, ?_, ?_⟩
            · rw [putF_new nf, List.map_append, g1, List.length_append, List.length_singleton, take_last (by rw [← hj]; exact hf)]
              rfl
            · rw [putF_new nf, List.map_append]
              exact DRs.append g2 (DRs.one v1)
          · cases z5
      · cases z5
    | _ => cases z3'
end
end DL

set_option Elab.async false
set_option linter.all false
set_option maxRecDepth 100000
set_option maxHeartbeats 4000000
namespace DL
open PySem L2 PyProof.Rows
theorem wipeS_len (st : Slots) : ∀ vs : List Nat, (wipeS st vs).length = st.length
  | [] => rfl
  | v :: vs => by unfold wipeS; rw [List.length_set, wipeS_len st vs]
theorem wipeS_get (st : Slots) (i : Nat) : ∀ vs : List Nat, (wipeS st vs)[i]? = if i ∈ vs then (st[i]?).map (fun _ => Sl.no) else st[i]?
  | [] => by simp [wipeS]
  | v :: vs => by
    unfold wipeS
    rw [List.getElem?_set, wipeS_len, wipeS_get st i vs]
    by_cases c : v = i
    · subst c
      rw [if_pos rfl, if_pos (List.mem_cons_self ..)]
      by_cases h : v < st.length
      · rw [if_pos h, List.getElem?_eq_getElem h]; rfl
      · rw [if_neg h, List.getElem?_eq_none (by omega)]; rfl
    · rw [if_neg c]
      have e : (i ∈ v :: vs) = (i ∈ vs) := by simp [Ne.symm c]
      simp only [e]
theorem wipe_get (σ : St) (i : Nat) : ∀ vs : List Nat, (wipe σ vs)[i]? = if i ∈ vs then (σ[i]?).map (fun _ => none) else σ[i]?
  | [] => by simp [wipe]
  | v :: vs => by
    unfold wipe
    rw [List.getElem?_set, wipe_length, wipe_get σ i vs]
    by_cases c : v = i
    · subst c
      rw [if_pos rfl, if_pos (List.mem_cons_self ..)]
      by_cases h : v < σ.length
      · rw [if_pos h, List.getElem?_eq_getElem h]; rfl
      · rw [if_neg h, List.getElem?_eq_none (by omega)]; rfl
    · rw [if_neg c]
      have e : (i ∈ v :: vs) = (i ∈ vs) := by simp [Ne.symm c]
      simp only [e]
theorem plainS_at {s : Slots} {i : Nat} {x : Sl} : ∀ {vs : List Nat}, plainS s vs = true → i ∈ vs → s[i]? = some x → x.plain = true
  | [], _, h, _ => by cases h
  | v :: vs, h, hi, e => by
    unfold plainS at h
    rw [Bool.and_eq_true] at h
    rcases List.mem_cons.mp hi with z | z
    · subst z
      rw [e] at h
      exact h.1
    · exact plainS_at h.2 z e
theorem wipeP_inv {own : List Nat} {s s' : Slots} (h : wipeP own s = some s') : plainS s own = true ∧ s' = wipeS s own := by
  unfold wipeP at h
  split at h
  · cases h; exact ⟨by assumption, rfl⟩
  · cases h
theorem back_len (s : Slots) : ∀ (own : List Nat) (s' : Slots), (back own s s').length = s'.length
  | [], s' => rfl
  | v :: vs, s' => by
    show (back vs s (match s[v]? with | some x => s'.set v x | none => s')).length = s'.length
    rw [back_len s vs]
    cases s[v]? with
    | none => rfl
    | some x => exact List.length_set
theorem back_get (s : Slots) (i : Nat) : ∀ (own : List Nat) (s' : Slots), s.length = s'.length → (back own s s')[i]? = if i ∈ own then s[i]? else s'[i]?
  | [], s', _ => by simp [back]
  | v :: vs, s', hl => by
    have e : (back (v :: vs) s s') = back vs s (match s[v]? with | some x => s'.set v x | none => s') := rfl
    rw [e]
    cases h : s[v]? with
    | none =>
      show (back vs s s')[i]? = _
      rw [back_get s i vs s' hl]
      by_cases c : i = v
      · subst c
        rw [if_pos (List.mem_cons_self ..), h]
        have : s'[i]? = none := List.getElem?_eq_none (by have := List.getElem?_eq_none_iff.mp h; omega)
        split
        · rfl
        · exact this
      · have e2 : (i ∈ v :: vs) = (i ∈ vs) := by simp [c]
        simp only [e2]
    | some x =>
      show (back vs s (s'.set v x))[i]? = _
      rw [back_get s i vs (s'.set v x) (by rw [List.length_set]; exact hl)]
      by_cases c : i = v
      · subst c
        rw [if_pos (List.mem_cons_self ..)]
        split
        · rfl
        · rw [List.getElem?_set_self (by have := lt_of_get h; omega)]; exact h.symm
      · have e2 : (i ∈ v :: vs) = (i ∈ vs) := by simp [c]
        simp only [e2]
        rw [List.getElem?_set_ne (Ne.symm c)]
section
variable {k : Wk} {W : WX} {pg : Pg} {cl : CallH} {X : Cx}
theorem plain_own {x : Sl} (h : x.plain = true) : x.own = none := by cases x <;> first | rfl | cases h
theorem ownAt_wipe {st : Slots} {vs : List Nat} {i : Nat} {d : D} (h : ownAt (wipeS st vs) i = some d) : i ∉ vs ∧ ownAt st i = some d := by
  unfold ownAt at h ⊢
  rw [wipeS_get] at h
  by_cases c : i ∈ vs
  · rw [if_pos c] at h
    cases e : st[i]? with
    | none => rw [e] at h; cases h
    | some x => rw [e] at h; cases h
  · rw [if_neg c] at h
    exact ⟨c, h⟩
theorem Rel.wipe {G H : Hp} {σ : St} {st : Slots} {vs : List Nat} (r : Rel k G H σ st) (hp : plainS st vs = true) : Post k σ st G H (L2.wipe σ vs) (wipeS st vs) G H := by
  refine ⟨Sub.refl G, fun _ _ h _ => h, fun _ _ h => .inl h, fun a ⟨j, d, e1, e2⟩ => ?_, fun _ h => h, fun j d e => ?_, ⟨r.sub, by rw [wipeS_len, wipe_length]; exact r.len, fun j d e => ?_, fun j d e => ?_, fun j j' d1 d2 a e1 e2 g1 g2 => ?_⟩⟩
  · obtain ⟨c, e⟩ := ownAt_wipe e1
    rw [wipe_get, if_neg c] at e2
    exact .inl ⟨j, d, e, e2⟩
  · have c : j ∉ vs := fun c => by cases (plainS_at hp c e)
    rw [wipeS_get, wipe_get, if_neg c, if_neg c]
    exact ⟨⟨d, e⟩, rfl⟩
  · rw [wipeS_get] at e
    by_cases c : j ∈ vs
    · rw [if_pos c] at e
      cases e2 : st[j]? with
      | none => rw [e2] at e; cases e
      | some x => rw [e2] at e; cases e
    · rw [if_neg c] at e
      rw [wipe_get, if_neg c]
      exact r.fr j d e
  · obtain ⟨c, e⟩ := ownAt_wipe e
    rw [wipe_get, if_neg c]
    exact r.ow j d e
  · obtain ⟨c1, e1⟩ := ownAt_wipe e1
    obtain ⟨c2, e2⟩ := ownAt_wipe e2
    rw [wipe_get, if_neg c1] at g1
    rw [wipe_get, if_neg c2] at g2
    exact r.inj j j' d1 d2 a e1 e2 g1 g2
theorem back_own {s1 s2 : Slots} {vs : List Nat} (hl : s1.length = s2.length) (hp : plainS s1 vs = true) {j : Nat} {d : D} (e : ownAt (DL.back vs s1 s2) j = some d) : j ∉ vs ∧ ownAt s2 j = some d := by
  unfold ownAt at e ⊢
  rw [back_get _ _ _ _ hl] at e
  by_cases c : j ∈ vs
  · rw [if_pos c] at e
    cases e2 : s1[j]? with
    | none => rw [e2] at e; cases e
    | some x =>
      rw [e2] at e
      have e' : x.own = some d := e
      rw [plain_own (plainS_at hp c e2)] at e'
      cases e'
  · rw [if_neg c] at e
    exact ⟨c, e⟩
/-- the own names come back -/
theorem Post.back {G1 H1 G2 H2 : Hp} {σ : St} {s1 s2 : Slots} {vs : List Nat} (r : Rel k G1 H1 σ s1) (hp : plainS s1 vs = true) (p : Post k σ s1 G1 H1 (L2.wipe σ vs) s2 G2 H2) : Post k σ s1 G1 H1 σ (DL.back vs s1 s2) G2 H2 := by
  have hl : s1.length = s2.length := by rw [r.len, p.rel.len, wipe_length]
  have ow : ∀ j d, ownAt (DL.back vs s1 s2) j = some d → j ∉ vs ∧ ownAt s2 j = some d := fun j d e => back_own hl hp e
  refine ⟨p.mono, p.keep, p.new, fun a ⟨j, d, e1, e2⟩ => ?_, p.dom, fun j d e => ?_, ⟨p.rel.sub, by rw [back_len, ← hl]; exact r.len, fun j d e => ?_, fun j d e => ?_, fun j j' d1 d2 a e1 e2 g1 g2 => ?_⟩⟩
  · obtain ⟨c, e⟩ := ow j d e1
    refine p.own a ⟨j, d, e, ?_⟩
    rw [wipe_get, if_neg c]
    exact e2
  · have c : j ∉ vs := fun c => by cases (plainS_at hp c e)
    rw [back_get _ _ _ _ hl, if_neg c]
    exact ⟨(p.bo j d e).1, rfl⟩
  · rw [back_get _ _ _ _ hl] at e
    by_cases c : j ∈ vs
    · rw [if_pos c] at e
      obtain ⟨v, h1, h2⟩ := r.fr j d e
      exact ⟨v, h1, DR.mono p.mono _ _ h2⟩
    · rw [if_neg c] at e
      obtain ⟨v, h1, h2⟩ := p.rel.fr j d e
      rw [wipe_get, if_neg c] at h1
      exact ⟨v, h1, h2⟩
  · obtain ⟨c, e⟩ := ow j d e
    obtain ⟨a, o, h1, h2⟩ := p.rel.ow j d e
    rw [wipe_get, if_neg c] at h1
    exact ⟨a, o, h1, h2⟩
  · obtain ⟨c1, e1⟩ := ow j d1 e1
    obtain ⟨c2, e2⟩ := ow j' d2 e2
    exact p.rel.inj j j' d1 d2 a e1 e2 (by rw [wipe_get, if_neg c1]; exact g1) (by rw [wipe_get, if_neg c2]; exact g2)
theorem wipe_same {σ σ2 : St} {vs is : List Nat} (h : Same is (wipe σ vs) σ2) (hs : ∀ i ∈ is, i ∈ vs) : wipe σ2 vs = wipe σ vs := by
  apply List.ext_getElem?
  intro i
  have hl : σ2.length = σ.length := by rw [h.1, wipe_length]
  rw [wipe_get, wipe_get]
  by_cases c : i ∈ vs
  · rw [if_pos c, if_pos c]
    by_cases hi : i < σ.length
    · rw [List.getElem?_eq_getElem hi, List.getElem?_eq_getElem (by omega : i < σ2.length)]
      rfl
    · rw [List.getElem?_eq_none (by omega), List.getElem?_eq_none (by omega)]
  · rw [if_neg c, if_neg c, h.2 i (fun z => c (hs i z)), wipe_get, if_neg c]
/-- the list under work -/
structure Wrk (k : Wk) (σ : St) (H0 : Hp) (D : Addr) (st : Slots) (G H : Hp) (acc : List DL.D) : Prop where
  h0 : H0 D = none
  g : G D = none
  no : ¬ Own σ st D
  at_ : ∃ vs, H D = some (.lst vs) ∧ DRs k G acc vs
theorem Wrk.step {σ σ' : St} {H0 G H G' H' : Hp} {D : Addr} {st st' : Slots} {acc : List DL.D} (w : Wrk k σ H0 D st G H acc) (p : Post k σ st G H σ' st' G' H') : Wrk k σ' H0 D st' G' H' acc := by
  obtain ⟨vs, h1, h2⟩ := w.at_
  refine ⟨w.h0, ?_, fun c => ?_, vs, p.keep D _ h1 w.no, DRs.mono p.mono _ _ h2⟩
  · cases e2 : G' D with
    | none => rfl
    | some u =>
      rcases p.new D u e2 with z | z | z
      · rw [w.g] at z; cases z
      · rw [h1] at z; cases z
      · exact absurd z w.no
  · rcases p.own D c with z | z
    · exact w.no z
    · rw [h1] at z; cases z
/-- an item goes to the list -/
theorem Wrk.add {σ0 σ : St} {G0 H0 G H : Hp} {D : Addr} {st0 st : Slots} {acc : List DL.D} {d : DL.D} {y : V} {vs : List V} (p : Post k σ0 st0 G0 H0 σ st G H) (w : Wrk k σ H0 D st G H acc) (dr : DRs k G acc vs) (h : DR k G d y) :
    Post k σ0 st0 G0 H0 σ st G (upd H D (.lst (vs ++ [y]))) ∧ Wrk k σ H0 D st G (upd H D (.lst (vs ++ [y]))) (acc ++ [d]) := by
  have ne : ∀ {j : Nat} {d : DL.D} {a : Addr}, ownAt st j = some d → σ[j]? = some (some (.ref a)) → a ≠ D := fun e1 e2 z => by
    subst z
    exact w.no ⟨_, _, e1, e2⟩
  refine ⟨⟨p.mono, fun b u e n => ?_, p.new, p.own, fun b e => ?_, p.bo, ⟨fun b u e => ?_, p.rel.len, p.rel.fr, fun j d e => ?_, p.rel.inj⟩⟩, w.h0, w.g, w.no, _, upd_same, DRs.append dr (DRs.one h)⟩
  · rw [upd_ne (ne_of_none e w.h0)]
    exact p.keep b u e n
  · by_cases c : b = D
    · subst c; rw [upd_same] at e; cases e
    · rw [upd_ne c] at e; exact p.dom b e
  · rw [upd_ne (ne_of_none e w.g)]
    exact p.rel.sub b u e
  · obtain ⟨a, o, h1, h2, h3, h4⟩ := p.rel.ow j d e
    exact ⟨a, o, h1, by rw [upd_ne (ne e h1)]; exact h2, h3, h4⟩
theorem optR_ok {α β : Type} {x : Option α} {f : α → R β} {b : β} {s : Slots} (h : optR x f = .ok b s) : ∃ a, x = some a ∧ f a = .ok b s := by
  cases x with
  | none => cases h
  | some a => exact ⟨a, rfl, h⟩
theorem bind_ok {α β : Type} {x : R α} {f : α → Slots → R β} {b : β} {s : Slots} (h : x.bind f = .ok b s) : ∃ a s1, x = .ok a s1 ∧ f a s1 = .ok b s := by
  cases x with
  | ok a s1 => exact ⟨a, s1, rfl, h⟩
  | exc c fs s1 => cases h
  | bad => cases h
def WN : WX := fun _ _ _ _ => False
theorem wlk {G1 : Hp} {xs : List D} {J : It} (v1 : WalkD k G1 xs J) : Walk J xs.length (fun H => Sub G1 H) (fun i H x H' => ∀ d G, xs[i]? = some d → Sub G1 G → Sub G H → ∃ G', New G H G' H' ∧ DR k G' d x) :=
  ⟨fun i H hi s => v1.goes i H hi s, fun H s => v1.stops H s, fun i H x H' hi s y d G e s0 s1 => v1.yields i H x H' d G e s0 s1 y⟩
/-- one clause -/
theorem lc_read {J : It} {xs : List D} {put : D → Slots → Option Slots} {test : Slots → R Bool} {val : Slots → R D} {vs is : List Nat} {σ : St} {s1 sF : Slots} {G1 H1 : Hp} {accF : List D} {Q : VK} (r : Rel k G1 H1 σ s1) (w : WalkD k G1 xs J) (hp : plainS s1 vs = true) (his : ∀ i ∈ is, i ∈ vs)
    (hr : compL put test val vs xs (wipeS s1 vs) [] = .ok accF sF) (q : ∀ a G' H', Post k σ s1 G1 H1 σ (back vs s1 sF) G' H' → vF k σ H1 G' H' (back vs s1 sF) (.lst accF) (.ref a) → Q (.ref a) H') :
    ∀ D, H1 D = none → ∃ W : Nat → Nat → Hp → Prop, (∃ m, W 0 m (upd H1 D (.lst []))) ∧ ∀ i m H, W i m H →
      (J.stop i H ∧ Q (.ref D) H) ∨ (J.go i H ∧ ∃ Nx : Hp → Prop, (∀ H', Nx H' → ∃ m', m' < m ∧ W (i + 1) m' H') ∧ ∀ x H', J.yld i H x H' → tG k is put x (wipe σ vs) H' fun σ2 H2 => wipe σ2 vs = wipe σ vs ∧ tR k WN test vB σ2 H2 fun b H3 =>
        if b = true then tR k WN val (vD k) σ2 H3 fun y H4 => ∃ acc, H4 D = some (.lst acc) ∧ acc.length < sizeLine ∧ Nx (upd H4 D (.lst (acc ++ [y]))) else Nx H3) := by
  intro D hD
  have pw := r.wipe hp
  refine lc_it (Qd := fun H => Q (.ref D) H) (wlk w) (fun i H => ∃ st' G' acc, Post k σ s1 G1 H1 (wipe σ vs) st' G' H ∧ Wrk k (wipe σ vs) H1 D st' G' H acc ∧ compL put test val vs (xs.drop i) st' acc = .ok accF sF) ?_ (fun i H hi ⟨st', G', acc, p, _⟩ => p.mono.trans p.rel.sub) ?_ ?_
  · refine ⟨wipeS s1 vs, G1, [], pw.new' (New.putH pw.rel.sub hD), ⟨hD, none_of_sub r.sub hD, fun c => ?_, [], upd_same, rfl⟩, hr⟩
    obtain ⟨o, z, _⟩ := Own.some_of pw.rel c
    rw [hD] at z
    cases z
  · intro i xv H H' hlt ⟨st', G', acc, p, wk, e'⟩ y
    rw [drop_get hlt] at e'
    obtain ⟨G2, n2, dr⟩ := y xs[i] G' (by simp [hlt]) p.mono p.rel.sub
    have p2 := p.new' n2
    have wk2 := wk.step (n2.post p.rel)
    unfold compL at e'
    obtain ⟨st2, e2, e'⟩ := optR_ok e'
    obtain ⟨b, st3, e3, e'⟩ := bind_ok e'
    refine ⟨G2, st', xs[i], st2, p2.rel, dr, e2, fun σ2 p3 sm => ⟨wipe_same sm his, ?_⟩⟩
    have wk3 := wk2.step p3
    have hw := wipe_same sm his
    refine ⟨G2, st2, p3.rel, by rw [e3]; trivial, fun b' st3' bv G3 H3 e3' p4 vb => ?_⟩
    rw [e3] at e3'
    cases e3'
    cases vb
    have wk4 := wk3.step p4
    cases b with
    | false =>
      rw [if_neg (by simp)] at e' ⊢
      obtain ⟨st4, e4, e'⟩ := optR_ok e'
      obtain ⟨hp4, rfl⟩ := wipeP_inv e4
      have p5 := p4.rel.wipe hp4
      rw [hw] at p5
      exact ⟨_, G3, acc, ((p2.trans p3).trans p4).trans p5, wk4.step p5, e'⟩
    | true =>
      rw [if_pos rfl] at e' ⊢
      obtain ⟨d, st4, e4, e'⟩ := bind_ok e'
      refine ⟨G3, st3, p4.rel, by rw [e4]; trivial, fun d' st4' yv G4 H4 e4' p5 vd => ?_⟩
      rw [e4] at e4'
      cases e4'
      have wk5 := wk4.step p5
      obtain ⟨us, u1, u2⟩ := wk5.at_
      split at e'
      · rename_i hlt
        refine ⟨us, u1, by rw [← u2.length, ← szl_eq]; exact hlt, ?_⟩
        obtain ⟨p6, wk6⟩ := Wrk.add (((p2.trans p3).trans p4).trans p5) wk5 u2 vd
        obtain ⟨st5, e5, e'⟩ := optR_ok e'
        obtain ⟨hp5, rfl⟩ := wipeP_inv e5
        have p7 := p6.rel.wipe hp5
        rw [hw] at p7
        exact ⟨_, G4, acc ++ [d], p6.trans p7, wk6.step p7, e'⟩
      · cases e'
  · intro H ⟨st', G', acc, p, wk, e'⟩
    rw [List.drop_length] at e'
    have e2 : R.ok acc st' = R.ok accF sF := e'
    cases e2
    have pb := Post.back r hp p
    refine q D G' H pb ?_
    obtain ⟨us, u1, u2⟩ := wk.at_
    refine ⟨D, .lst us, rfl, u1, wk.h0, wk.g, fun c => ?_, us, rfl, u2⟩
    obtain ⟨j, d, e1, e2⟩ := c
    obtain ⟨c1, e1⟩ := back_own (by rw [r.len, p.rel.len, wipe_length]) hp e1
    exact wk.no ⟨j, d, e1, by rw [wipe_get, if_neg c1]; exact e2⟩
theorem compEnd_ok {own : List Nat} {s1 : Slots} {r : R (List D)} {σ : St} {st : Slots} {G H : Hp} (h : Xc k W σ st G H (compEnd own s1 r)) : ∃ acc s2, r = .ok acc s2 := by
  cases r with
  | ok acc s2 => exact ⟨acc, s2, rfl⟩
  | exc c fs s => exact h.elim
  | bad => exact h.elim
theorem comp_run {own : List Nat} {e c : CE} {t : CT} {it : CI} {s : Slots} : runE pg cl (.comp own e (.g t it c)) s = (runI pg cl it s).bind fun xs s1 => optR (wipeP own s1) fun s0 => compEnd own s1 (compL (putT t) (fun s => toB (runE pg cl c s)) (runE pg cl e) own xs s0 []) := by simp only [runE]
theorem pts_yes : PTs X [] (tT k W pg cl (.cst (.bl true))) := ⟨fun pins s σ H Q I ⟨G, st, r, x, q⟩ => pts_nil.run pins s σ H Q I (q true st true G H (by simp only [runE]; rfl) (Post.refl r) rfl)⟩
/-- [e for t in it if c] -/
theorem sf_comp {elt tg iter : Expr} {ifs : List Expr} {scope : Scope} {own : List (Str × Nat)} {pos : Pos} {t : CT} {it : CI} {c e : CE} (hc : X.calm = true) (hN : X.N.Nodup) (hi : PI X tg iter (tI k W pg cl it)) (ok : BlkOk X.N X.env.scope scope own) (hsl : ∀ i ∈ t.sl, i ∈ own.map (·.2))
    (hg : ∀ (s : Shared) (H : Hp) (C : Addr) (l : List (Str × Addr)) (fp : List Addr), PG (X.blk s H scope (compEnvC scope l C X.env) fp) tg (tG k t.sl (putT t))) (ht : ∀ (s : Shared) (H : Hp) (C : Addr) (l : List (Str × Addr)) (fp : List Addr), PTs (X.blk s H scope (compEnvC scope l C X.env) fp) ifs (tT k WN pg cl c))
    (he : ∀ (s : Shared) (H : Hp) (C : Addr) (l : List (Str × Addr)) (fp : List Addr), PE (X.blk s H scope (compEnvC scope l C X.env) fp) elt (tE k WN pg cl e)) (hs : ∀ x, foldedSetIterable iter X.env x = pure x) :
    PE X (.ListComp elt [⟨tg, iter, ifs, 0⟩] scope pos) (tF k W pg cl (.comp (own.map (·.2)) e (.g t it c))) :=
  (pe_lc hc hN hi ok hg ht he hs).imp fun σ H Q ⟨G, st, r, x, q⟩ => by
    have x' := x
    rw [comp_run] at x'
    refine tR.first r x' fun xs st1 J G1 H1 e1 p1 v1 x1 => ?_
    obtain ⟨s0, e2⟩ := opt_ok x1
    obtain ⟨hp, rfl⟩ := wipeP_inv e2
    rw [e2] at x1
    obtain ⟨acc, sF, e3⟩ := compEnd_ok (show Xc k W σ st1 G1 H1 (compEnd _ st1 _) from x1)
    refine lc_read p1.rel v1 hp hsl e3 fun a G' H' p v => ?_
    refine q (.lst acc) (back (own.map (·.2)) st1 sF) (.ref a) G' H' ?_ (p1.trans p) ?_
    · rw [comp_run, e1]
      simp only [R.bind, e2, optR, e3, compEnd]
    · obtain ⟨b, o, g1, g2, g3, g4⟩ := v
      exact ⟨b, o, g1, g2, p1.dom b g3, g4⟩
/-- two clauses -/
theorem comp2_run {own own1 : List Nat} {e c c1 : CE} {t t1 : CT} {it it1 : CI} {s : Slots} : runE pg cl (.comp2 own own1 e (.g t it c) (.g t1 it1 c1)) s = (runI pg cl it s).bind fun xs s1 => optR (wipeP own s1) fun s0 => compEnd own s1 (compL2 (putT t) (fun s => toB (runE pg cl c s)) (fun s2 acc => (runI pg cl it1 s2).bind fun ys s3 => optR (wipeP own1 s3) fun s4 => compL (putT t1) (fun s => toB (runE pg cl c1 s)) (runE pg cl e) own1 ys s4 acc) own xs s0 []) := by simp only [runE]
/-- the inner clause's turns -/
theorem lc_inner {J : It} {ys : List D} {put : D → Slots → Option Slots} {test : Slots → R Bool} {val : Slots → R D} {vs1 is : List Nat} {σ0 σ2 : St} {s1 s3 sI : Slots} {G0 H0 G3 H3 : Hp} {Dd : Addr} {acc accI : List D} {Nx : Hp → Prop} (p : Post k σ0 s1 G0 H0 σ2 s3 G3 H3) (w : WalkD k G3 ys J) (hp : plainS s3 vs1 = true) (his : ∀ i ∈ is, i ∈ vs1) (wk : Wrk k σ2 H0 Dd s3 G3 H3 acc)
    (hr : compL put test val vs1 ys (wipeS s3 vs1) acc = .ok accI sI) (q : ∀ G' H', Post k σ0 s1 G0 H0 (wipe σ2 vs1) sI G' H' → Wrk k (wipe σ2 vs1) H0 Dd sI G' H' accI → Nx H') :
    ∃ W1 : Nat → Nat → Hp → Prop, (∃ m, W1 0 m H3) ∧ ∀ j m H, W1 j m H →
      (J.stop j H ∧ Nx H) ∨ (J.go j H ∧ ∃ Nx1 : Hp → Prop, (∀ H', Nx1 H' → ∃ m', m' < m ∧ W1 (j + 1) m' H') ∧ ∀ x H', J.yld j H x H' → tG k is put x (wipe σ2 vs1) H' fun σ3 H5 => wipe σ3 vs1 = wipe σ2 vs1 ∧ tR k WN test vB σ3 H5 fun b H6 =>
        if b = true then tR k WN val (vD k) σ3 H6 fun y H7 => ∃ acc, H7 Dd = some (.lst acc) ∧ acc.length < sizeLine ∧ Nx1 (upd H7 Dd (.lst (acc ++ [y]))) else Nx1 H6) := by
  have pw := p.rel.wipe hp
  have w0 := wlk w
  refine ⟨fun j m H => m = ys.length - j ∧ j ≤ ys.length ∧ ∃ st' G' acc', Post k σ0 s1 G0 H0 (wipe σ2 vs1) st' G' H ∧ Sub G3 G' ∧ Wrk k (wipe σ2 vs1) H0 Dd st' G' H acc' ∧ compL put test val vs1 (ys.drop j) st' acc' = .ok accI sI, ⟨ys.length, by simp, Nat.zero_le _, wipeS s3 vs1, G3, acc, p.trans pw, Sub.refl G3, wk.step pw, hr⟩, ?_⟩
  rintro j m H ⟨rfl, hj, st', G', acc', p', s3', wk', e'⟩
  by_cases hlt : j < ys.length
  · refine .inr ⟨w.goes j H hlt (s3'.trans p'.rel.sub), fun H' => ∃ st' G' acc', Post k σ0 s1 G0 H0 (wipe σ2 vs1) st' G' H' ∧ Sub G3 G' ∧ Wrk k (wipe σ2 vs1) H0 Dd st' G' H' acc' ∧ compL put test val vs1 (ys.drop (j + 1)) st' acc' = .ok accI sI, fun H' h' => ⟨ys.length - (j + 1), by omega, rfl, hlt, h'⟩, fun xv H' y => ?_⟩
    rw [drop_get hlt] at e'
    obtain ⟨G2, n2, dr⟩ := w.yields j H xv H' ys[j] G' (by simp [hlt]) s3' p'.rel.sub y
    have p2 := p'.new' n2
    have wk2 := wk'.step (n2.post p'.rel)
    have s2' := s3'.trans n2.mono
    unfold compL at e'
    obtain ⟨st2, e2, e'⟩ := optR_ok e'
    obtain ⟨b, st3, e3, e'⟩ := bind_ok e'
    refine ⟨G2, st', ys[j], st2, p2.rel, dr, e2, fun σ3 p3 sm => ⟨wipe_same sm his, ?_⟩⟩
    have wk3 := wk2.step p3
    have hw := wipe_same sm his
    refine ⟨G2, st2, p3.rel, by rw [e3]; trivial, fun b' st3' bv G4 H4 e3' p4 vb => ?_⟩
    rw [e3] at e3'
    cases e3'
    cases vb
    have wk4 := wk3.step p4
    cases b with
    | false =>
      rw [if_neg (by simp)] at e' ⊢
      obtain ⟨st4, e4, e'⟩ := optR_ok e'
      obtain ⟨hp4, rfl⟩ := wipeP_inv e4
      have p5 := p4.rel.wipe hp4
      rw [hw] at p5
      exact ⟨_, G4, acc', ((p2.trans p3).trans p4).trans p5, s2'.trans p4.mono, wk4.step p5, e'⟩
    | true =>
      rw [if_pos rfl] at e' ⊢
      obtain ⟨d, st4, e4, e'⟩ := bind_ok e'
      refine ⟨G4, st3, p4.rel, by rw [e4]; trivial, fun d' st4' yv G5 H5 e4' p5 vd => ?_⟩
      rw [e4] at e4'
      cases e4'
      have wk5 := wk4.step p5
      obtain ⟨us, u1, u2⟩ := wk5.at_
      split at e'
      · rename_i hlt
        refine ⟨us, u1, by rw [← u2.length, ← szl_eq]; exact hlt, ?_⟩
        obtain ⟨p6, wk6⟩ := Wrk.add (((p2.trans p3).trans p4).trans p5) wk5 u2 vd
        obtain ⟨st5, e5, e'⟩ := optR_ok e'
        obtain ⟨hp5, rfl⟩ := wipeP_inv e5
        have p7 := p6.rel.wipe hp5
        rw [hw] at p7
        exact ⟨_, G5, acc' ++ [d], p6.trans p7, (s2'.trans p4.mono).trans p5.mono, wk6.step p7, e'⟩
      · cases e'
  · have e : j = ys.length := by omega
    subst e
    rw [List.drop_length] at e'
    have e2 : R.ok acc' st' = R.ok accI sI := e'
    cases e2
    exact .inl ⟨w.stops H (s3'.trans p'.rel.sub), q G' H p' wk'⟩
theorem wipe_wipe {σ : St} {vs vs1 : List Nat} (h : ∀ i ∈ vs1, i ∈ vs) : wipe (wipe σ vs1) vs = wipe σ vs := by
  apply List.ext_getElem?
  intro i
  rw [wipe_get, wipe_get, wipe_get]
  by_cases c : i ∈ vs
  · rw [if_pos c, if_pos c]
    by_cases c1 : i ∈ vs1
    · rw [if_pos c1]; cases σ[i]? <;> rfl
    · rw [if_neg c1]
  · rw [if_neg c, if_neg c, if_neg (fun z => c (h i z))]
theorem lc2_read {J : It} {xs : List D} {put put1 : D → Slots → Option Slots} {test test1 : Slots → R Bool} {itr : Slots → R (List D)} {val : Slots → R D} {vs vs1 is is1 : List Nat} {σ : St} {s1 sF : Slots} {G1 H1 : Hp} {accF : List D} {Q : VK} (r : Rel k G1 H1 σ s1) (w : WalkD k G1 xs J) (hp : plainS s1 vs = true) (his : ∀ i ∈ is, i ∈ vs) (his1 : ∀ i ∈ is1, i ∈ vs1) (hv1 : ∀ i ∈ vs1, i ∈ vs)
    (hr : compL2 put test (fun s2 acc => (itr s2).bind fun ys s3 => optR (wipeP vs1 s3) fun s4 => compL put1 test1 val vs1 ys s4 acc) vs xs (wipeS s1 vs) [] = .ok accF sF) (q : ∀ a G' H', Post k σ s1 G1 H1 σ (back vs s1 sF) G' H' → vF k σ H1 G' H' (back vs s1 sF) (.lst accF) (.ref a) → Q (.ref a) H') :
    ∀ D, H1 D = none → ∃ W : Nat → Nat → Hp → Prop, (∃ m, W 0 m (upd H1 D (.lst []))) ∧ ∀ i m H, W i m H →
      (J.stop i H ∧ Q (.ref D) H) ∨ (J.go i H ∧ ∃ Nx : Hp → Prop, (∀ H', Nx H' → ∃ m', m' < m ∧ W (i + 1) m' H') ∧ ∀ x H', J.yld i H x H' → tG k is put x (wipe σ vs) H' fun σ2 H2 => wipe σ2 vs = wipe σ vs ∧ tR k WN test vB σ2 H2 fun b H3 =>
        if b = true then tR k WN itr (vI k) σ2 H3 fun J1 H4 => ∃ W1 : Nat → Nat → Hp → Prop, (∃ m, W1 0 m H4) ∧ ∀ j k' H, W1 j k' H →
          (J1.stop j H ∧ Nx H) ∨ (J1.go j H ∧ ∃ Nx1 : Hp → Prop, (∀ H', Nx1 H' → ∃ k2, k2 < k' ∧ W1 (j + 1) k2 H') ∧ ∀ x H', J1.yld j H x H' → tG k is1 put1 x (wipe σ2 vs1) H' fun σ3 H5 => wipe σ3 vs1 = wipe σ2 vs1 ∧ tR k WN test1 vB σ3 H5 fun b H6 =>
            if b = true then tR k WN val (vD k) σ3 H6 fun y H7 => ∃ acc, H7 D = some (.lst acc) ∧ acc.length < sizeLine ∧ Nx1 (upd H7 D (.lst (acc ++ [y]))) else Nx1 H6)
        else Nx H3) := by
  intro D hD
  have pw := r.wipe hp
  refine ⟨fun i m H => m = xs.length - i ∧ i ≤ xs.length ∧ ∃ st' G' acc, Post k σ s1 G1 H1 (wipe σ vs) st' G' H ∧ Wrk k (wipe σ vs) H1 D st' G' H acc ∧ compL2 put test (fun s2 acc => (itr s2).bind fun ys s3 => optR (wipeP vs1 s3) fun s4 => compL put1 test1 val vs1 ys s4 acc) vs (xs.drop i) st' acc = .ok accF sF, ⟨xs.length, by simp, Nat.zero_le _, wipeS s1 vs, G1, [], pw.new' (New.putH pw.rel.sub hD), ⟨hD, none_of_sub r.sub hD, fun c => ?_, [], upd_same, rfl⟩, hr⟩, ?_⟩
  · obtain ⟨o, z, _⟩ := Own.some_of pw.rel c
    rw [hD] at z
    cases z
  rintro i m H ⟨rfl, hi, st', G', acc, p, wk, e'⟩
  by_cases hlt : i < xs.length
  · refine .inr ⟨w.goes i H hlt (p.mono.trans p.rel.sub), fun H' => ∃ st' G' acc, Post k σ s1 G1 H1 (wipe σ vs) st' G' H' ∧ Wrk k (wipe σ vs) H1 D st' G' H' acc ∧ compL2 put test (fun s2 acc => (itr s2).bind fun ys s3 => optR (wipeP vs1 s3) fun s4 => compL put1 test1 val vs1 ys s4 acc) vs (xs.drop (i + 1)) st' acc = .ok accF sF, fun H' h' => ⟨xs.length - (i + 1), by omega, rfl, hlt, h'⟩, fun xv H' y => ?_⟩
    rw [drop_get hlt] at e'
    obtain ⟨G2, n2, dr⟩ := w.yields i H xv H' xs[i] G' (by simp [hlt]) p.mono p.rel.sub y
    have p2 := p.new' n2
    have wk2 := wk.step (n2.post p.rel)
    unfold compL2 at e'
    obtain ⟨st2, e2, e'⟩ := optR_ok e'
    obtain ⟨b, st3, e3, e'⟩ := bind_ok e'
    refine ⟨G2, st', xs[i], st2, p2.rel, dr, e2, fun σ2 p3 sm => ⟨wipe_same sm his, ?_⟩⟩
    have wk3 := wk2.step p3
    have hw := wipe_same sm his
    refine ⟨G2, st2, p3.rel, by rw [e3]; trivial, fun b' st3' bv G3 H3 e3' p4 vb => ?_⟩
    rw [e3] at e3'
    cases e3'
    cases vb
    have wk4 := wk3.step p4
    have p04 := (p2.trans p3).trans p4
    cases b with
    | false =>
      rw [if_neg (by simp)] at e' ⊢
      obtain ⟨st4, e4, e'⟩ := optR_ok e'
      obtain ⟨hp4, rfl⟩ := wipeP_inv e4
      have p5 := p4.rel.wipe hp4
      rw [hw] at p5
      exact ⟨_, G3, acc, p04.trans p5, wk4.step p5, e'⟩
    | true =>
      rw [if_pos rfl] at e' ⊢
      obtain ⟨acc2, st6, e4, e'⟩ := bind_ok e'
      obtain ⟨ys, st4, e5, e6⟩ := bind_ok e4
      refine ⟨G3, st3, p4.rel, by rw [e5]; trivial, fun ys' st4' J1 G4 H4 e5' p5 vi => ?_⟩
      rw [e5] at e5'
      cases e5'
      obtain ⟨st5, e7, e6⟩ := optR_ok e6
      obtain ⟨hp5, rfl⟩ := wipeP_inv e7
      obtain ⟨st7, e8, e'⟩ := optR_ok e'
      obtain ⟨hp7, rfl⟩ := wipeP_inv e8
      refine lc_inner (p04.trans p5) vi hp5 his1 (wk4.step p5) e6 fun G5 H5 p6 wk6 => ?_
      have p7 := p6.rel.wipe hp7
      rw [wipe_wipe hv1, hw] at p7
      exact ⟨_, G5, acc2, p6.trans p7, wk6.step p7, e'⟩
  · have e : i = xs.length := by omega
    subst e
    rw [List.drop_length] at e'
    have e2 : R.ok acc st' = R.ok accF sF := e'
    cases e2
    refine .inl ⟨w.stops H (p.mono.trans p.rel.sub), ?_⟩
    have pb := Post.back r hp p
    refine q D G' H pb ?_
    obtain ⟨us, u1, u2⟩ := wk.at_
    refine ⟨D, .lst us, rfl, u1, wk.h0, wk.g, fun c => ?_, us, rfl, u2⟩
    obtain ⟨j, d, e1, e2⟩ := c
    obtain ⟨c1, e1⟩ := back_own (by rw [r.len, p.rel.len, wipe_length]) hp e1
    exact wk.no ⟨j, d, e1, by rw [wipe_get, if_neg c1]; exact e2⟩
theorem sf_comp2 {elt tg iter tg1 iter1 : Expr} {ifs ifs1 : List Expr} {scope : Scope} {own : List (Str × Nat)} {vs1 : List Nat} {pos : Pos} {t t1 : CT} {it it1 : CI} {c c1 e : CE} (hc : X.calm = true) (hN : X.N.Nodup) (hi : PI X tg iter (tI k W pg cl it)) (ok : BlkOk X.N X.env.scope scope own) (hv : ∀ i ∈ vs1, i ∈ own.map (·.2)) (hsl : ∀ i ∈ t.sl, i ∈ own.map (·.2)) (hsl1 : ∀ i ∈ t1.sl, i ∈ vs1)
    (hg : ∀ (s : Shared) (H : Hp) (C : Addr) (l : List (Str × Addr)) (fp : List Addr), PG (X.blk s H scope (compEnvC scope l C X.env) fp) tg (tG k t.sl (putT t))) (ht : ∀ (s : Shared) (H : Hp) (C : Addr) (l : List (Str × Addr)) (fp : List Addr), PTs (X.blk s H scope (compEnvC scope l C X.env) fp) ifs (tT k WN pg cl c))
    (hi1 : ∀ (s : Shared) (H : Hp) (C : Addr) (l : List (Str × Addr)) (fp : List Addr), PI (X.blk s H scope (compEnvC scope l C X.env) fp) tg1 iter1 (tI k WN pg cl it1))
    (hg1 : ∀ (s : Shared) (H : Hp) (C : Addr) (l : List (Str × Addr)) (fp : List Addr), PG (X.blk s H scope (compEnvC scope l C X.env) fp) tg1 (tG k t1.sl (putT t1))) (ht1 : ∀ (s : Shared) (H : Hp) (C : Addr) (l : List (Str × Addr)) (fp : List Addr), PTs (X.blk s H scope (compEnvC scope l C X.env) fp) ifs1 (tT k WN pg cl c1))
    (he : ∀ (s : Shared) (H : Hp) (C : Addr) (l : List (Str × Addr)) (fp : List Addr), PE (X.blk s H scope (compEnvC scope l C X.env) fp) elt (tE k WN pg cl e)) (hs : ∀ x, foldedSetIterable iter X.env x = pure x) (hs1 : ∀ env x, foldedSetIterable iter1 env x = pure x) :
    PE X (.ListComp elt [⟨tg, iter, ifs, 0⟩, ⟨tg1, iter1, ifs1, 0⟩] scope pos) (tF k W pg cl (.comp2 (own.map (·.2)) vs1 e (.g t it c) (.g t1 it1 c1))) :=
  (pe_lc2 hc hN hi ok hv hg ht hi1 hg1 ht1 he hs hs1).imp fun σ H Q ⟨G, st, r, x, q⟩ => by
    have x' := x
    rw [comp2_run] at x'
    refine tR.first r x' fun xs st1 J G1 H1 e1 p1 v1 x1 => ?_
    obtain ⟨s0, e2⟩ := opt_ok x1
    obtain ⟨hp, rfl⟩ := wipeP_inv e2
    rw [e2] at x1
    obtain ⟨acc, sF, e3⟩ := compEnd_ok (show Xc k W σ st1 G1 H1 (compEnd _ st1 _) from x1)
    refine lc2_read p1.rel v1 hp hsl hsl1 hv e3 fun a G' H' p v => ?_
    refine q (.lst acc) (back (own.map (·.2)) st1 sF) (.ref a) G' H' ?_ (p1.trans p) ?_
    · rw [comp2_run, e1]
      show optR (wipeP _ st1) _ = _
      rw [e2]
      show compEnd _ st1 _ = _
      rw [e3]
      rfl
    · obtain ⟨b, o, g1, g2, g3, g4⟩ := v
      exact ⟨b, o, g1, g2, p1.dom b g3, g4⟩
end
end DL

set_option Elab.async false
set_option linter.all false
set_option maxRecDepth 100000
set_option maxHeartbeats 4000000
namespace DL
open PySem L2 PyProof.Rows
section
variable {k : Wk} {W : WX} {pg : Pg} {cl : CallH} {X : Cx} {wl : Nat} {fr : Bool}
/-! ### a op b op c -/
theorem chain_run {p q : Pr} {a b c : CE} {s : Slots} : runE pg cl (.chain p q a b c) s = (runE pg cl a s).bind fun x s1 => (runE pg cl b s1).bind fun y s2 => match runP p [x, y] with
    | some (.bl true) => (runE pg cl c s2).bind fun z s3 => (match runP q [y, z] with
      | some d => .ok d s3
      | none => .bad)
    | some (.bl false) => .ok (.bl false) s2
    | _ => .bad := by simp only [runE] <;> rfl
theorem chain_imp {p q : Pr} {a b c : CE} {σ : St} {H : Hp} {Q : VK} (h : tE k W pg cl (.chain p q a b c) σ H Q) : tChain (rP2 k p) (rP2 k q) (tE k W pg cl a) (tE k W pg cl b) (tE k W pg cl c) σ H Q := by
  obtain ⟨G, st, r, x, qq⟩ := h
  have x' := x
  rw [chain_run] at x'
  refine tR.first r x' fun d st1 v G1 H1 e1 p1 v1 x1 => ?_
  refine tR.first p1.rel x1 fun d2 st2 v2 G2 H2 e2 p2 w2 x2 => ?_
  cases e3 : runP p [d, d2] with
  | none => simp only [e3] at x2; exact x2.elim
  | some d3 =>
    cases d3 with
    | bl bb =>
      refine ⟨G2, [d, d2], .bl bb, p2.rel.sub, .cons (.inl (DR.mono p2.mono _ _ v1)) (.cons (.inl w2) .nil), e3, fun v3 G3 H3 n3 dr3 => ⟨bb, dr3, ?_⟩⟩
      have p3 := p2.new' n3
      cases bb with
      | false =>
        rw [if_neg (by simp)]
        refine qq (.bl false) st2 (.bl false) G3 H3 ?_ (p1.trans p3) rfl
        rw [chain_run, e1]
        simp only [R.bind, e2, e3]
      | true =>
        rw [if_pos rfl]
        simp only [e3] at x2
        have x3 := Xc.next (n3.post p2.rel) x2
        refine tR.first p3.rel x3 fun d4 st4 v4 G4 H4 e4 p4 w4 x4 => ?_
        cases e5 : runP q [d2, d4] with
        | none => simp only [e5] at x4; exact x4.elim
        | some d5 =>
          refine ⟨G4, [d2, d4], d5, p4.rel.sub, .cons (.inl (DR.mono (n3.mono.trans p4.mono) _ _ w2)) (.cons (.inl w4) .nil), e5, fun v5 G5 H5 n5 dr5 => qq d5 st4 v5 G5 H5 ?_ ((p1.trans p3).trans (p4.new' n5)) dr5⟩
          rw [chain_run, e1]
          simp only [R.bind, e2, e3, e4, e5]
    | _ => simp only [e3] at x2; exact x2.elim
theorem se_chain {op op' : CmpOp} {p q : Pr} {a b c : CE} {ea eb ec : Expr} {pos : Pos} (ho : OpR X (compareOp op) (rP2 k p)) (ho' : OpR X (compareOp op') (rP2 k q)) (hm : lastMarks [op, op'] [eb, ec] = false) (ha : PE X ea (tE k W pg cl a)) (hb : PE X eb (tE k W pg cl b)) (hc : PE X ec (tE k W pg cl c)) : PE X (.Compare ea [op, op'] [eb, ec] pos) (tE k W pg cl (.chain p q a b c)) :=
  (pe_chain ho ho' ha hb hc hm).imp fun _ _ _ h => chain_imp h
theorem st_chain {op op' : CmpOp} {p q : Pr} {a b c : CE} {ea eb ec : Expr} {pos : Pos} (ho : OpR X (compareOp op) (rP2 k p)) (ho' : OpR X (compareOp op') (rP2 k q)) (hm : lastMarks [op, op'] [eb, ec] = false) (ha : PE X ea (tE k W pg cl a)) (hb : PE X eb (tE k W pg cl b)) (hc : PE X ec (tE k W pg cl c)) : PT X (.Compare ea [op, op'] [eb, ec] pos) (tT k W pg cl (.chain p q a b c)) :=
  (pt_chain ho ho' ha hb hc hm).imp fun σ H Q h => chain_imp (tE_B h)
/-! ### tuple(range(..)), list(range(..)) -/
theorem drs_rgV {G : Hp} (a b : Int) : DRs k G ((List.range (b - a).toNat).map fun i => .int (a + (i : Nat))) (rgV a b) := by
  unfold rgV
  generalize List.range (b - a).toNat = l
  induction l with
  | nil => exact rfl
  | cons x r ih => exact ⟨_, _, rfl, rfl, ih⟩
theorem rngSz {a b : Int} {xs : List D} (h : rng a b = some xs) : RgOk a b := by
  have z := (rngOk h).1
  unfold rng at h
  split at h
  · rename_i q
    simp only [Bool.and_eq_true, decide_eq_true_eq] at q
    exact ⟨z.1, z.2.1, z.2.2.1, z.2.2.2, by have := q.2; unfold szl at this; omega⟩
  · cases h
theorem rngI_inv {ds xs : List D} (h : rngI ds = some xs) : (∃ b, ds = [.int b] ∧ rng 0 b = some xs) ∨ ∃ a b, ds = [.int a, .int b] ∧ rng a b = some xs := by
  unfold rngI at h
  split at h
  · exact .inl ⟨_, rfl, h⟩
  · exact .inr ⟨_, _, rfl, h⟩
  · cases h
theorem mapI {ds : List D} {d : D} {f : List D → D} (h : (rngI ds).map f = some d) : ∃ xs, rngI ds = some xs ∧ d = f xs := by
  cases e : rngI ds with
  | none => rw [e] at h; cases h
  | some xs => rw [e] at h; cases h; exact ⟨xs, rfl, rfl⟩
theorem se_tupRg1 {a : Expr} {o : CP} {p1 p2 q1 q2 : Pos} (hc : X.calm = true) (hg : Gl X "range") (hm : X.mg "range" = none) (hg2 : Gl X "tuple") (hm2 : X.mg "tuple" = none) (hs : noStar a = true) (ha : PE X a (tP k W pg cl o)) : PE X (.Call (.Name "tuple" p1) [.Call (.Name "range" p2) [a] [] q1] [] q2) (tE k W pg cl (.prim .tupRng (.cons o .nil))) :=
  se_one ((pe_tupRg hc hg2 hm2 (prg_1 hg hm ha (star_no hs)) rfl).imp fun σ H Q h => tP_imp h fun v H1 z => by
    obtain ⟨G, ds, d, sb, pr, e, q⟩ := z
    obtain ⟨x, rfl, h1⟩ := pr.one_inv
    obtain ⟨xs, e1, rfl⟩ := mapI (f := D.tup) e
    rcases rngI_inv e1 with ⟨b, e2, e3⟩ | ⟨a, b, e2, e3⟩
    · cases e2
      refine ⟨b, h1.int, rngSz e3, ?_⟩
      rw [(rngOk e3).2] at q
      exact fin_tup sb (drs_rgV 0 b) q
    · cases e2)
theorem se_tupRg2 {a b : Expr} {o o2 : CP} {p1 p2 q1 q2 : Pos} (hc : X.calm = true) (hg : Gl X "range") (hm : X.mg "range" = none) (hg2 : Gl X "tuple") (hm2 : X.mg "tuple" = none) (hs : noStar a = true) (hs2 : noStar b = true) (ha : PE X a (tP k W pg cl o)) (hb : PE X b (tP k W pg cl o2)) : PE X (.Call (.Name "tuple" p1) [.Call (.Name "range" p2) [a, b] [] q1] [] q2) (tE k W pg cl (.prim .tupRng (.cons o (.cons o2 .nil)))) :=
  se_two (ta := tP k W pg cl o) (tb := tP k W pg cl o2) ((pe_tupRg hc hg2 hm2 (prg_2 hg hm ha hb (star_no hs) (star_no hs2) (by rw [one_star hs2]; rfl)) rfl).imp fun σ H Q h => tP_imp h fun v H1 h2 => tP_imp h2 fun w H2 z => by
    obtain ⟨G, ds, d, sb, pr, e, q⟩ := z
    obtain ⟨x, y, rfl, h1, h2⟩ := pr.two_inv
    obtain ⟨xs, e1, rfl⟩ := mapI (f := D.tup) e
    rcases rngI_inv e1 with ⟨b, e2, e3⟩ | ⟨a, b, e2, e3⟩
    · cases e2
    · cases e2
      refine ⟨a, b, h1.int, h2.int, rngSz e3, ?_⟩
      rw [(rngOk e3).2] at q
      exact fin_tup sb (drs_rgV a b) q)
theorem sf_lstRg1 {a : Expr} {o : CP} {p1 p2 q1 q2 : Pos} (hc : X.calm = true) (hg : Gl X "range") (hm : X.mg "range" = none) (hg2 : Gl X "list") (hm2 : X.mg "list" = none) (hs : noStar a = true) (ha : PE X a (tP k W pg cl o)) : PE X (.Call (.Name "list" p1) [.Call (.Name "range" p2) [a] [] q1] [] q2) (tF k W pg cl (.prim .lstRng (.cons o .nil))) :=
  (pe_listRg hc hg2 hm2 (prg_1 hg hm ha (star_no hs)) rfl).imp fun σ H Q ⟨G, st, r, x, q⟩ => by
    rw [prim_run1] at x
    refine tR.first r x fun a st1 v G1 H1 e1 p1 v1 x1 => ?_
    obtain ⟨ds, d, h1, h2, h3⟩ := finP_ok p1.rel x1 (.cons v1 .nil)
    obtain ⟨y, rfl, g1⟩ := h1.one_inv
    obtain ⟨xs, e2, rfl⟩ := mapI (f := D.lst) h2
    rcases rngI_inv e2 with ⟨b, e3, e4⟩ | ⟨a, b, e3, e4⟩
    · cases e3
      refine ⟨b, g1.int, rngSz e4, fun u hu => q (.lst xs) st1 (.ref u) G1 (upd H1 u (.lst (rgV 0 b))) ?_ (p1.new' (New.putH p1.rel.sub hu)) ?_⟩
      · rw [prim_run1, e1]; exact h3
      · rw [(rngOk e4).2]; exact sf_new p1.rel hu (p1.dom _ hu) (drs_rgV 0 b)
    · cases e3
/-! ### assignments, whatever the statement -/
theorem tE_tF {c : CE} {σ : St} {H : Hp} {Q : VK} (h : tE k W pg cl c σ H Q) : tF k W pg cl c σ H Q := by
  obtain ⟨G, st, r, x, q⟩ := h
  exact ⟨G, st, r, x, fun d st' v G' H' e p ⟨a, o, ev, ha, h0, hg, hn, ho⟩ => by
    subst ev
    exact q d st' (.ref a) (upd G' a o) H' e (p.addG h0 ha hg hn) (ho.dr hg)⟩
theorem as_asg {c : CE} {i : Nat} {s : Stmt} (h : PS X s (tAsg (tE k W pg cl c) (gName i))) : PS X s (tS k W pg cl wl fr (.asg i c)) := h.imp fun E σ H ⟨G, st, r, x, q⟩ => by
  simp only [runS] at x
  refine tR.first r x fun d st1 v G1 H1 e1 p1 v1 x1 => ?_
  obtain ⟨st2, e2⟩ := opt_some x1
  obtain ⟨h1, h2, rfl⟩ := putN_inv e2
  exact q .nx _ _ G1 H1 (by simp only [runS, e1, R.bind, e2, opt]) (p1.trans (p1.rel.put h1 h2 v1))
theorem as_asgO {c : CE} {i : Nat} {s : Stmt} (h : PS X s (tAsg (tF k W pg cl c) (gName i))) : PS X s (tS k W pg cl wl fr (.asgO i c)) := h.imp fun E σ H ⟨G, st, r, x, q⟩ => by
  simp only [runS] at x
  refine tR.first r x fun d st1 v G1 H1 e1 p1 v1 x1 => ?_
  obtain ⟨st2, e2⟩ := opt_some x1
  obtain ⟨h1, h2, rfl⟩ := putO_inv e2
  exact q .nx _ _ G1 H1 (by simp only [runS, e1, R.bind, e2, opt]) (p1.putO h1 h2 v1)
theorem lc_imp {t : CT} {it : CI} {c e : CE} {own : List Nat} {σ : St} {H : Hp} {Q : VK} (hsl : ∀ i ∈ t.sl, i ∈ own) (h : tF k W pg cl (.comp own e (.g t it c)) σ H Q) : tLc (tI k W pg cl it) (tG k t.sl (putT t)) (tT k WN pg cl c) (tE k WN pg cl e) own σ H Q := by
  obtain ⟨G, st, r, x, q⟩ := h
  have x' := x
  rw [comp_run] at x'
  refine tR.first r x' fun xs st1 J G1 H1 e1 p1 v1 x1 => ?_
  obtain ⟨s0, e2⟩ := opt_ok x1
  obtain ⟨hp, rfl⟩ := wipeP_inv e2
  rw [e2] at x1
  obtain ⟨acc, sF, e3⟩ := compEnd_ok (show Xc k W σ st1 G1 H1 (compEnd _ st1 _) from x1)
  refine lc_read p1.rel v1 hp hsl e3 fun a G' H' p v => ?_
  refine q (.lst acc) (back own st1 sF) (.ref a) G' H' ?_ (p1.trans p) ?_
  · rw [comp_run, e1]
    simp only [R.bind, e2, optR, e3, compEnd]
  · obtain ⟨b, o, g1, g2, g3, g4⟩ := v
    exact ⟨b, o, g1, g2, p1.dom b g3, g4⟩
theorem lc2_imp {t t1 : CT} {it it1 : CI} {c c1 e : CE} {own vs1 : List Nat} {σ : St} {H : Hp} {Q : VK} (hv : ∀ i ∈ vs1, i ∈ own) (hsl : ∀ i ∈ t.sl, i ∈ own) (hsl1 : ∀ i ∈ t1.sl, i ∈ vs1) (h : tF k W pg cl (.comp2 own vs1 e (.g t it c) (.g t1 it1 c1)) σ H Q) : tLc2 (tI k W pg cl it) (tG k t.sl (putT t)) (tT k WN pg cl c) (tI k WN pg cl it1) (tG k t1.sl (putT t1)) (tT k WN pg cl c1) (tE k WN pg cl e) own vs1 σ H Q := by
  obtain ⟨G, st, r, x, q⟩ := h
  have x' := x
  rw [comp2_run] at x'
  refine tR.first r x' fun xs st1 J G1 H1 e1 p1 v1 x1 => ?_
  obtain ⟨s0, e2⟩ := opt_ok x1
  obtain ⟨hp, rfl⟩ := wipeP_inv e2
  rw [e2] at x1
  obtain ⟨acc, sF, e3⟩ := compEnd_ok (show Xc k W σ st1 G1 H1 (compEnd _ st1 _) from x1)
  refine lc2_read p1.rel v1 hp hsl hsl1 hv e3 fun a G' H' p v => ?_
  refine q (.lst acc) (back own st1 sF) (.ref a) G' H' ?_ (p1.trans p) ?_
  · rw [comp2_run, e1]
    show optR (wipeP _ st1) _ = _
    rw [e2]
    show compEnd _ st1 _ = _
    rw [e3]
    rfl
  · obtain ⟨b, o, g1, g2, g3, g4⟩ := v
    exact ⟨b, o, g1, g2, p1.dom b g3, g4⟩
end
end DL

set_option Elab.async false
set_option linter.all false
set_option maxRecDepth 100000
set_option maxHeartbeats 4000000
namespace DL
open PySem L2 PyProof.Rows
/-! ### a def's promise, with the guards known -/
structure FnG (P : Program) (w : World) (K : PySem.W.Frag) (mg : Str → Option Value) (base : Heap) (k : Nat) (f : Addr) (fd : FuncData) (ps : List Str) (sp : Sp) : Prop where
  len : ∀ vs H Q E, sp vs H Q E → vs.length = ps.length
  run : ∀ (A : Around) (outer : List Env) (s : Shared) (H : Hp) (args : Args) (us : List Value) (vs : List V) (Q : VK) (E : XK), Room k A → A.guards = some [] → Env0 P w K mg base A outer s H → BindsTo s fd args (ps.zip us) → Vals vs us → sp vs H Q E →
    codeAny (model P w) A (.call (.ref f) args) (CR (L2N.CX P w) outer P w H s Q E) s
section
variable {P : Program} {w : World} {K : PySem.W.Frag} {mg : Str → Option Value} {base : Heap} {x qual : Str} {params : Arguments} {body : List Stmt} {scope : Scope} {dvs : List V} {kws : List (Str × V)} {f : Addr} {fd : FuncData}
theorem fnG_of {N ps : List Str} {k : Nat} {sp : Sp} (F : FunD K x qual params body scope dvs kws f fd) (S : FnScope N ps scope) (len : ∀ vs H Q E, sp vs H Q E → vs.length = ps.length)
    (hbody : ∀ (cdv : Value) (A : Around) (outer : List Env) (s : Shared) (H : Hp) (vs : List V) (Q : VK) (E : XK), Room k (A.deeper (envOfC qual scope s.heap.objs.size f cdv)) → A.guards = some [] → sp vs H Q E →
      ∃ t, PSs (cxOf (L2N.CX P w) P w K mg base N qual scope f cdv A outer s H E) body t ∧ t { nx := fun _ H' => Q .non H', rt := Q } (start N vs) H) : FnG P w K mg base (k + 1) f fd ps sp := by
  obtain ⟨oc, od, dV, kV, doc, pm, an, cdv, ct, osl, rfl, lk, hcd, _, _⟩ := F.ex
  refine ⟨len, fun A outer s H args us vs Q E hr hgd e0 hb r hsp => ?_⟩
  have inK := e0.mod.kin.keeps fun b o e => (e0.bs b o e).1
  have lim := e0.mod.nolimit.keeps fun b o e => (e0.bs b o e).1
  refine codeAny_call_function hr.depth (inK _ _ lk) rfl S.co S.gen rfl (PySem.W.codeRec_of inK hcd) (hb _ _ _ _ (wpAny_newFunctionEnv_cells S.kind (fun ⟨n, v⟩ hy => ?_) fun env he s1 x => ?_))
  · rcases S.par n (List.of_mem_zip hy).1 with q | q
    · exact .inl q
    · exact .inr ⟨q, PySem.W.cellsFrom_some _ _ _ (.inl q)⟩
  · subst he
    refine ⟨lim.keeps x.toInCall.keep, codeAny_func ?_⟩
    obtain ⟨t, ht, hq⟩ := hbody cdv A outer s H vs Q E (hr.deeper _) hgd hsp
    refine wpAny_mono (ht.run [] s1 (start N vs) H _ (inv_start S hr.hd e0 (len _ _ _ _ hsp) r x) hq) (fun fl s' hs => ?_) fun e s' hs => hs
    cases fl with
    | ret u =>
      obtain ⟨v, σ', H', J, rv, q⟩ := hs
      exact ⟨v, H', J.os, J.bare, J.base, J.hok, rv, q⟩
    | next =>
      obtain ⟨σ', H', J, q⟩ := hs
      exact ⟨V.non, H', J.os, J.bare, J.base, J.hok, rfl, q⟩
    | brk => obtain ⟨_, _, _, q⟩ := hs; exact q.elim
    | cont => obtain ⟨_, _, _, q⟩ := hs; exact q.elim
end
theorem FnG.mono {P : Program} {w : World} {K : PySem.W.Frag} {mg : Str → Option Value} {base : Heap} {j k : Nat} {f : Addr} {fd : FuncData} {ps : List Str} {sp : Sp} (F : FnG P w K mg base j f fd ps sp) (h : j ≤ k) : FnG P w K mg base k f fd ps sp :=
  ⟨F.len, fun A outer s H args us vs Q E hr => F.run A outer s H args us vs Q E (hr.mono h)⟩
/-! ### what a parameter gets -/
def gp {α : Type} (xs ds : List α) : List PM → List α
  | [] => []
  | .a j :: r => (match xs[j]? with
    | some x => x :: gp xs ds r
    | none => gp xs ds r)
  | .d j :: r => (match ds[j]? with
    | some x => x :: gp xs ds r
    | none => gp xs ds r)
theorem vals_get {xs : List V} {us : List Value} (h : Vals xs us) (j : Nat) : (xs[j]? = none ∧ us[j]? = none) ∨ ∃ x u, xs[j]? = some x ∧ us[j]? = some u ∧ RelV x u := by
  cases e : xs[j]? with
  | none => exact .inl ⟨rfl, by rw [List.getElem?_eq_none_iff] at e ⊢; rw [← h.length]; exact e⟩
  | some x =>
    obtain ⟨u, hu, r⟩ := h.get e
    exact .inr ⟨x, u, rfl, hu, r⟩
theorem gp_vals {xs : List V} {us : List Value} {dvs : List V} {its : List Value} (h : Vals xs us) (hd : Vals dvs its) : ∀ pm : List PM, Vals (gp xs dvs pm) (gp us its pm)
  | [] => .nil
  | .a j :: r => by
    rcases vals_get h j with ⟨e1, e2⟩ | ⟨x, u, e1, e2, rl⟩
    · simp only [gp, e1, e2]; exact gp_vals h hd r
    · simp only [gp, e1, e2]; exact .cons rl (gp_vals h hd r)
  | .d j :: r => by
    rcases vals_get hd j with ⟨e1, e2⟩ | ⟨x, u, e1, e2, rl⟩
    · simp only [gp, e1, e2]; exact gp_vals h hd r
    · simp only [gp, e1, e2]; exact .cons rl (gp_vals h hd r)
/-- a way to call: n values by place, the keywords ks -/
structure Shp (K : PySem.W.Frag) (fd : FuncData) (ps : List Str) (n : Nat) (ks : List Str) (pm : List PM) (dvs : List V) : Prop where
  ex : ∃ its, Vals dvs its ∧ ∀ (s : Shared) (us ws : List Value), K.In s.heap → us.length = n → ws.length = ks.length → BindsTo s fd ⟨us, ks.zip ws⟩ (ps.zip (gp (us ++ ws) its pm))
/-- a call of it -/
def tCl (sp : Sp) (dvs : List V) (pm : List PM) (n m : Nat) (W : WX) (t tk : TA) : TE := fun σ H Q => t σ H fun vs H1 => tk σ H1 fun zs H2 => vs.length = n ∧ zs.length = m ∧ sp (gp (vs ++ zs) dvs pm) H2 Q (fun c d H' => W c d σ H')
section
variable {X : Cx} {k n : Nat} {f : Addr} {fd : FuncData} {ps ks : List Str} {sp : Sp} {dvs : List V} {pm : List PM} {W : WX} {x : Str} {p pos : Pos} {e : Expr} {es : List Expr} {kws : List Keyword} {t tk : TA}
theorem run_G {pins : List (Addr × Obj)} {σ : St} {H : Hp} {s : Shared} {Q : VK} {us ws : List Value} {vs zs : List V} (F : FnG X.prog X.w X.K X.mg X.base k f fd ps sp) (hr : Room k X.A) (hgd : X.A.guards = some []) (hb : Shp X.K fd ps n ks pm dvs) (tk : L2N.Takes X W)
    (I : Inv X pins σ H s) (r : Vals vs us) (rz : Vals zs ws) (l1 : vs.length = n) (l2 : zs.length = ks.length) (h : sp (gp (vs ++ zs) dvs pm) H Q (fun c d H' => W c d σ H')) : wpAny (model X.prog X.w) X.A (call (.ref f) us (ks.zip ws)) (EP X pins σ Q) X.xe s := by
  obtain ⟨its, hd, hb⟩ := hb.ex
  refine wpAny_call (codeAny_mono (F.run X.A X.stack s H ⟨us, ks.zip ws⟩ (gp (us ++ ws) its pm) (gp (vs ++ zs) dvs pm) Q _ hr hgd I.env0 (hb s us ws I.kIn (r.length.symm.trans l1) (rz.length.symm.trans l2)) (gp_vals (r.append rz) hd pm) h) fun r s' hq => ?_)
  cases r with
  | error e => exact tk e s' (L2N.XE.of_call I (fun _ _ _ h => h) hq)
  | ok fl =>
    cases fl with
    | ret u => exact I.after hq
    | next => exact False.elim hq
    | brk => exact False.elim hq
    | cont => exact False.elim hq
/-- names of keywords -/
def kwN (kws : List Keyword) : List Str := kws.filterMap fun kw => kw.arg
theorem kw_all (pos : Pos) (env : Env) : ∀ {kws : List Keyword}, kws.all (fun kw => kw.arg.isSome) = true → (backToKw pos (keywordEach kws env)).all (·.1.isSome) = true ∧ (backToKw pos (keywordEach kws env)).any (·.1.isNone) = false ∧ (backToKw pos (keywordEach kws env)).filterMap (·.1) = kwN kws
  | [], _ => ⟨rfl, rfl, rfl⟩
  | ⟨nm, e, kp⟩ :: r, h => by
    rw [List.all_cons, Bool.and_eq_true] at h
    obtain ⟨h1, h2, h3⟩ := kw_all pos env h.2
    cases nm with
    | none => cases h.1
    | some nm =>
      refine ⟨?_, ?_, ?_⟩
      · show (true && (backToKw pos (keywordEach r env)).all (·.1.isSome)) = true
        rw [h1]; rfl
      · show (false || (backToKw pos (keywordEach r env)).any (·.1.isNone)) = false
        rw [h2]; rfl
      · show nm :: (backToKw pos (keywordEach r env)).filterMap (·.1) = nm :: kwN r
        rw [h3]
/-- f(e, ..) -/
theorem pe_cl (F : FnG X.prog X.w X.K X.mg X.base k f fd ps sp) (hr : Room k X.A) (hgd : X.A.guards = some []) (hg : Gl X x) (hm : X.mg x = some (.ref f)) (hk : PySem.W.keepIn X.K (.ref f) = true) (hb : Shp X.K fd ps n (kwN kws) pm dvs) (tkX : L2N.Takes X W)
    (ha : PA X (e :: es) t) (hkw : PK X kws tk) (hs : (e :: es).all noStar = true) (hkn : kws.all (fun kw => kw.arg.isSome) = true) (hdb : (x == ("__debug__" : Str)) = false) :
    PE X (.Call (.Name x p) (e :: es) kws pos) (tCl sp dvs pm n (kwN kws).length W t tk) := by
  refine ⟨fun pins s σ H Q I h => wpAny_Call_Name_kw (ld_glob I hg hm ?_ hdb)⟩
  obtain ⟨k1, k2, k3⟩ := kw_all pos X.env hkn
  rw [List.all_cons, Bool.and_eq_true] at hs
  refine PySem.W.callWith_KW (h₀ := X.base) I.ok.mod.kin hk k1 (thn (ha.run pos pins s σ H _ I h) fun us s1 ⟨vs, H1, I1, r, q⟩ => ?_) ?_ (star_no hs.1)
  · refine thn (hkw.run pos pins s1 σ H1 _ I1 q) fun ws s2 ⟨zs, H2, I2, rz, l1, l2, q2⟩ => ⟨I2.kIn, ?_⟩
    rw [k3]
    exact run_G F hr hgd hb tkX I2 r rz l1 l2 q2
  · rw [k2, star_no hs.1]
    show ((false || (backTo pos (starEach es X.env)).any (·.1)) || false) = false
    rw [nostars hs.2]; rfl
/-- f(), f(k = e, ..) -/
theorem pe_cl0 (F : FnG X.prog X.w X.K X.mg X.base k f fd ps sp) (hr : Room k X.A) (hgd : X.A.guards = some []) (hg : Gl X x) (hm : X.mg x = some (.ref f)) (hk : PySem.W.keepIn X.K (.ref f) = true) (hb : Shp X.K fd ps 0 (kwN kws) pm dvs) (tkX : L2N.Takes X W)
    (hkw : PK X kws tk) (hkn : kws.all (fun kw => kw.arg.isSome) = true) (hdb : (x == ("__debug__" : Str)) = false) :
    PE X (.Call (.Name x p) [] kws pos) (tCl sp dvs pm 0 (kwN kws).length W tNil tk) := by
  refine ⟨fun pins s σ H Q I h => wpAny_Call_Name_kw (ld_glob I hg hm ?_ hdb)⟩
  obtain ⟨k1, k2, k3⟩ := kw_all pos X.env hkn
  refine PySem.W.callWith_KW0 (h₀ := X.base) I.ok.mod.kin hk k1 (thn (hkw.run pos pins s σ H _ I h) fun ws s2 ⟨zs, H2, I2, rz, l1, l2, q2⟩ => ⟨I2.kIn, ?_⟩) (by rw [k2]; rfl)
  rw [k3]
  exact run_G (us := []) (vs := []) F hr hgd hb tkX I2 .nil rz rfl l2 q2
theorem PK.imp {t t' : TA} (h : PK X kws t) (i : ∀ σ H Q, t' σ H Q → t σ H Q) : PK X kws t' := ⟨fun pos pins s σ H Q I q => h.run pos pins s σ H Q I (i σ H Q q)⟩
end
/-! ### arguments -/
structure AVR (k : Wk) (σ : St) (H0 G H : Hp) (st : Slots) (xs : List AV) (us : List V) : Prop where
  len : xs.length = us.length
  v : ∀ (j : Nat) (d : D), xs[j]? = some (.v d) → ∃ u, us[j]? = some u ∧ DR k G d u
  b : ∀ (j i : Nat), xs[j]? = some (.b i) → ∃ u, us[j]? = some u ∧ σ[i]? = some (some u)
  t : ∀ (j : Nat) (d : D), xs[j]? = some (.t d) → ∃ u, us[j]? = some u ∧ vF k σ H0 G H st d u
  tt : ∀ (j j' : Nat) (d d' : D) (u : V), xs[j]? = some (.t d) → xs[j']? = some (.t d') → us[j]? = some u → us[j']? = some u → j = j'
section
variable {k : Wk} {W : WX} {pg : Pg} {cl : CallH} {X : Cx}
theorem one_get {α : Type} {a x : α} {j : Nat} (h : [a][j]? = some x) : j = 0 ∧ x = a := by
  cases j with
  | zero => cases h; exact ⟨rfl, rfl⟩
  | succ j => cases h
theorem AVR.nil {σ : St} {H0 G H : Hp} {st : Slots} : AVR k σ H0 G H st [] [] := ⟨rfl, (fun _ _ h => nomatch h), (fun _ _ h => nomatch h), (fun _ _ h => nomatch h), (fun _ _ _ _ _ h => nomatch h)⟩
theorem AVR.oneV {σ : St} {H0 G H : Hp} {st : Slots} {d : D} {u : V} (h : DR k G d u) : AVR k σ H0 G H st [.v d] [u] := by
  refine ⟨rfl, fun j d' e => ?_, fun j i e => ?_, fun j i e => ?_, fun j j' _ _ _ e => ?_⟩ <;> obtain ⟨rfl, e⟩ := one_get e <;> cases e
  exact ⟨u, rfl, h⟩
theorem AVR.oneB {σ : St} {H0 G H : Hp} {st : Slots} {i : Nat} {u : V} (h : σ[i]? = some (some u)) : AVR k σ H0 G H st [.b i] [u] := by
  refine ⟨rfl, fun j d' e => ?_, fun j i e => ?_, fun j i e => ?_, fun j j' _ _ _ e => ?_⟩ <;> obtain ⟨rfl, e⟩ := one_get e <;> cases e
  exact ⟨u, rfl, h⟩
theorem AVR.oneT {σ : St} {H0 G H : Hp} {st : Slots} {d : D} {u : V} (h : vF k σ H0 G H st d u) : AVR k σ H0 G H st [.t d] [u] := by
  refine ⟨rfl, fun j d' e => ?_, fun j i e => ?_, fun j i e => ?_, fun j j' _ _ _ e e' _ _ => ?_⟩
  · obtain ⟨rfl, e⟩ := one_get e; cases e
  · obtain ⟨rfl, e⟩ := one_get e; cases e
  · obtain ⟨rfl, e⟩ := one_get e; cases e; exact ⟨u, rfl, h⟩
  · obtain ⟨rfl, _⟩ := one_get e
    obtain ⟨rfl, _⟩ := one_get e'
    rfl
theorem get_app {α : Type} {l m : List α} {j : Nat} {x : α} (h : (l ++ m)[j]? = some x) : (j < l.length ∧ l[j]? = some x) ∨ (l.length ≤ j ∧ m[j - l.length]? = some x) := by
  by_cases c : j < l.length
  · rw [List.getElem?_append_left c] at h; exact .inl ⟨c, h⟩
  · rw [List.getElem?_append_right (by omega)] at h; exact .inr ⟨by omega, h⟩
theorem app_l {α : Type} {l m : List α} {j : Nat} {x : α} (h : l[j]? = some x) : (l ++ m)[j]? = some x := by
  rw [List.getElem?_append_left (lt_of_get h)]; exact h
theorem app_r {α : Type} {l m : List α} {j n : Nat} {x : α} (hn : l.length = n) (hj : n ≤ j) (h : m[j - n]? = some x) : (l ++ m)[j]? = some x := by
  rw [List.getElem?_append_right (by omega), hn]; exact h
theorem AVR.append {σ : St} {H0 G1 H1 G2 H2 : Hp} {st1 st2 : Slots} {xs ys : List AV} {us ws : List V} (a : AVR k σ H0 G1 H1 st1 xs us) (m : ∀ c, H1 c = none → H0 c = none) (p : Post k σ st1 G1 H1 σ st2 G2 H2) (b : AVR k σ H1 G2 H2 st2 ys ws) : AVR k σ H0 G2 H2 st2 (xs ++ ys) (us ++ ws) := by
  have hl := a.len
  refine ⟨by rw [List.length_append, List.length_append, hl, b.len], fun j d e => ?_, fun j i e => ?_, fun j d e => ?_, fun j j' d d' u e e' g g' => ?_⟩
  · rcases get_app e with ⟨c, e⟩ | ⟨c, e⟩
    · obtain ⟨u, h1, h2⟩ := a.v j d e
      exact ⟨u, app_l h1, DR.mono p.mono _ _ h2⟩
    · obtain ⟨u, h1, h2⟩ := b.v _ d e
      exact ⟨u, app_r hl.symm c h1, h2⟩
  · rcases get_app e with ⟨c, e⟩ | ⟨c, e⟩
    · obtain ⟨u, h1, h2⟩ := a.b j i e
      exact ⟨u, app_l h1, h2⟩
    · obtain ⟨u, h1, h2⟩ := b.b _ i e
      exact ⟨u, app_r hl.symm c h1, h2⟩
  · rcases get_app e with ⟨c, e⟩ | ⟨c, e⟩
    · obtain ⟨u, h1, h2⟩ := a.t j d e
      exact ⟨u, app_l h1, h2.step p⟩
    · obtain ⟨u, h1, x, o, e1, h3, h4, h5⟩ := b.t _ d e
      exact ⟨u, app_r hl.symm c h1, x, o, e1, h3, m x h4, h5⟩
  · have mix : ∀ (i i' : Nat) (d d' : D), i < xs.length → xs[i]? = some (.t d) → xs.length ≤ i' → ys[i' - xs.length]? = some (.t d') → (us ++ ws)[i]? = some u → (us ++ ws)[i']? = some u → False := fun i i' d d' c e c' e' g g' => by
      obtain ⟨u1, h1, x, o, e1, h3, h4, h5⟩ := a.t i d e
      obtain ⟨u2, h2, y, o', e2, g3, g4, g5⟩ := b.t _ d' e'
      rw [app_l h1] at g
      rw [app_r hl.symm c' h2] at g'
      cases g
      cases g'
      rw [e1] at e2
      cases e2
      rw [h3] at g4
      cases g4
    rcases get_app e with ⟨c, e⟩ | ⟨c, e⟩
    · rcases get_app e' with ⟨c', e'⟩ | ⟨c', e'⟩
      · rw [List.getElem?_append_left (by omega)] at g g'
        exact a.tt j j' d d' u e e' g g'
      · exact (mix j j' d d' c e c' e' g g').elim
    · rcases get_app e' with ⟨c', e'⟩ | ⟨c', e'⟩
      · exact (mix j' j d' d c' e' c e g' g).elim
      · rw [List.getElem?_append_right (by omega), ← hl] at g g'
        have z := b.tt _ _ d d' u e e' g g'
        omega
def tA (k : Wk) (W : WX) (pg : Pg) (cl : CallH) (l : CA) : TA := fun σ H => tR k W (runA pg cl l) (fun G1 H1 st1 xs us => AVR k σ H G1 H1 st1 xs us) σ H
theorem runA_val {c : CE} {r : CA} {s : Slots} : runA pg cl (.val c r) s = (runE pg cl c s).bind fun d s1 => (runA pg cl r s1).bind fun ds s2 => .ok (.v d :: ds) s2 := by simp only [runA]
theorem runA_tmp {c : CE} {r : CA} {s : Slots} : runA pg cl (.tmp c r) s = (runE pg cl c s).bind fun d s1 => (runA pg cl r s1).bind fun ds s2 => .ok (.t d :: ds) s2 := by simp only [runA]
theorem ia_nil {σ : St} {H : Hp} {Q : List V → Hp → Prop} (h : tA k W pg cl .nil σ H Q) : tNil σ H Q := by
  obtain ⟨G, st, r, x, q⟩ := h
  exact q [] st [] G H (by simp only [runA]) (Post.refl r) AVR.nil
theorem ia_val {c : CE} {l : CA} {σ : St} {H : Hp} {Q : List V → Hp → Prop} (h : tA k W pg cl (.val c l) σ H Q) : tCons (tE k W pg cl c) (tA k W pg cl l) σ H Q := by
  obtain ⟨G, st, r, x, q⟩ := h
  rw [runA_val] at x
  refine tR.first r x fun d st1 v G1 H1 e1 p1 v1 x1 => ?_
  refine tR.first p1.rel x1 fun ds st2 vs G2 H2 e2 p2 v2 x2 => ?_
  refine q (.v d :: ds) st2 (v :: vs) G2 H2 ?_ (p1.trans p2) (AVR.append (AVR.oneV v1) p1.dom p2 v2)
  rw [runA_val, e1]
  simp only [R.bind, e2]
theorem ia_tmp {c : CE} {l : CA} {σ : St} {H : Hp} {Q : List V → Hp → Prop} (h : tA k W pg cl (.tmp c l) σ H Q) : tCons (tF k W pg cl c) (tA k W pg cl l) σ H Q := by
  obtain ⟨G, st, r, x, q⟩ := h
  rw [runA_tmp] at x
  refine tR.first r x fun d st1 v G1 H1 e1 p1 v1 x1 => ?_
  refine tR.first p1.rel x1 fun ds st2 vs G2 H2 e2 p2 v2 x2 => ?_
  refine q (.t d :: ds) st2 (v :: vs) G2 H2 ?_ (p1.trans p2) (AVR.append (AVR.oneT v1) p1.dom p2 v2)
  rw [runA_tmp, e1]
  simp only [R.bind, e2]
theorem ownD_at {s : Slots} {i : Nat} {d : D} : ownD s i = some d ↔ ownAt s i = some d := by
  unfold ownD ownAt
  cases s[i]? with
  | none => exact ⟨(fun h => nomatch h), (fun h => nomatch h)⟩
  | some x => cases x <;> exact Iff.rfl
theorem runA_bor {i : Nat} {d : D} {r : CA} {s : Slots} (h : ownD s i = some d) : runA pg cl (.bor i r) s = (runA pg cl r s).bind fun ds s2 => .ok (.b i :: ds) s2 := by simp only [runA, h]
theorem ia_bor {i : Nat} {l : CA} {σ : St} {H : Hp} {Q : List V → Hp → Prop} (h : tA k W pg cl (.bor i l) σ H Q) : tCons (tVar i) (tA k W pg cl l) σ H Q := by
  obtain ⟨G, st, r, x, q⟩ := h
  cases e : ownD st i with
  | none =>
    simp only [runA, e] at x
    exact x.elim
  | some d =>
    rw [runA_bor e] at x
    obtain ⟨a, o, h1, _⟩ := r.ow i d (ownD_at.mp e)
    refine ⟨.ref a, h1, ?_⟩
    refine tR.first r x fun ds st2 vs G2 H2 e2 p2 v2 x2 => ?_
    refine q (.b i :: ds) st2 (.ref a :: vs) G2 H2 ?_ p2 (AVR.append (G1 := G) (H1 := H) (st1 := st) (AVR.oneB h1) (fun _ h => h) p2 v2)
    rw [runA_bor e]
    simp only [R.bind, e2]
theorem sa_nil : PA X [] (tA k W pg cl .nil) := pa_nil.imp fun _ _ _ h => ia_nil h
theorem sa_val {c : CE} {l : CA} {e : Expr} {es : List Expr} (hs : noStar e = true) (h : PE X e (tE k W pg cl c)) (hr : PA X es (tA k W pg cl l)) : PA X (e :: es) (tA k W pg cl (.val c l)) := (pa_cons h hr (star_no hs)).imp fun _ _ _ h => ia_val h
theorem sa_tmp {c : CE} {l : CA} {e : Expr} {es : List Expr} (hs : noStar e = true) (h : PE X e (tF k W pg cl c)) (hr : PA X es (tA k W pg cl l)) : PA X (e :: es) (tA k W pg cl (.tmp c l)) := (pa_cons h hr (star_no hs)).imp fun _ _ _ h => ia_tmp h
theorem sa_bor {i : Nat} {l : CA} {x : Str} {p : Pos} {es : List Expr} (h : PE X (.Name x p) (tVar i)) (hr : PA X es (tA k W pg cl l)) : PA X (.Name x p :: es) (tA k W pg cl (.bor i l)) := (pa_cons h hr (star_no rfl)).imp fun _ _ _ h => ia_bor h
theorem sk_nil : PK X [] (tA k W pg cl .nil) := PK.imp pk_nil fun _ _ _ h => ia_nil h
theorem sk_val {c : CE} {l : CA} {e : Expr} {nm : Option Str} {kp : Pos} {kws : List Keyword} (h : PE X e (tE k W pg cl c)) (hr : PK X kws (tA k W pg cl l)) : PK X (⟨nm, e, kp⟩ :: kws) (tA k W pg cl (.val c l)) := PK.imp (pk_cons h hr) fun _ _ _ h => ia_val h
end
end DL

set_option Elab.async false
set_option linter.all false
set_option maxRecDepth 100000
set_option maxHeartbeats 4000000
namespace DL
open PySem L2 PyProof.Rows
def initA (g : Sig) (ds : List D) : Slots := ds.mapIdx (argS g)
theorem initA_get {g : Sig} {ds : List D} {p : Nat} : (initA g ds)[p]? = (ds[p]?).map (argS g p) := by
  unfold initA
  rw [List.getElem?_mapIdx]
theorem initA_own {g : Sig} {ds : List D} {p : Nat} {d : D} (h : ownAt (initA g ds) p = some d) : ds[p]? = some d ∧ p ∈ g.bor := by
  unfold ownAt at h
  rw [initA_get] at h
  cases e : ds[p]? with
  | none => rw [e] at h; cases h
  | some x =>
    rw [e] at h
    have h' : (argS g p x).own = some d := h
    unfold argS at h'
    split at h'
    · rename_i c
      cases h'
      exact ⟨rfl, by simpa using c⟩
    · cases h'
theorem initA_bor {g : Sig} {ds : List D} {p : Nat} {d : D} (h : ds[p]? = some d) (hb : p ∈ g.bor) : (initA g ds)[p]? = some (.bo d) ∧ ownAt (initA g ds) p = some d := by
  have e : (initA g ds)[p]? = some (.bo d) := by
    rw [initA_get, h]
    show some (argS g p d) = _
    unfold argS
    rw [if_pos (by simpa using hb)]
  exact ⟨e, ownAt_bo e⟩
theorem initA_fr {g : Sig} {ds : List D} {p : Nat} {d : D} (h : (initA g ds)[p]? = some (.fr d)) : ds[p]? = some d ∧ p ∉ g.bor := by
  rw [initA_get] at h
  cases e : ds[p]? with
  | none => rw [e] at h; cases h
  | some x =>
    rw [e] at h
    have h' : some (argS g p x) = some (Sl.fr d) := h
    unfold argS at h'
    split at h'
    · cases h'
    · rename_i c
      cases h'
      exact ⟨rfl, by simpa using c⟩
section
variable {k : Wk} {W : WX} {pg : Pg} {cl : CallH} {X : Cx}
/-- the parameter p's source -/
theorem argsOf_get {s : Slots} {xs : List AV} {dfl : List D} : ∀ {pm : List PM} {ds : List D} {p : Nat} {d : D}, argsOf s xs dfl pm = some ds → ds[p]? = some d → ∃ m, pm[p]? = some m ∧ argD s xs dfl m = some d
  | [], ds, p, d, h, e => by cases h; cases e
  | m :: r, ds, p, d, h, e => by
    simp only [argsOf] at h
    cases e1 : argD s xs dfl m with
    | none => rw [e1] at h; cases h
    | some x =>
      cases e2 : argsOf s xs dfl r with
      | none => rw [e1, e2] at h; cases h
      | some dr =>
        rw [e1, e2] at h
        cases h
        cases p with
        | zero => cases e; exact ⟨m, rfl, e1⟩
        | succ p => exact argsOf_get (pm := r) (p := p) e2 e
theorem argsOf_len {s : Slots} {xs : List AV} {dfl : List D} : ∀ {pm : List PM} {ds : List D}, argsOf s xs dfl pm = some ds → ds.length = pm.length
  | [], ds, h => by cases h; rfl
  | m :: r, ds, h => by
    simp only [argsOf] at h
    cases e1 : argD s xs dfl m with
    | none => rw [e1] at h; cases h
    | some x =>
      cases e2 : argsOf s xs dfl r with
      | none => rw [e1, e2] at h; cases h
      | some dr =>
        rw [e1, e2] at h
        cases h
        rw [List.length_cons, List.length_cons, argsOf_len e2]
/-- all values stand: the picked list is as long as pm -/
theorem gp_get {α : Type} {us ds : List α} : ∀ {pm : List PM} {p : Nat} {m : PM}, (∀ m ∈ pm, match m with | .a j => j < us.length | .d j => j < ds.length) → pm[p]? = some m → (gp us ds pm)[p]? = (match m with | .a j => us[j]? | .d j => ds[j]?)
  | [], p, m, h, e => by cases e
  | .a j :: r, p, m, h, e => by
    have hj : j < us.length := h (.a j) (List.mem_cons_self ..)
    have e1 : us[j]? = some us[j] := List.getElem?_eq_getElem hj
    simp only [gp, e1]
    cases p with
    | zero => cases e; exact e1.symm
    | succ p => exact gp_get (fun m hm => h m (List.mem_cons_of_mem _ hm)) e
  | .d j :: r, p, m, h, e => by
    have hj : j < ds.length := h (.d j) (List.mem_cons_self ..)
    have e1 : ds[j]? = some ds[j] := List.getElem?_eq_getElem hj
    simp only [gp, e1]
    cases p with
    | zero => cases e; exact e1.symm
    | succ p => exact gp_get (fun m hm => h m (List.mem_cons_of_mem _ hm)) e
theorem gp_len {α : Type} {us ds : List α} : ∀ {pm : List PM}, (∀ m ∈ pm, match m with | .a j => j < us.length | .d j => j < ds.length) → (gp us ds pm).length = pm.length
  | [], h => rfl
  | .a j :: r, h => by
    have hj : j < us.length := h (.a j) (List.mem_cons_self ..)
    have e1 : us[j]? = some us[j] := List.getElem?_eq_getElem hj
    simp only [gp, e1, List.length_cons, gp_len (fun m hm => h m (List.mem_cons_of_mem _ hm))]
  | .d j :: r, h => by
    have hj : j < ds.length := h (.d j) (List.mem_cons_self ..)
    have e1 : ds[j]? = some ds[j] := List.getElem?_eq_getElem hj
    simp only [gp, e1, List.length_cons, gp_len (fun m hm => h m (List.mem_cons_of_mem _ hm))]
theorem lendP_at {bor : List Nat} {xs : List AV} : ∀ {pm : List PM} {q p : Nat} {m : PM}, lendP bor xs q pm = true → pm[p]? = some m → (match m with | .a j => (match xs[j]? with | some (.v _) => (q + p) ∉ bor | some _ => (q + p) ∈ bor | none => False) | .d _ => (q + p) ∉ bor)
  | [], q, p, m, h, e => by cases e
  | .a j :: r, q, 0, m, h, e => by
    cases e
    simp only [lendP, Bool.and_eq_true] at h
    have h1 := h.1
    show (match xs[j]? with | some (.v _) => q ∉ bor | some _ => q ∈ bor | none => False)
    cases e1 : xs[j]? with
    | none => rw [e1] at h1; cases h1
    | some x =>
      rw [e1] at h1
      cases x <;> simpa using h1
  | .d j :: r, q, 0, m, h, e => by
    cases e
    simp only [lendP, Bool.and_eq_true] at h
    show q ∉ bor
    simpa using h.1
  | .a j :: r, q, p + 1, m, h, e => by
    simp only [lendP, Bool.and_eq_true] at h
    have z := lendP_at (p := p) h.2 e
    rw [show q + 1 + p = q + (p + 1) by omega] at z
    exact z
  | .d j :: r, q, p + 1, m, h, e => by
    simp only [lendP, Bool.and_eq_true] at h
    have z := lendP_at (p := p) h.2 e
    rw [show q + 1 + p = q + (p + 1) by omega] at z
    exact z
theorem pmA_inj : ∀ {pm : List PM} {p p' j : Nat}, (pmA pm).Nodup → pm[p]? = some (.a j) → pm[p']? = some (.a j) → p = p'
  | [], p, p', j, h, e, e' => by cases e
  | .d i :: r, p, p', j, h, e, e' => by
    cases p with
    | zero => cases e
    | succ p =>
      cases p' with
      | zero => cases e'
      | succ p' => rw [pmA_inj (pm := r) h e e']
  | .a i :: r, p, p', j, h, e, e' => by
    have hm : ∀ {l : List PM} {q : Nat}, l[q]? = some (.a j) → j ∈ pmA l := fun {l} => by
      induction l with
      | nil => intro q e; cases e
      | cons m l ih =>
        intro q e
        cases q with
        | zero => cases e; exact List.mem_cons_self ..
        | succ q =>
          have := ih (q := q) e
          cases m with
          | a i => exact List.mem_cons_of_mem _ this
          | d i => exact this
    have nd := List.nodup_cons.mp (show (i :: pmA r).Nodup from h)
    cases p with
    | zero =>
      cases e
      cases p' with
      | zero => rfl
      | succ p' => exact absurd (hm (l := r) (q := p') e') nd.1
    | succ p =>
      cases p' with
      | zero => cases e'; exact absurd (hm (l := r) (q := p) e) nd.1
      | succ p' => rw [pmA_inj (pm := r) nd.2 e e']
theorem avB_inj : ∀ {xs : List AV} {p p' j : Nat}, (avB xs).Nodup → xs[p]? = some (.b j) → xs[p']? = some (.b j) → p = p' := by
  intro xs
  have hm : ∀ {l : List AV} {q j : Nat}, l[q]? = some (.b j) → j ∈ avB l := fun {l} => by
    induction l with
    | nil => intro q j e; cases e
    | cons m l ih =>
      intro q j e
      cases q with
      | zero => cases e; exact List.mem_cons_self ..
      | succ q =>
        have := ih (q := q) e
        cases m with
        | b i => exact List.mem_cons_of_mem _ this
        | v i => exact this
        | t i => exact this
  induction xs with
  | nil => intro p p' j h e; cases e
  | cons x r ih =>
    intro p p' j h e e'
    cases p with
    | zero =>
      cases e
      cases p' with
      | zero => rfl
      | succ p' => exact absurd (hm (l := r) (q := p') e') (List.nodup_cons.mp (show (j :: avB r).Nodup from h)).1
    | succ p =>
      cases p' with
      | zero => cases e'; exact absurd (hm (l := r) (q := p) e) (List.nodup_cons.mp (show (j :: avB r).Nodup from h)).1
      | succ p' =>
        refine congrArg Nat.succ (ih ?_ e e')
        cases x with
        | b i => exact (List.nodup_cons.mp (show (i :: avB r).Nodup from h)).2
        | v i => exact h
        | t i => exact h
/-- the arguments at a call -/
structure Args0 (k : Wk) (sg : Sig) (σ : St) (H0 G H : Hp) (st : Slots) (xs : List AV) (us : List V) (pm : List PM) (dvs : List V) (ds : List D) : Prop where
  ok : lendOk sg xs pm = true
  av : AVR k σ H0 G H st xs us
  ds : argsOf st xs sg.dfl pm = some ds
  dv : DRs k G sg.dfl dvs
section
variable {sg : Sig} {σ : St} {H0 G H : Hp} {st : Slots} {xs : List AV} {us : List V} {pm : List PM} {dvs : List V} {ds : List D}
theorem Args0.parts (a : Args0 k sg σ H0 G H st xs us pm dvs ds) : lendP sg.bor xs 0 pm = true ∧ (pmA pm).Nodup ∧ (avB xs).Nodup ∧ pm.length = sg.np := by
  have h := a.ok
  unfold lendOk at h
  simp only [Bool.and_eq_true, decide_eq_true_eq] at h
  exact ⟨h.1.1.1, h.1.1.2, h.1.2, h.2⟩
theorem Args0.all (a : Args0 k sg σ H0 G H st xs us pm dvs ds) : ∀ m ∈ pm, match m with | .a j => j < us.length | .d j => j < dvs.length := by
  intro m hm
  obtain ⟨p, e⟩ := List.mem_iff_getElem?.mp hm
  have hp : p < ds.length := by rw [argsOf_len a.ds]; exact lt_of_get e
  obtain ⟨m', e1, e2⟩ := argsOf_get a.ds (List.getElem?_eq_getElem hp)
  rw [e] at e1
  cases e1
  cases m with
  | a j =>
    show j < us.length
    rw [← a.av.len]
    simp only [argD] at e2
    cases e3 : xs[j]? with
    | none => rw [e3] at e2; cases e2
    | some x => exact lt_of_get e3
  | d j =>
    show j < dvs.length
    rw [← a.dv.length]
    exact lt_of_get (show sg.dfl[j]? = some _ from e2)
/-- what the parameter p holds: three kinds -/
theorem Args0.at (a : Args0 k sg σ H0 G H st xs us pm dvs ds) {p : Nat} {d : D} (h : ds[p]? = some d) : ∃ v, (gp us dvs pm)[p]? = some v ∧
    ((p ∉ sg.bor ∧ DR k G d v) ∨ (p ∈ sg.bor ∧ ∃ j i, pm[p]? = some (.a j) ∧ xs[j]? = some (.b i) ∧ ownAt st i = some d ∧ σ[i]? = some (some v)) ∨ (p ∈ sg.bor ∧ ∃ j, pm[p]? = some (.a j) ∧ us[j]? = some v ∧ xs[j]? = some (.t d) ∧ vF k σ H0 G H st d v)) := by
  obtain ⟨m, e1, e2⟩ := argsOf_get a.ds h
  have hl := lendP_at a.parts.1 e1
  have hg := gp_get a.all e1
  rw [Nat.zero_add] at hl
  cases m with
  | d j =>
    obtain ⟨v, w1, w2⟩ := DRs.get a.dv (show sg.dfl[j]? = some d from e2)
    exact ⟨v, hg.trans w1, .inl ⟨hl, w2⟩⟩
  | a j =>
    simp only [argD] at e2
    cases e3 : xs[j]? with
    | none => rw [e3] at e2; cases e2
    | some x =>
      simp only [e3] at e2 hl
      cases x with
      | v d' =>
        cases e2
        obtain ⟨u, w1, w2⟩ := a.av.v j _ e3
        exact ⟨u, hg.trans w1, .inl ⟨hl, w2⟩⟩
      | b i =>
        obtain ⟨u, w1, w2⟩ := a.av.b j _ e3
        exact ⟨u, hg.trans w1, .inr (.inl ⟨hl, j, i, e1, e3, ownD_at.mp e2, w2⟩)⟩
      | t d' =>
        cases e2
        obtain ⟨u, w1, w2⟩ := a.av.t j _ e3
        exact ⟨u, hg.trans w1, .inr (.inr ⟨hl, j, e1, w1, e3, w2⟩)⟩
theorem map_some_get {vs : List V} {p : Nat} {v : V} : (vs.map some)[p]? = some (some v) ↔ vs[p]? = some v := by
  rw [List.getElem?_map]
  cases vs[p]? with
  | none => exact ⟨(fun h => nomatch h), (fun h => nomatch h)⟩
  | some x => exact ⟨fun h => by cases h; rfl, fun h => by cases h; rfl⟩
theorem Args0.rel (a : Args0 k sg σ H0 G H st xs us pm dvs ds) (r : Rel k G H σ st) : Rel k G H ((gp us dvs pm).map some) (initA sg ds) := by
  have P := a.parts
  refine ⟨r.sub, ?_, fun p d e => ?_, fun p d e => ?_, fun p p' d d' c e e' g g' => ?_⟩
  · rw [List.length_map, gp_len a.all, ← argsOf_len a.ds]
    exact List.length_mapIdx
  · obtain ⟨e1, e2⟩ := initA_fr e
    obtain ⟨v, h1, h2⟩ := a.at e1
    refine ⟨v, map_some_get.mpr h1, ?_⟩
    rcases h2 with h2 | h2 | h2
    · exact h2.2
    · exact absurd h2.1 e2
    · exact absurd h2.1 e2
  · obtain ⟨e1, e2⟩ := initA_own e
    obtain ⟨v, h1, h2⟩ := a.at e1
    rcases h2 with h2 | ⟨_, j, i, m1, m2, m3, m4⟩ | ⟨_, j, m1, m2, m3, b, o, rfl, w1, w2, w3, w4, w5⟩
    · exact absurd e2 h2.1
    · obtain ⟨b, o, z1, z2, z3, z4⟩ := r.ow i d m3
      rw [z1] at m4
      cases m4
      exact ⟨b, o, map_some_get.mpr h1, z2, z3, z4⟩
    · exact ⟨b, o, map_some_get.mpr h1, w1, w3, w5⟩
  · obtain ⟨e1, e2⟩ := initA_own e
    obtain ⟨e1', e2'⟩ := initA_own e'
    obtain ⟨v, h1, h2⟩ := a.at e1
    obtain ⟨v', h1', h2'⟩ := a.at e1'
    have g := map_some_get.mp g
    have g' := map_some_get.mp g'
    rw [h1] at g
    rw [h1'] at g'
    cases g
    cases g'
    rcases h2 with h2 | ⟨_, j, i, m1, m2, m3, m4⟩ | ⟨_, j, m1, m2, m3, m4⟩
    · exact absurd e2 h2.1
    · rcases h2' with h2' | ⟨_, j', i', m1', m2', m3', m4'⟩ | ⟨_, j', m1', m2', m3', m4'⟩
      · exact absurd e2' h2'.1
      · have := r.inj i i' d d' c m3 m3' m4 m4'
        subst this
        have := avB_inj P.2.2.1 m2 m2'
        subst this
        exact pmA_inj P.2.1 m1 m1'
      · obtain ⟨b, o, w0, w1, w2, w3, w4, w5⟩ := m4'
        cases w0
        exact absurd ⟨i, d, m3, m4⟩ w4
    · rcases h2' with h2' | ⟨_, j', i', m1', m2', m3', m4'⟩ | ⟨_, j', m1', m2', m3', m4'⟩
      · exact absurd e2' h2'.1
      · obtain ⟨b, o, w0, w1, w2, w3, w4, w5⟩ := m4
        cases w0
        exact absurd ⟨i', d', m3', m4'⟩ w4
      · have := a.av.tt j j' d d' _ m3 m3' m2 m2'
        subst this
        exact pmA_inj P.2.1 m1 m1'
/-- an address that an argument owns: of a lent slot, or a new one -/
theorem Args0.own (a : Args0 k sg σ H0 G H st xs us pm dvs ds) {c : Addr} (h : Own ((gp us dvs pm).map some) (initA sg ds) c) : Own σ st c ∨ (H0 c = none ∧ ¬ Own σ st c) := by
  obtain ⟨p, d, e, g⟩ := h
  obtain ⟨e1, e2⟩ := initA_own e
  obtain ⟨v, h1, h2⟩ := a.at e1
  have g := map_some_get.mp g
  rw [h1] at g
  cases g
  rcases h2 with h2 | ⟨_, j, i, m1, m2, m3, m4⟩ | ⟨_, j, m1, m2, m3, b, o, w0, w1, w2, w3, w4, w5⟩
  · exact absurd e2 h2.1
  · exact .inl ⟨i, d, m3, m4⟩
  · cases w0
    exact .inr ⟨w2, w4⟩
/-- what the slots hold behind the call -/
theorem giveBack_get : ∀ {pm : List PM} {outs : List D} {s s' : Slots}, (pmA pm).Nodup → (avB xs).Nodup → giveBack xs pm outs s = some s' → s'.length = s.length ∧ ∀ (i : Nat), (∀ (p j : Nat), pm[p]? = some (.a j) → xs[j]? ≠ some (.b i)) ∧ s'[i]? = s[i]? ∨ ∃ (p j : Nat) (d : D) (x : Sl), pm[p]? = some (.a j) ∧ xs[j]? = some (.b i) ∧ outs[p]? = some d ∧ s[i]? = some x ∧ x.plain = false ∧ s'[i]? = some (x.keep d)
  | [], [], s, s', _, _, h => by cases h; exact ⟨rfl, fun i => .inl ⟨(fun p j e => nomatch e), rfl⟩⟩
  | [], _ :: _, s, s', _, _, h => by cases h
  | .a j :: r, [], s, s', _, _, h => by cases h
  | .d j :: r, [], s, s', _, _, h => by cases h
  | .d j :: r, o :: outs, s, s', n1, n2, h => by
    obtain ⟨hl, hs⟩ := giveBack_get (pm := r) n1 n2 (show giveBack xs r outs s = some s' from h)
    refine ⟨hl, fun i => ?_⟩
    rcases hs i with ⟨z1, z2⟩ | ⟨p, j', d, x, z1, z2⟩
    · refine .inl ⟨fun p j' e => ?_, z2⟩
      cases p with
      | zero => cases e
      | succ p => exact z1 p j' e
    · exact .inr ⟨p + 1, j', d, x, z1, z2⟩
  | .a j :: r, o :: outs, s, s', n1, n2, h => by
    have nd := List.nodup_cons.mp (show (j :: pmA r).Nodup from n1)
    have pass : giveBack xs r outs s = some s' → (∀ i : Nat, xs[j]? ≠ some (.b i)) → s'.length = s.length ∧ ∀ (i : Nat), (∀ (p j' : Nat), (PM.a j :: r)[p]? = some (.a j') → xs[j']? ≠ some (.b i)) ∧ s'[i]? = s[i]? ∨ ∃ (p j' : Nat) (d : D) (x : Sl), (PM.a j :: r)[p]? = some (.a j') ∧ xs[j']? = some (.b i) ∧ (o :: outs)[p]? = some d ∧ s[i]? = some x ∧ x.plain = false ∧ s'[i]? = some (x.keep d) := fun h' hn => by
      obtain ⟨hl, hs⟩ := giveBack_get (pm := r) nd.2 n2 h'
      refine ⟨hl, fun i => ?_⟩
      rcases hs i with ⟨z1, z2⟩ | ⟨p, j', d, x, z1, z2⟩
      · refine .inl ⟨fun p j' e => ?_, z2⟩
        cases p with
        | zero => cases e; exact hn i
        | succ p => exact z1 p j' e
      · exact .inr ⟨p + 1, j', d, x, z1, z2⟩
    have lend : ∀ (i0 : Nat) (x0 : Sl), xs[j]? = some (.b i0) → s[i0]? = some x0 → x0.plain = false → giveBack xs r outs (s.set i0 (x0.keep o)) = some s' → s'.length = s.length ∧ ∀ (i : Nat), (∀ (p j' : Nat), (PM.a j :: r)[p]? = some (.a j') → xs[j']? ≠ some (.b i)) ∧ s'[i]? = s[i]? ∨ ∃ (p j' : Nat) (d : D) (x : Sl), (PM.a j :: r)[p]? = some (.a j') ∧ xs[j']? = some (.b i) ∧ (o :: outs)[p]? = some d ∧ s[i]? = some x ∧ x.plain = false ∧ s'[i]? = some (x.keep d) := fun i0 x0 g1 g2 g3 h' => by
      obtain ⟨hl, hs⟩ := giveBack_get (pm := r) nd.2 n2 h'
      rw [List.length_set] at hl
      refine ⟨hl, fun i => ?_⟩
      by_cases c : i0 = i
      · subst c
        refine .inr ⟨0, j, o, x0, rfl, g1, rfl, g2, g3, ?_⟩
        rcases hs i0 with ⟨z1, z2⟩ | ⟨p, j', d, x, z1, z2, _⟩
        · rw [z2, List.getElem?_set_self (lt_of_get g2)]
        · exfalso
          have := avB_inj n2 g1 z2
          subst this
          exact nd.1 (by
            have hm : ∀ {l : List PM} {q : Nat}, l[q]? = some (.a j) → j ∈ pmA l := fun {l} => by
              induction l with
              | nil => intro q e; cases e
              | cons m l ih =>
                intro q e
                cases q with
                | zero => cases e; exact List.mem_cons_self ..
                | succ q =>
                  have := ih (q := q) e
                  cases m with
                  | a i => exact List.mem_cons_of_mem _ this
                  | d i => exact this
            exact hm z1)
      · rcases hs i with ⟨z1, z2⟩ | ⟨p, j', d, x, z1, z2, z3, z4, z5⟩
        · refine .inl ⟨fun p j' e => ?_, by rw [z2, List.getElem?_set_ne c]⟩
          cases p with
          | zero =>
            cases e
            intro z
            rw [g1] at z
            cases z
            exact c rfl
          | succ p => exact z1 p j' e
        · rw [List.getElem?_set_ne c] at z4
          exact .inr ⟨p + 1, j', d, x, z1, z2, z3, z4, z5⟩
    simp only [giveBack] at h
    cases e1 : xs[j]? with
    | none => simp only [e1] at h; exact pass h (fun i z => by rw [e1] at z; cases z)
    | some y =>
      cases y with
      | v d => simp only [e1] at h; exact pass h (fun i z => by rw [e1] at z; cases z)
      | t d => simp only [e1] at h; exact pass h (fun i z => by rw [e1] at z; cases z)
      | b i0 =>
        simp only [e1] at h
        cases e2 : s[i0]? with
        | none => simp only [e2] at h; cases h
        | some x0 =>
          cases x0 with
          | no => simp only [e2] at h; cases h
          | fr d => simp only [e2] at h; cases h
          | ow d => simp only [e2] at h; exact lend i0 (.ow d) e1 e2 rfl h
          | bo d => simp only [e2] at h; exact lend i0 (.bo d) e1 e2 rfl h
/-- THE CALL: what the callee did, as the caller sees it -/
theorem Args0.post {σ0 : St} {st0 : Slots} {G0 G' H' : Hp} {outs : List D} {st2 : Slots} (a : Args0 k sg σ H0 G H st xs us pm dvs ds) (p0 : Post k σ0 st0 G0 H0 σ st G H) (p : Post k ((gp us dvs pm).map some) (initA sg ds) G H ((gp us dvs pm).map some) (initA sg outs) G' H') (hb : giveBack xs pm outs st = some st2) : Post k σ0 st0 G0 H0 σ st2 G' H' := by
  have P := a.parts
  obtain ⟨hl, hg⟩ := giveBack_get P.2.1 P.2.2.1 hb
  have r := p0.rel
  -- an owned slot behind the call was owned ahead of it
  have ow : ∀ i d', ownAt st2 i = some d' → ∃ d, ownAt st i = some d := fun i d' e => by
    rcases hg i with ⟨_, z⟩ | ⟨_, _, d, x, _, _, _, z, z2, z3⟩
    · unfold ownAt at e ⊢
      rw [z] at e
      exact ⟨d', e⟩
    · unfold ownAt
      rw [z]
      cases x with
      | ow d => exact ⟨d, rfl⟩
      | bo d => exact ⟨d, rfl⟩
      | no => cases z2
      | fr d => cases z2
  refine ⟨p0.mono.trans p.mono, fun c o e n => ?_, fun c o e => ?_, fun c ⟨i, d, e1, e2⟩ => ?_, fun c e => p0.dom c (p.dom c e), fun i d e => ?_, ⟨p.rel.sub, by rw [hl]; exact r.len, fun i d e => ?_, fun i d e => ?_, fun i i' d d' c e e' g g' => ?_⟩⟩
  · refine p.keep c o (p0.keep c o e n) fun z => ?_
    rcases a.own z with z | z
    · rcases p0.own c z with z | z
      · exact n z
      · rw [z] at e; cases e
    · rw [z.1] at e; cases e
  · rcases p.new c o e with z | z | z
    · exact p0.new c o z
    · exact .inr (.inl (p0.dom c z))
    · rcases a.own z with z | z
      · rcases p0.own c z with z | z
        · exact .inr (.inr z)
        · exact .inr (.inl z)
      · exact .inr (.inl z.1)
  · obtain ⟨d1, z⟩ := ow i d e1
    exact p0.own c ⟨i, d1, z, e2⟩
  · obtain ⟨⟨d1, h1⟩, h2⟩ := p0.bo i d e
    refine ⟨?_, h2⟩
    rcases hg i with ⟨_, z⟩ | ⟨_, _, d3, x, _, _, _, z, z2, z3⟩
    · exact ⟨d1, by rw [z]; exact h1⟩
    · rw [h1] at z
      cases z
      exact ⟨d3, z3⟩
  · rcases hg i with ⟨_, z⟩ | ⟨_, _, d3, x, _, _, _, z, z2, z3⟩
    · rw [z] at e
      obtain ⟨v, h1, h2⟩ := r.fr i d e
      exact ⟨v, h1, DR.mono p.mono _ _ h2⟩
    · rw [z3] at e
      cases x <;> cases e
  · rcases hg i with ⟨z1, z⟩ | ⟨q, j, d3, x, z1, z2, z3, z4, z5, z6⟩
    · -- not lent
      have e' : ownAt st i = some d := by unfold ownAt at e ⊢; rw [z] at e; exact e
      obtain ⟨c, o, h1, h2, h3, h4⟩ := r.ow i d e'
      have nown : ¬ Own ((gp us dvs pm).map some) (initA sg ds) c := fun ⟨q, d1, g1, g2⟩ => by
        obtain ⟨f1, f2⟩ := initA_own g1
        obtain ⟨v, f3, f4⟩ := a.at f1
        have g2 := map_some_get.mp g2
        rw [f3] at g2
        cases g2
        rcases f4 with f4 | ⟨_, j, i', m1, m2, m3, m4⟩ | ⟨_, j, m1, m2, m3, b, o, w0, w1, w2, w3, w4, w5⟩
        · exact f4.1 f2
        · have := r.inj i i' d d1 c e' m3 h1 m4
          subst this
          exact z1 q j m1 m2
        · cases w0
          exact w4 ⟨i, d, e', h1⟩
      refine ⟨c, o, h1, p.keep c o h2 nown, ?_, OR.mono p.mono h4⟩
      cases e2 : G' c with
      | none => rfl
      | some u =>
        rcases p.new c u e2 with z | z | z
        · rw [h3] at z; cases z
        · rw [h2] at z; cases z
        · exact absurd z nown
    · -- lent
      have e' : d3 = d := by
        unfold ownAt at e
        rw [z6] at e
        have e2 : (x.keep d3).own = some d := e
        cases x <;> (cases e2; rfl)
      subst e'
      have hq : q < ds.length := by rw [argsOf_len a.ds]; exact lt_of_get z1
      have hb := lendP_at P.1 z1
      rw [Nat.zero_add] at hb
      simp only [z2] at hb
      obtain ⟨g1, g2⟩ := initA_bor (g := sg) z3 hb
      obtain ⟨c, o, h1, h2, h3, h4⟩ := p.rel.ow q d3 g2
      obtain ⟨u, w1, w2⟩ := a.av.b j i z2
      have hv : (gp us dvs pm)[q]? = some u := (gp_get a.all z1).trans w1
      have h1 := map_some_get.mp h1
      rw [hv] at h1
      cases h1
      exact ⟨c, o, w2, h2, h3, h4⟩
  · obtain ⟨d1, z⟩ := ow i d e
    obtain ⟨d2, z'⟩ := ow i' d' e'
    exact r.inj i i' d1 d2 c z z' g g'
end
end
end DL

set_option Elab.async false
set_option linter.all false
set_option maxRecDepth 100000
set_option maxHeartbeats 4000000
namespace DL
open PySem L2 PyProof.Rows
/-- what a call gives: data, or a new object -/
def RFr (k : Wk) (fr : Bool) (H G' H' : Hp) (d : D) (v : V) : Prop := if fr = true then ∃ a o, v = .ref a ∧ H' a = some o ∧ G' a = none ∧ H a = none ∧ OR k G' d o else DR k G' d v
def spR (k : Wk) (sg : Sig) (vs : List V) (G H : Hp) (ds : List D) (Q : VK) (E : XK) : RF → Prop
  | .ok d outs => ∀ v G' H', Post k (vs.map some) (initA sg ds) G H (vs.map some) (initA sg outs) G' H' → RFr k sg.fresh H G' H' d v → Q v H'
  | .exc c fs outs => ∀ cls dd G' H', Post k (vs.map some) (initA sg ds) G H (vs.map some) (initA sg outs) G' H' → XR k G' H' c fs cls dd → E cls dd H'
  | .bad => False
/-- a def's promise -/
def spD (k : Wk) (cl : CallH) (f : Nat) (sg : Sig) : Sp := fun vs H Q E => ∃ G ds, Rel k G H (vs.map some) (initA sg ds) ∧ ds.length = sg.np ∧ spR k sg vs G H ds Q E (cl f ds)
def CA.len : CA → Nat
  | .nil => 0
  | .val _ r => r.len + 1
  | .bor _ r => r.len + 1
  | .tmp _ r => r.len + 1
section
variable {k : Wk} {W : WX} {pg : Pg} {cl : CallH} {X : Cx} {wl : Nat}
theorem runA_len : ∀ {l : CA} {s s' : Slots} {xs : List AV}, runA pg cl l s = .ok xs s' → xs.length = l.len
  | .nil, s, s', xs, h => by simp only [runA] at h; cases h; rfl
  | .val c r, s, s', xs, h => by
    rw [runA_val] at h
    obtain ⟨d, s1, e1, h⟩ := bind_ok h
    obtain ⟨ds, s2, e2, h⟩ := bind_ok h
    cases h
    rw [List.length_cons, runA_len e2]
    rfl
  | .tmp c r, s, s', xs, h => by
    rw [runA_tmp] at h
    obtain ⟨d, s1, e1, h⟩ := bind_ok h
    obtain ⟨ds, s2, e2, h⟩ := bind_ok h
    cases h
    rw [List.length_cons, runA_len e2]
    rfl
  | .bor i r, s, s', xs, h => by
    cases e : ownD s i with
    | none => simp only [runA, e] at h; cases h
    | some d =>
      rw [runA_bor e] at h
      obtain ⟨ds, s2, e2, h⟩ := bind_ok h
      cases h
      rw [List.length_cons, runA_len e2]
      rfl
theorem call_run {f : Nat} {pm : List PM} {l lk : CA} {s : Slots} : runE pg cl (.call f pm l lk) s = (runA pg cl l s).bind fun xs s1 => (runA pg cl lk s1).bind fun zs s2 => doCall cl pg.sig f pm (xs ++ zs) s2 := by simp only [runE]
/-- what a call that is not bad did -/
theorem doCall_inv {sigs : Nat → Option Sig} {f : Nat} {pm : List PM} {xs : List AV} {s : Slots} {sg : Sig} (hs : sigs f = some sg) : doCall cl sigs f pm xs s = .bad ∨ (lendOk sg xs pm = true ∧ ∃ ds, argsOf s xs sg.dfl pm = some ds ∧ ((∃ d outs s', cl f ds = .ok d outs ∧ giveBack xs pm outs s = some s' ∧ doCall cl sigs f pm xs s = .ok d s') ∨ ∃ c fs outs s', cl f ds = .exc c fs outs ∧ giveBack xs pm outs s = some s' ∧ doCall cl sigs f pm xs s = .exc c fs s')) := by
  unfold doCall
  simp only [hs]
  by_cases h1 : lendOk sg xs pm = true
  · simp only [if_pos h1]
    cases h2 : argsOf s xs sg.dfl pm with
    | none => exact .inl rfl
    | some ds =>
      cases h3 : cl f ds with
      | bad => simp only [h3]; exact .inl trivial
      | ok d outs =>
        simp only [h3]
        cases h4 : giveBack xs pm outs s with
        | none => exact .inl rfl
        | some s' => exact .inr ⟨h1, ds, rfl, .inl ⟨d, outs, s', h3, h4, by simp only [h4]⟩⟩
      | exc c fs outs =>
        simp only [h3]
        cases h4 : giveBack xs pm outs s with
        | none => exact .inl rfl
        | some s' => exact .inr ⟨h1, ds, rfl, .inr ⟨c, fs, outs, s', h3, h4, by simp only [h4]⟩⟩
  · simp only [if_neg h1]
    exact .inl trivial
theorem own_back {sg : Sig} {σ : St} {H0 G H : Hp} {st st2 : Slots} {xs : List AV} {us : List V} {pm : List PM} {dvs : List V} {ds outs : List D} (a : Args0 k sg σ H0 G H st xs us pm dvs ds) (hb : giveBack xs pm outs st = some st2) {c : Addr} (h : Own σ st2 c) : Own σ st c := by
  obtain ⟨i, d, e1, e2⟩ := h
  obtain ⟨hl, hg⟩ := giveBack_get a.parts.2.1 a.parts.2.2.1 hb
  rcases hg i with ⟨_, z⟩ | ⟨_, _, d3, x, _, _, _, z, z2, z3⟩
  · unfold ownAt at e1
    rw [z] at e1
    exact ⟨i, d, e1, e2⟩
  · cases x with
    | ow d => exact ⟨i, d, ownAt_ow z, e2⟩
    | bo d => exact ⟨i, d, ownAt_bo z, e2⟩
    | no => cases z2
    | fr d => cases z2
/-- from the core's call to the callee's promise; vr: how the result is related -/
theorem call_imp {f : Nat} {pm : List PM} {l lk : CA} {sg : Sig} {dvs : List V} {vr : St → Hp → Hp → Hp → Slots → D → V → Prop} {σ : St} {H : Hp} {Q : VK} (hs : pg.sig f = some sg) (hd : ∀ G, DRs k G sg.dfl dvs)
    (hv : ∀ (σ : St) (H H2 G' H' : Hp) (st2 st3 : Slots) (d : D) (v : V), (∀ a, H2 a = none → H a = none) → (∀ c, Own σ st3 c → Own σ st2 c) → (∀ c, Own σ st2 c → ∃ o, H2 c = some o) → RFr k sg.fresh H2 G' H' d v → vr σ H G' H' st3 d v)
    (h : tR k W (runE pg cl (.call f pm l lk)) (vr σ H) σ H Q) : tCl (spD k cl f sg) dvs pm l.len lk.len W (tA k W pg cl l) (tA k W pg cl lk) σ H Q := by
  obtain ⟨G, st, r, x, q⟩ := h
  have x' := x
  rw [call_run] at x'
  refine tR.first r x' fun xs st1 us G1 H1 e1 p1 v1 x1 => ?_
  refine tR.first p1.rel x1 fun zs st2 ws G2 H2 e2 p2 v2 x2 => ?_
  have er : runE pg cl (.call f pm l lk) st = doCall cl pg.sig f pm (xs ++ zs) st2 := by
    rw [call_run, e1]
    simp only [R.bind, e2]
  have p12 := p1.trans p2
  have av : AVR k σ H G2 H2 st2 (xs ++ zs) (us ++ ws) := AVR.append v1 p1.dom p2 v2
  refine ⟨by rw [← v1.len]; exact runA_len e1, by rw [← v2.len]; exact runA_len e2, ?_⟩
  rcases doCall_inv (cl := cl) (pm := pm) (xs := xs ++ zs) (s := st2) hs with hb | ⟨h1, ds, h2, hh⟩
  · rw [hb] at x2; exact x2.elim
  · have a : Args0 k sg σ H G2 H2 st2 (xs ++ zs) (us ++ ws) pm dvs ds := ⟨h1, av, h2, hd G2⟩
    refine ⟨G2, ds, a.rel p2.rel, by rw [argsOf_len h2]; exact a.parts.2.2.2, ?_⟩
    rcases hh with ⟨d, outs, s', h3, h4, h5⟩ | ⟨c, fs, outs, s', h3, h4, h5⟩
    · rw [h3]
      intro v G' H' p rv
      exact q d s' v G' H' (er.trans h5) (a.post p12 p h4) (hv σ H H2 G' H' st2 s' d v p12.dom (fun c z => own_back a h4 z) (fun c z => by obtain ⟨o, z, _⟩ := Own.some_of p2.rel z; exact ⟨o, z⟩) rv)
    · rw [h3]
      intro cls dd G' H' p xr
      rw [er, h5] at x
      exact x cls dd σ G' H' (a.post p12 p h4) xr
theorem vr_D {sg : Sig} (hf : sg.fresh = false) : ∀ (σ : St) (H H2 G' H' : Hp) (st2 st3 : Slots) (d : D) (v : V), (∀ a, H2 a = none → H a = none) → (∀ c, Own σ st3 c → Own σ st2 c) → (∀ c, Own σ st2 c → ∃ o, H2 c = some o) → RFr k sg.fresh H2 G' H' d v → vD k G' H' st3 d v := fun σ H H2 G' H' st2 st3 d v _ _ _ h => by
  unfold RFr at h
  rw [hf, if_neg (by simp)] at h
  exact h
theorem vr_F {sg : Sig} (hf : sg.fresh = true) : ∀ (σ : St) (H H2 G' H' : Hp) (st2 st3 : Slots) (d : D) (v : V), (∀ a, H2 a = none → H a = none) → (∀ c, Own σ st3 c → Own σ st2 c) → (∀ c, Own σ st2 c → ∃ o, H2 c = some o) → RFr k sg.fresh H2 G' H' d v → vF k σ H G' H' st3 d v := fun σ H H2 G' H' st2 st3 d v m1 m2 m3 h => by
  unfold RFr at h
  rw [hf, if_pos rfl] at h
  obtain ⟨a, o, e, h1, h2, h3, h4⟩ := h
  refine ⟨a, o, e, h1, m1 a h3, h2, fun c => ?_, h4⟩
  obtain ⟨o', z⟩ := m3 a (m2 a c)
  rw [h3] at z
  cases z
/-- f(..) by the core -/
theorem se_call {kk : Nat} {f : Nat} {fa : Addr} {fd : FuncData} {ps : List Str} {sg : Sig} {pm : List PM} {l lk : CA} {dvs : List V} {x : Str} {p pos : Pos} {e : Expr} {es : List Expr} {kws : List Keyword} (hs : pg.sig f = some sg) (hf : sg.fresh = false) (hd : ∀ G, DRs k G sg.dfl dvs)
    (F : FnG X.prog X.w X.K X.mg X.base kk fa fd ps (spD k cl f sg)) (hr : Room kk X.A) (hgd : X.A.guards = some []) (hg : Gl X x) (hm : X.mg x = some (.ref fa)) (hk : PySem.W.keepIn X.K (.ref fa) = true) (hb : Shp X.K fd ps l.len (kwN kws) pm dvs) (hl : lk.len = (kwN kws).length) (tkX : L2N.Takes X W)
    (ha : PA X (e :: es) (tA k W pg cl l)) (hkw : PK X kws (tA k W pg cl lk)) (hst : (e :: es).all noStar = true) (hkn : kws.all (fun kw => kw.arg.isSome) = true) (hdb : (x == ("__debug__" : Str)) = false) : PE X (.Call (.Name x p) (e :: es) kws pos) (tE k W pg cl (.call f pm l lk)) :=
  (pe_cl F hr hgd hg hm hk hb tkX ha hkw hst hkn hdb).imp fun σ H Q h => by rw [← hl]; exact call_imp (vr := fun σ H => vD k) hs hd (vr_D hf) h
theorem sf_call {kk : Nat} {f : Nat} {fa : Addr} {fd : FuncData} {ps : List Str} {sg : Sig} {pm : List PM} {l lk : CA} {dvs : List V} {x : Str} {p pos : Pos} {e : Expr} {es : List Expr} {kws : List Keyword} (hs : pg.sig f = some sg) (hf : sg.fresh = true) (hd : ∀ G, DRs k G sg.dfl dvs)
    (F : FnG X.prog X.w X.K X.mg X.base kk fa fd ps (spD k cl f sg)) (hr : Room kk X.A) (hgd : X.A.guards = some []) (hg : Gl X x) (hm : X.mg x = some (.ref fa)) (hk : PySem.W.keepIn X.K (.ref fa) = true) (hb : Shp X.K fd ps l.len (kwN kws) pm dvs) (hl : lk.len = (kwN kws).length) (tkX : L2N.Takes X W)
    (ha : PA X (e :: es) (tA k W pg cl l)) (hkw : PK X kws (tA k W pg cl lk)) (hst : (e :: es).all noStar = true) (hkn : kws.all (fun kw => kw.arg.isSome) = true) (hdb : (x == ("__debug__" : Str)) = false) : PE X (.Call (.Name x p) (e :: es) kws pos) (tF k W pg cl (.call f pm l lk)) :=
  (pe_cl F hr hgd hg hm hk hb tkX ha hkw hst hkn hdb).imp fun σ H Q h => by rw [← hl]; exact call_imp (vr := fun σ H => vF k σ H) hs hd (vr_F hf) h
theorem cl0_imp {sp : Sp} {dvs : List V} {pm : List PM} {m : Nat} {σ : St} {H : Hp} {Q : VK} {lk : CA} (h : tCl sp dvs pm 0 m W (tA k W pg cl .nil) (tA k W pg cl lk) σ H Q) : tCl sp dvs pm 0 m W tNil (tA k W pg cl lk) σ H Q := ia_nil h
theorem se_call0 {kk : Nat} {f : Nat} {fa : Addr} {fd : FuncData} {ps : List Str} {sg : Sig} {pm : List PM} {lk : CA} {dvs : List V} {x : Str} {p pos : Pos} {kws : List Keyword} (hs : pg.sig f = some sg) (hf : sg.fresh = false) (hd : ∀ G, DRs k G sg.dfl dvs)
    (F : FnG X.prog X.w X.K X.mg X.base kk fa fd ps (spD k cl f sg)) (hr : Room kk X.A) (hgd : X.A.guards = some []) (hg : Gl X x) (hm : X.mg x = some (.ref fa)) (hk : PySem.W.keepIn X.K (.ref fa) = true) (hb : Shp X.K fd ps 0 (kwN kws) pm dvs) (hl : lk.len = (kwN kws).length) (tkX : L2N.Takes X W)
    (hkw : PK X kws (tA k W pg cl lk)) (hkn : kws.all (fun kw => kw.arg.isSome) = true) (hdb : (x == ("__debug__" : Str)) = false) : PE X (.Call (.Name x p) [] kws pos) (tE k W pg cl (.call f pm .nil lk)) :=
  (pe_cl0 F hr hgd hg hm hk hb tkX hkw hkn hdb).imp fun σ H Q h => by rw [← hl]; exact cl0_imp (call_imp (vr := fun σ H => vD k) hs hd (vr_D hf) h)
theorem sf_call0 {kk : Nat} {f : Nat} {fa : Addr} {fd : FuncData} {ps : List Str} {sg : Sig} {pm : List PM} {lk : CA} {dvs : List V} {x : Str} {p pos : Pos} {kws : List Keyword} (hs : pg.sig f = some sg) (hf : sg.fresh = true) (hd : ∀ G, DRs k G sg.dfl dvs)
    (F : FnG X.prog X.w X.K X.mg X.base kk fa fd ps (spD k cl f sg)) (hr : Room kk X.A) (hgd : X.A.guards = some []) (hg : Gl X x) (hm : X.mg x = some (.ref fa)) (hk : PySem.W.keepIn X.K (.ref fa) = true) (hb : Shp X.K fd ps 0 (kwN kws) pm dvs) (hl : lk.len = (kwN kws).length) (tkX : L2N.Takes X W)
    (hkw : PK X kws (tA k W pg cl lk)) (hkn : kws.all (fun kw => kw.arg.isSome) = true) (hdb : (x == ("__debug__" : Str)) = false) : PE X (.Call (.Name x p) [] kws pos) (tF k W pg cl (.call f pm .nil lk)) :=
  (pe_cl0 F hr hgd hg hm hk hb tkX hkw hkn hdb).imp fun σ H Q h => by rw [← hl]; exact cl0_imp (call_imp (vr := fun σ H => vF k σ H) hs hd (vr_F hf) h)
/-! ### a def's body -/
theorem init_eq {g : Sig} {ns : Nat} {ds : List D} : init g ns ds = initA g ds ++ List.replicate (ns - ds.length) .no := rfl
theorem rep_get {α : Type} {m i : Nat} {a x : α} (h : (List.replicate m a)[i]? = some x) : x = a := by
  rw [List.getElem?_replicate] at h
  split at h
  · cases h; rfl
  · cases h
theorem own_ext {σ : St} {st : Slots} {m : Nat} (hl : st.length = σ.length) {a : Addr} : Own (σ ++ List.replicate m none) (st ++ List.replicate m .no) a ↔ Own σ st a := by
  constructor
  · rintro ⟨i, d, e1, e2⟩
    rcases get_app e2 with ⟨c, e⟩ | ⟨c, e⟩
    · refine ⟨i, d, ?_, e⟩
      unfold ownAt at e1 ⊢
      rw [List.getElem?_append_left (by omega)] at e1
      exact e1
    · cases rep_get e
  · rintro ⟨i, d, e1, e2⟩
    refine ⟨i, d, ?_, app_l e2⟩
    unfold ownAt at e1 ⊢
    have hi := lt_of_get e2
    rw [List.getElem?_append_left (by omega)]
    exact e1
theorem ownAt_ext {st : Slots} {m i : Nat} {d : D} (h : ownAt (st ++ List.replicate m .no) i = some d) : i < st.length ∧ ownAt st i = some d := by
  unfold ownAt at h ⊢
  by_cases c : i < st.length
  · rw [List.getElem?_append_left c] at h
    exact ⟨c, h⟩
  · rw [List.getElem?_append_right (by omega)] at h
    cases e : (List.replicate m Sl.no)[i - st.length]? with
    | none => rw [e] at h; cases h
    | some x => rw [e, rep_get e] at h; cases h
theorem Rel.ext {G H : Hp} {σ : St} {st : Slots} {m : Nat} (r : Rel k G H σ st) : Rel k G H (σ ++ List.replicate m none) (st ++ List.replicate m .no) := by
  refine ⟨r.sub, by rw [List.length_append, List.length_append, List.length_replicate, List.length_replicate, r.len], fun i d e => ?_, fun i d e => ?_, fun i j d d' a e e' g g' => ?_⟩
  · rcases get_app e with ⟨c, e⟩ | ⟨c, e⟩
    · obtain ⟨v, h1, h2⟩ := r.fr i d e
      exact ⟨v, app_l h1, h2⟩
    · cases rep_get e
  · obtain ⟨c, e⟩ := ownAt_ext e
    obtain ⟨a, o, h1, h2⟩ := r.ow i d e
    exact ⟨a, o, app_l h1, h2⟩
  · obtain ⟨c, e⟩ := ownAt_ext e
    obtain ⟨c', e'⟩ := ownAt_ext e'
    rw [List.getElem?_append_left (by rw [← r.len]; exact c)] at g
    rw [List.getElem?_append_left (by rw [← r.len]; exact c')] at g'
    exact r.inj i j d d' a e e' g g'
theorem outsOf_get {g : Sig} {s : Slots} {ds : List D} {p : Nat} : (outsOf g s ds)[p]? = (ds[p]?).map fun d => if g.bor.contains p then (match s[p]? with | some (.bo d') => d' | _ => d) else d := by
  unfold outsOf
  rw [List.getElem?_mapIdx] <;> rfl
/-- the end of a body, as the caller sees it -/
theorem Post.shrink {G H G' H' : Hp} {σ σ' : St} {g : Sig} {ds : List D} {m : Nat} {st' : Slots} (r : Rel k G H σ (initA g ds)) (p : Post k (σ ++ List.replicate m none) (initA g ds ++ List.replicate m .no) G H σ' st' G' H') : Post k σ (initA g ds) G H σ (initA g (outsOf g st' ds)) G' H' := by
  have hl : (initA g ds).length = σ.length := r.len
  -- a lent parameter behind the body
  have lent : ∀ i d, ds[i]? = some d → i ∈ g.bor → ∃ d', st'[i]? = some (.bo d') ∧ (outsOf g st' ds)[i]? = some d' ∧ σ'[i]? = σ[i]? := fun i d e hb => by
    obtain ⟨e1, e2⟩ := initA_bor (g := g) e hb
    obtain ⟨⟨d', h1⟩, h2⟩ := p.bo i d (app_l e1)
    refine ⟨d', h1, ?_, ?_⟩
    · rw [outsOf_get, e]
      show some (if g.bor.contains i then _ else _) = _
      rw [if_pos (by simpa using hb), h1]
    · rw [h2, List.getElem?_append_left (by rw [← hl]; exact lt_of_get e1)]
  have back : ∀ i d, (outsOf g st' ds)[i]? = some d → ∃ d0, ds[i]? = some d0 := fun i d e => by
    rw [outsOf_get] at e
    cases h : ds[i]? with
    | none => rw [h] at e; cases e
    | some d0 => exact ⟨d0, h⟩
  have ow : ∀ i d, ownAt (initA g (outsOf g st' ds)) i = some d → i ∈ g.bor ∧ st'[i]? = some (.bo d) ∧ σ'[i]? = σ[i]? ∧ ∃ d0, ownAt (initA g ds) i = some d0 := fun i d e => by
    obtain ⟨e1, e2⟩ := initA_own e
    obtain ⟨d0, e3⟩ := back i d e1
    obtain ⟨d', h1, h2, h3⟩ := lent i d0 e3 e2
    rw [e1] at h2
    cases h2
    exact ⟨e2, h1, h3, d0, (initA_bor e3 e2).2⟩
  refine ⟨p.mono, fun a o e n => p.keep a o e (fun z => n ((own_ext hl).mp z)), fun a o e => ?_, fun a ⟨i, d, e1, e2⟩ => ?_, p.dom, fun i d e => ?_, ⟨p.rel.sub, ?_, fun i d e => ?_, fun i d e => ?_, fun i j d d' a e e' g1 g2 => ?_⟩⟩
  · rcases p.new a o e with z | z | z
    · exact .inl z
    · exact .inr (.inl z)
    · exact .inr (.inr ((own_ext hl).mp z))
  · obtain ⟨_, _, _, d0, z⟩ := ow i d e1
    exact .inl ⟨i, d0, z, e2⟩
  · obtain ⟨e1, e2⟩ := initA_own (ownAt_bo e)
    obtain ⟨d', h1, h2, h3⟩ := lent i d e1 e2
    exact ⟨⟨d', (initA_bor h2 e2).1⟩, rfl⟩
  · rw [← hl]
    unfold initA outsOf
    rw [List.length_mapIdx, List.length_mapIdx, List.length_mapIdx]
  · obtain ⟨e1, e2⟩ := initA_fr e
    obtain ⟨d0, e3⟩ := back i d e1
    rw [outsOf_get, e3] at e1
    have e1' : some (if g.bor.contains i then (match st'[i]? with | some (.bo d') => d' | _ => d0) else d0) = some d := e1
    rw [if_neg (by simpa using e2)] at e1'
    cases e1'
    have e4 : (initA g ds)[i]? = some (.fr d) := by
      rw [initA_get, e3]
      show some (argS g i d) = _
      unfold argS
      rw [if_neg (by simpa using e2)]
    obtain ⟨v, h1, h2⟩ := r.fr i d e4
    exact ⟨v, h1, DR.mono p.mono _ _ h2⟩
  · obtain ⟨h1, h2, h3, _⟩ := ow i d e
    obtain ⟨a, o, z1, z2⟩ := p.rel.ow i d (ownAt_bo h2)
    rw [h3] at z1
    exact ⟨a, o, z1, z2⟩
  · obtain ⟨_, _, _, d1, z⟩ := ow i d e
    obtain ⟨_, _, _, d2, z'⟩ := ow j d' e'
    exact r.inj i j d1 d2 a z z' g1 g2
theorem start_eq {N : List Str} {vs : List V} : start N vs = vs.map some ++ List.replicate (N.length - vs.length) none := rfl
/-- THE RULE of a def: its body by the core -/
theorem fn_D {P : Program} {w : World} {K : PySem.W.Frag} {mg : Str → Option Value} {base : Heap} {x qual : Str} {params : Arguments} {body : List Stmt} {scope : Scope} {dvs : List V} {kws : List (Str × V)} {fa : Addr} {fd : FuncData} {N ps : List Str} {kk n f : Nat} {T : Tab} {df : Df}
    (F : FunD K x qual params body scope dvs kws fa fd) (S : FnScope N ps scope) (hT : T.df f = some df) (hn : df.ns = N.length) (hp : ps.length = df.sg.np)
    (hbody : ∀ (cdv : Value) (A : Around) (outer : List Env) (s : Shared) (H : Hp) (E : XK), Room kk (A.deeper (envOfC qual scope s.heap.objs.size fa cdv)) → A.guards = some [] →
      L2N.Takes (cxOf (L2N.CX P w) P w K mg base N qual scope fa cdv A outer s H E) (fun cls d _ H => E cls d H) → PassesOwn (model P w) (cxOf (L2N.CX P w) P w K mg base N qual scope fa cdv A outer s H E).A (cxOf (L2N.CX P w) P w K mg base N qual scope fa cdv A outer s H E).env (cxOf (L2N.CX P w) P w K mg base N qual scope fa cdv A outer s H E).xe →
      PSs (cxOf (L2N.CX P w) P w K mg base N qual scope fa cdv A outer s H E) body (tB k (fun cls d _ H => E cls d H) T.pg (callN T n) wlim df.sg.fresh df.body)) :
    FnG P w K mg base (kk + 1) fa fd ps (spD k (callN T (n + 1)) f df.sg) := by
  refine fnG_of F S (fun vs H Q E ⟨G, ds, r, hl, _⟩ => ?_) fun cdv A outer s H vs Q E hr hgd hsp => ?_
  · have z := r.len
    rw [List.length_map] at z
    rw [← z, hp, ← hl]
    exact List.length_mapIdx
  · obtain ⟨G, ds, r, hl, h⟩ := hsp
    have hvl : vs.length = ds.length := by
      have z := r.len
      rw [List.length_map] at z
      rw [← z]
      exact List.length_mapIdx
    refine ⟨_, hbody cdv A outer s H E hr hgd (L2N.takes_of rfl rfl rfl rfl) (passes_of rfl), ?_⟩
    have ec : callN T (n + 1) f ds = finish df.sg ds (runB T.pg (callN T n) wlim df.body (init df.sg df.ns ds)) := by
      show (match T.df f with | none => RF.bad | some d => if ds.length = d.sg.np then finish d.sg ds (runB T.pg (callN T n) wlim d.body (init d.sg d.ns ds)) else .bad) = _
      rw [hT]
      show (if ds.length = df.sg.np then _ else _) = _
      rw [if_pos hl]
    have er : start N vs = vs.map some ++ List.replicate (df.ns - ds.length) none := by rw [start_eq, hn, hvl]
    have r1 : Rel k G H (start N vs) (init df.sg df.ns ds) := by rw [er]; exact r.ext
    rw [ec] at h
    refine ⟨G, init df.sg df.ns ds, r1, ?_, fun fl st' σ' G' H' e p => ?_⟩
    · cases e : runB T.pg (callN T n) wlim df.body (init df.sg df.ns ds) with
      | ok fl s' => trivial
      | bad => rw [e] at h; exact h.elim
      | exc c fs s' =>
        rw [e] at h
        intro cls d σ' G' H' p xr
        rw [er] at p
        exact h cls d G' H' (p.shrink r) xr
    · rw [show runB T.pg (callN T n) wlim df.body (init df.sg df.ns ds) = .ok fl st' from e] at h
      have p' := p
      rw [er] at p'
      have ps := p'.shrink r
      cases fl with
      | bk => exact h.elim
      | ct => exact h.elim
      | nx =>
        have h' : spR k df.sg vs G H ds Q E (if df.sg.fresh then .bad else .ok .non (outsOf df.sg st' ds)) := h
        cases hf : df.sg.fresh with
        | true => rw [hf, if_pos rfl] at h'; exact h'.elim
        | false =>
          rw [hf, if_neg (by simp)] at h'
          refine h' .non G' H' ps ?_
          unfold RFr
          rw [hf, if_neg (by simp)]
          rfl
      | rt d =>
        intro v rv
        refine h v G' H' ps ?_
        unfold RV at rv
        unfold RFr
        cases hf : df.sg.fresh with
        | false =>
          rw [hf, if_neg (by simp)] at rv
          rw [if_neg (by simp)]
          exact rv
        | true =>
          rw [hf, if_pos rfl] at rv
          rw [if_pos rfl]
          obtain ⟨a, o, h1, h2, h3, h4, h5, h6⟩ := rv
          refine ⟨a, o, h1, h2, h3, ?_, h5⟩
          rcases h6 with h6 | ⟨i, d0, z1, z2⟩
          · exact h6
          · exfalso
            rw [init_eq] at z1
            obtain ⟨c, z1⟩ := ownAt_ext z1
            obtain ⟨y1, y2⟩ := initA_own z1
            obtain ⟨⟨d', w1⟩, w2⟩ := p.bo i d0 (by rw [init_eq]; exact app_l (initA_bor y1 y2).1)
            exact h4 ⟨i, d', ownAt_bo w1, w2.trans z2⟩
end
end DL

set_option Elab.async false
set_option linter.all false
set_option maxRecDepth 100000
set_option maxHeartbeats 4000000
namespace DL
open PySem L2 PyProof.Rows
/-! ### new instances, methods, properties -/
theorem under_guards {A : Around} {C : Addr} {us : List Value} {kw : List (Str × Value)} (h : A.guards = some []) : (A.under (.builtin "type.__call__" ⟨.ref C :: us, kw⟩)).guards = some [] := by
  first | exact h | simp [Around.under, Code.isGuard, h]
theorem in1_guards {A : Around} (h : A.guards = some []) : A.in1.guards = some [] := h
def tMk (C : Addr) (sp : Sp) (dvs : List V) (pm : List PM) (n m : Nat) (W : WX) (t tk : TA) : TE := fun σ H Q => t σ H fun vs H1 => tk σ H1 fun zs H2 => vs.length = n ∧ zs.length = m ∧
  ∀ x dx, H2 x = none → H2 dx = none → dx ≠ x → sp (gp (.ref x :: (vs ++ zs)) dvs pm) (upd (upd H2 dx (.own x)) x (.ins C dx [])) (fun v H3 => v = .non ∧ Q (.ref x) H3) (fun c d H' => W c d σ H')
section
variable {X : Cx} {k n : Nat} {f C : Addr} {fd : FuncData} {ps ks : List Str} {sp : Sp} {dvs : List V} {pm : List PM} {W : WX} {x : Str} {p pos : Pos} {e : Expr} {es : List Expr} {kws : List Keyword} {t tk : TA}
theorem run_mk {pins : List (Addr × Obj)} {σ : St} {H : Hp} {s : Shared} {Q : VK} {us ws : List Value} {vs zs : List V} (M : Mk X.K C f) (F : FnG X.prog X.w X.K X.mg X.base k f fd ps sp) (hr : Room (k + 1) X.A) (hgd : X.A.guards = some []) (hb : Shp X.K fd ps (n + 1) ks pm dvs) (tk : L2N.Takes X W)
    (I : Inv X pins σ H s) (r : Vals vs us) (rz : Vals zs ws) (l1 : vs.length = n) (l2 : zs.length = ks.length)
    (h : ∀ x dx, H x = none → H dx = none → dx ≠ x → sp (gp (.ref x :: (vs ++ zs)) dvs pm) (upd (upd H dx (.own x)) x (.ins C dx [])) (fun v H2 => v = .non ∧ Q (.ref x) H2) (fun c d H' => W c d σ H')) :
    wpAny (model X.prog X.w) X.A (call (.ref C) us (ks.zip ws)) (EP X pins σ Q) X.xe s := by
  have hq := h (s.heap.objs.size + 1) s.heap.objs.size (I.hok.fresh (Nat.le_succ _)) (I.hok.fresh (Nat.le_refl _)) (Nat.ne_of_lt (Nat.lt_succ_self _))
  have I2 := Inv.made (C := C) I
  obtain ⟨its, hd, hb⟩ := hb.ex
  have r1 : Vals (V.ref (s.heap.objs.size + 1) :: vs) (Value.ref (s.heap.objs.size + 1) :: us) := .cons rfl r
  have e1 : (Value.ref (s.heap.objs.size + 1) :: us).length = n + 1 := r1.length.symm.trans (congrArg Nat.succ l1)
  have e2 : ws.length = ks.length := rz.length.symm.trans l2
  refine wpAny_call (make_map (f := f) I.kIn M.makes M.init (beq_iff_eq.mp M.fn) (codeAny_mono (F.run _ X.stack _ _ ⟨Value.ref (s.heap.objs.size + 1) :: us, ks.zip ws⟩ (gp ((Value.ref (s.heap.objs.size + 1) :: us) ++ ws) its pm) (gp ((V.ref (s.heap.objs.size + 1) :: vs) ++ zs) dvs pm) _ _ (hr.make C us (ks.zip ws)) (under_guards hgd)
    (I2.env0.make C us (ks.zip ws)) (hb _ (Value.ref (s.heap.objs.size + 1) :: us) ws I2.kIn e1 e2) (gp_vals (r1.append rz) hd pm) hq) fun r s' hq' => ?_))
  cases r with
  | error e => exact tk e s' (L2N.XE.of_call I2 (fun _ _ _ h => h) hq')
  | ok fl =>
    cases fl with
    | ret u =>
      obtain ⟨v, H', I3, rv, ev, q3⟩ := I2.after hq'
      subst ev
      exact ⟨rv, ⟨V.ref (s.heap.objs.size + 1), H', I3, rfl, q3⟩⟩
    | next => exact False.elim hq'
    | brk => exact False.elim hq'
    | cont => exact False.elim hq'
/-- C(e, .., k = e, ..) -/
theorem pe_mkG (M : Mk X.K C f) (F : FnG X.prog X.w X.K X.mg X.base k f fd ps sp) (hr : Room (k + 1) X.A) (hgd : X.A.guards = some []) (hg : Gl X x) (hm : X.mg x = some (.ref C)) (hb : Shp X.K fd ps (n + 1) (kwN kws) pm dvs) (tkX : L2N.Takes X W)
    (ha : PA X (e :: es) t) (hkw : PK X kws tk) (hs : (e :: es).all noStar = true) (hkn : kws.all (fun kw => kw.arg.isSome) = true) (hdb : (x == ("__debug__" : Str)) = false) :
    PE X (.Call (.Name x p) (e :: es) kws pos) (tMk C sp dvs pm n (kwN kws).length W t tk) := by
  refine ⟨fun pins s σ H Q I h => wpAny_Call_Name_kw (ld_glob I hg hm ?_ hdb)⟩
  obtain ⟨k1, k2, k3⟩ := kw_all pos X.env hkn
  rw [List.all_cons, Bool.and_eq_true] at hs
  refine PySem.W.callWith_KW (h₀ := X.base) I.ok.mod.kin M.kp k1 (thn (ha.run pos pins s σ H _ I h) fun us s1 ⟨vs, H1, I1, r, q⟩ => ?_) ?_ (star_no hs.1)
  · refine thn (hkw.run pos pins s1 σ H1 _ I1 q) fun ws s2 ⟨zs, H2, I2, rz, l1, l2, q2⟩ => ⟨I2.kIn, ?_⟩
    rw [k3]
    exact run_mk M F hr hgd hb tkX I2 r rz l1 l2 q2
  · rw [k2, star_no hs.1]
    show ((false || (backTo pos (starEach es X.env)).any (·.1)) || false) = false
    rw [nostars hs.2]; rfl
theorem pe_mkG0 (M : Mk X.K C f) (F : FnG X.prog X.w X.K X.mg X.base k f fd ps sp) (hr : Room (k + 1) X.A) (hgd : X.A.guards = some []) (hg : Gl X x) (hm : X.mg x = some (.ref C)) (hb : Shp X.K fd ps 1 (kwN kws) pm dvs) (tkX : L2N.Takes X W)
    (hkw : PK X kws tk) (hkn : kws.all (fun kw => kw.arg.isSome) = true) (hdb : (x == ("__debug__" : Str)) = false) :
    PE X (.Call (.Name x p) [] kws pos) (tMk C sp dvs pm 0 (kwN kws).length W tNil tk) := by
  refine ⟨fun pins s σ H Q I h => wpAny_Call_Name_kw (ld_glob I hg hm ?_ hdb)⟩
  obtain ⟨k1, k2, k3⟩ := kw_all pos X.env hkn
  refine PySem.W.callWith_KW0 (h₀ := X.base) I.ok.mod.kin M.kp k1 (thn (hkw.run pos pins s σ H _ I h) fun ws s2 ⟨zs, H2, I2, rz, l1, l2, q2⟩ => ⟨I2.kIn, ?_⟩) (by rw [k2]; rfl)
  rw [k3]
  exact run_mk (us := []) (vs := []) (n := 0) M F hr hgd hb tkX I2 .nil rz rfl l2 q2
end
/-! ### a class in a local name, called -/
def tMkV (i : Nat) (C : Addr) (sp : Sp) (dvs : List V) (pm : List PM) (n m : Nat) (W : WX) (t tk : TA) : TE := fun σ H Q => σ[i]? = some (some (.ref C)) ∧ tMk C sp dvs pm n m W t tk σ H Q
section
variable {X : Cx} {i k n : Nat} {f C : Addr} {fd : FuncData} {ps ks : List Str} {sp : Sp} {dvs : List V} {pm : List PM} {W : WX} {x : Str} {p pos : Pos} {e : Expr} {es : List Expr} {kws : List Keyword} {t tk : TA}
theorem pe_mkV (M : Mk X.K C f) (F : FnG X.prog X.w X.K X.mg X.base k f fd ps sp) (hr : Room (k + 1) X.A) (hgd : X.A.guards = some []) (hN : X.N[i]? = some x) (hv : Vis X.env.scope x) (hb : Shp X.K fd ps (n + 1) (kwN kws) pm dvs) (tkX : L2N.Takes X W)
    (ha : PA X (e :: es) t) (hkw : PK X kws tk) (hs : (e :: es).all noStar = true) (hkn : kws.all (fun kw => kw.arg.isSome) = true) (hdb : (x == ("__debug__" : Str)) = false) (hcd : (x == ("__classdict__" : Str)) = false) :
    PE X (.Call (.Name x p) (e :: es) kws pos) (tMkV i C sp dvs pm n (kwN kws).length W t tk) := by
  refine ⟨fun pins s σ H Q I h => ?_⟩
  obtain ⟨hsl, h⟩ := h
  refine wpAny_Call_Name_kw (thn ((pe_var (pos := p) hN hv hdb hcd).run pins s σ H (fun v H1 => v = .ref C ∧ H1 = H) I ⟨.ref C, hsl, rfl, rfl⟩) fun u s0 ⟨v, H0, I0, r0, q0⟩ => ?_)
  obtain ⟨rfl, rfl⟩ := q0
  cases r0
  obtain ⟨k1, k2, k3⟩ := kw_all pos X.env hkn
  rw [List.all_cons, Bool.and_eq_true] at hs
  refine PySem.W.callWith_KW (h₀ := X.base) I.ok.mod.kin M.kp k1 (thn (ha.run pos pins s0 σ _ _ I0 h) fun us s1 ⟨vs, H1, I1, r, q⟩ => ?_) ?_ (star_no hs.1)
  · refine thn (hkw.run pos pins s1 σ H1 _ I1 q) fun ws s2 ⟨zs, H2, I2, rz, l1, l2, q2⟩ => ⟨I2.kIn, ?_⟩
    rw [k3]
    exact run_mk M F hr hgd hb tkX I2 r rz l1 l2 q2
  · rw [k2, star_no hs.1]
    show ((false || (backTo pos (starEach es X.env)).any (·.1)) || false) = false
    rw [nostars hs.2]; rfl
end
/-! ### methods -/
theorem wpMeth {M : Model} {A : Around} {env : Env} {o : Expr} {m : Str} {apos pos : Pos} {args : List Expr} {kws : List Keyword} {Q : Value → Shared → Prop} {E : Value → Shared → Prop} {s : Shared} (hbase : attributeBase o m env (eval o env) = eval o env)
    (hform : methodCallForm (args.length + kws.length) (backTo pos (starEach args env)) (backToKw pos (keywordEach kws env)) = true) (hline : (apos.endLine == pos.line) = true)
    (h : wpAny M A (eval o env) (fun ov s₁ => wpAny M A (getMethod ov m (do return (← importBound o env).getD true)) (fun fx s₂ => wpAny M A (callWith pos fx.1 fx.2 (backTo pos (starEach args env)) (backToKw pos (keywordEach kws env))) Q E s₂) E s₁) E s) :
    wpAny M A (eval (.Call (.Attribute o m apos) args kws pos) env) Q E s := by
  rw [arm_eval_Call, hbase]
  refine wpAny_bind (wpAny_mono h (fun ov s₁ h₁ => wpAny_bind (wpAny_standAt ?_)) fun _ _ e => e)
  have hpos : methodCallPos true o env apos pos = pure pos := by unfold methodCallPos; simp [hline]
  unfold methodCall calleeOf
  rw [hform, if_pos rfl, hpos]
  refine wpAny_bind (wpAny_holding (wpAny_mono h₁ (fun fx s₂ h₂ => ?_) fun _ _ x => x))
  exact wpAny_bind (wpAny_pure h₂)
theorem form_ok {es : List Expr} {kws : List Keyword} {pos : Pos} {env : Env} (hs : es.all noStar = true) (hkn : kws.all (fun kw => kw.arg.isSome) = true) (hn : es.length + kws.length < 29) : methodCallForm (es.length + kws.length) (backTo pos (starEach es env)) (backToKw pos (keywordEach kws env)) = true := by
  unfold methodCallForm
  have h1 : (backTo pos (starEach es env)).all (fun x => !x.1) = true := by
    have z := nostars (pos := pos) (env := env) hs
    rw [List.all_eq_true]
    intro x hx
    cases c : x.1 with
    | false => rfl
    | true =>
      have : (backTo pos (starEach es env)).any (·.1) = true := List.any_eq_true.mpr ⟨x, hx, c⟩
      rw [z] at this
      cases this
  obtain ⟨k1, _, _⟩ := kw_all pos env hkn
  rw [h1, k1]
  simp only [Bool.true_and, decide_eq_true_eq]
  split <;> omega
def tMt (C : Addr) (m : Str) (sp : Sp) (dvs : List V) (pm : List PM) (n mm : Nat) (W : WX) (ta : TE) (t tk : TA) : TE := fun σ H Q => ta σ H fun x H1 => ∃ a dx fs, x = .ref a ∧ H1 a = some (.ins C dx fs) ∧ fs.lookup m = none ∧
  t σ H1 fun vs H2 => tk σ H2 fun zs H3 => vs.length = n ∧ zs.length = mm ∧ sp (gp (.ref a :: (vs ++ zs)) dvs pm) H3 Q (fun c d H' => W c d σ H')
section
variable {X : Cx} {k n : Nat} {f C : Addr} {fd : FuncData} {ps ks : List Str} {sp : Sp} {dvs : List V} {pm : List PM} {W : WX} {m : Str} {apos pos : Pos} {o e : Expr} {es : List Expr} {kws : List Keyword} {ta : TE} {t tk : TA}
theorem pe_mtG (he : PE X o ta) (c : Cls X.K C) (hm : Meth X.K C m f) (F : FnG X.prog X.w X.K X.mg X.base k f fd ps sp) (hr : Room k X.A) (hgd : X.A.guards = some []) (hb : Shp X.K fd ps (n + 1) (kwN kws) pm dvs) (tkX : L2N.Takes X W)
    (ha : PA X (e :: es) t) (hkw : PK X kws tk) (hs : (e :: es).all noStar = true) (hkn : kws.all (fun kw => kw.arg.isSome) = true)
    (hbase : attributeBase o m X.env (eval o X.env) = eval o X.env) (hn : (e :: es).length + kws.length < 29) (hline : (apos.endLine == pos.line) = true) :
    PE X (.Call (.Attribute o m apos) (e :: es) kws pos) (tMt C m sp dvs pm n (kwN kws).length W ta t tk) := by
  refine ⟨fun pins s σ H Q I h => ?_⟩
  obtain ⟨k1, k2, k3⟩ := kw_all pos X.env hkn
  have hF := form_ok (pos := pos) (env := X.env) hs hkn hn
  rw [List.all_cons, Bool.and_eq_true] at hs
  refine wpMeth hbase hF hline (thn (he.run pins s σ H _ I h) fun u s1 ⟨x, H1, I1, rx, a, dx, fs, ex, ea, l, q⟩ => ?_)
  subst ex
  obtain rfl : u = Value.ref a := rx
  refine getmeth_ok I1 ea c hm l ?_
  refine PySem.W.callWith_KW (first := [.ref a]) (h₀ := X.base) I.ok.mod.kin hm.kp k1 (thn (ha.run pos pins s1 σ H1 _ I1 q) fun us s2 ⟨vs, H2, I2, r, q2⟩ => ?_) ?_ (star_no hs.1)
  · refine thn (hkw.run pos pins s2 σ H2 _ I2 q2) fun ws s3 ⟨zs, H3, I3, rz, l1, l2, q3⟩ => ⟨I3.kIn, ?_⟩
    rw [k3]
    exact run_G (us := .ref a :: us) (vs := .ref a :: vs) (n := n + 1) F hr hgd hb tkX I3 (.cons rfl r) rz (congrArg Nat.succ l1) l2 q3
  · rw [k2, star_no hs.1]
    show ((false || (backTo pos (starEach es X.env)).any (·.1)) || false) = false
    rw [nostars hs.2]; rfl
theorem pe_mtG0 (he : PE X o ta) (c : Cls X.K C) (hm : Meth X.K C m f) (F : FnG X.prog X.w X.K X.mg X.base k f fd ps sp) (hr : Room k X.A) (hgd : X.A.guards = some []) (hb : Shp X.K fd ps 1 (kwN kws) pm dvs) (tkX : L2N.Takes X W)
    (hkw : PK X kws tk) (hkn : kws.all (fun kw => kw.arg.isSome) = true)
    (hbase : attributeBase o m X.env (eval o X.env) = eval o X.env) (hn : kws.length < 29) (hline : (apos.endLine == pos.line) = true) :
    PE X (.Call (.Attribute o m apos) [] kws pos) (tMt C m sp dvs pm 0 (kwN kws).length W ta tNil tk) := by
  refine ⟨fun pins s σ H Q I h => ?_⟩
  obtain ⟨k1, k2, k3⟩ := kw_all pos X.env hkn
  have hF := form_ok (es := []) (pos := pos) (env := X.env) rfl hkn (by simpa using hn)
  refine wpMeth hbase hF hline (thn (he.run pins s σ H _ I h) fun u s1 ⟨x, H1, I1, rx, a, dx, fs, ex, ea, l, q⟩ => ?_)
  subst ex
  obtain rfl : u = Value.ref a := rx
  refine getmeth_ok I1 ea c hm l ?_
  refine PySem.W.callWith_KW0 (first := [.ref a]) (h₀ := X.base) I.ok.mod.kin hm.kp k1 (thn (hkw.run pos pins s1 σ H1 _ I1 q) fun ws s3 ⟨zs, H3, I3, rz, l1, l2, q3⟩ => ⟨I3.kIn, ?_⟩) (by rw [k2]; rfl)
  rw [k3]
  exact run_G (us := [.ref a]) (vs := [.ref a]) (n := 1) F hr hgd hb tkX I3 (.cons rfl .nil) rz rfl l2 q3
end
/-! ### class methods -/
def tCm (C : Addr) (sp : Sp) (dvs : List V) (pm : List PM) (n m : Nat) (W : WX) (t tk : TA) : TE := fun σ H Q => t σ H fun vs H1 => tk σ H1 fun zs H2 => vs.length = n ∧ zs.length = m ∧ sp (gp (.ref C :: (vs ++ zs)) dvs pm) H2 Q (fun c d H' => W c d σ H')
section
variable {X : Cx} {k n : Nat} {C p g : Addr} {mc : Value} {fd : FuncData} {ps ks : List Str} {sp : Sp} {dvs : List V} {pm : List PM} {W : WX} {x m : Str} {xp apos pos : Pos} {e : Expr} {es : List Expr} {kws : List Keyword} {t tk : TA}
theorem run_cmG {pins : List (Addr × Obj)} {σ : St} {H : Hp} {s : Shared} {Q : VK} {q : Addr} {us ws : List Value} {vs zs : List V} (F : FnG X.prog X.w X.K X.mg X.base k g fd ps sp) (hr : Room k X.A) (hgd : X.A.guards = some []) (hb : Shp X.K fd ps (n + 1) ks pm dvs) (tkX : L2N.Takes X W)
    (I : Inv X ((q, PySem.W.methodObj (.ref g) (.ref C)) :: pins) σ H s) (r : Vals vs us) (rz : Vals zs ws) (l1 : vs.length = n) (l2 : zs.length = ks.length) (h : sp (gp (.ref C :: (vs ++ zs)) dvs pm) H Q (fun c d H' => W c d σ H')) :
    wpAny (model X.prog X.w) X.A (call (.ref q) us (ks.zip ws)) (EP X pins σ Q) X.xe s := by
  obtain ⟨its, hd, hb⟩ := hb.ex
  have r1 : Vals (V.ref C :: vs) (Value.ref C :: us) := .cons rfl r
  have e1 : (Value.ref C :: us).length = n + 1 := r1.length.symm.trans (congrArg Nat.succ l1)
  have e2 : ws.length = ks.length := rz.length.symm.trans l2
  have z : wpAny (model X.prog X.w) X.A (call (.ref q) us (ks.zip ws)) (EP X ((q, PySem.W.methodObj (.ref g) (.ref C)) :: pins) σ Q) X.xe s := by
    refine wpAny_call (PySem.W.method_call (ClX.pin_at I) (codeAny_mono (F.run X.A X.stack s H ⟨Value.ref C :: us, ks.zip ws⟩ (gp ((Value.ref C :: us) ++ ws) its pm) (gp ((V.ref C :: vs) ++ zs) dvs pm) Q _ hr hgd I.env0 (hb s (Value.ref C :: us) ws I.kIn e1 e2) (gp_vals (r1.append rz) hd pm) h) fun r s' hq => ?_))
    cases r with
    | error e => exact tkX e s' (L2N.XE.of_call I (fun _ _ _ h => h) hq)
    | ok fl =>
      cases fl with
      | ret u => exact I.after hq
      | next => exact False.elim hq
      | brk => exact False.elim hq
      | cont => exact False.elim hq
  exact thn z fun _ _ y => ClX.unpinE y
/-- C.m(e, .., k = e, ..), m a class method of C -/
theorem pe_cmG (rd : ClX.CRead X.K C mc) (c : ClX.CMet X.K C mc m p g) (F : FnG X.prog X.w X.K X.mg X.base k g fd ps sp) (hr : Room k X.A) (hgd : X.A.guards = some []) (hg : Gl X x) (hm : X.mg x = some (.ref C)) (hb : Shp X.K fd ps (n + 1) (kwN kws) pm dvs) (tkX : L2N.Takes X W)
    (ha : PA X (e :: es) t) (hkw : PK X kws tk) (hs : (e :: es).all noStar = true) (hkn : kws.all (fun kw => kw.arg.isSome) = true) (hdb : (x == ("__debug__" : Str)) = false)
    (hbase : attributeBase (.Name x xp) m X.env (eval (.Name x xp) X.env) = eval (.Name x xp) X.env) (hn : (e :: es).length + kws.length < 29) (hline : (apos.endLine == pos.line) = true) :
    PE X (.Call (.Attribute (.Name x xp) m apos) (e :: es) kws pos) (tCm C sp dvs pm n (kwN kws).length W t tk) := by
  refine ⟨fun pins s σ H Q I h => ?_⟩
  obtain ⟨k1, k2, k3⟩ := kw_all pos X.env hkn
  have hF := form_ok (pos := pos) (env := X.env) hs hkn hn
  rw [List.all_cons, Bool.and_eq_true] at hs
  refine wpMeth hbase hF hline (ld_glob I hg hm ?_ hdb)
  refine ClX.getmethcm_ok I rd c fun s2 I2 => ?_
  refine PySem.W.callWith_of ?_ (PySem.W.keeps_M (q := s.heap.objs.size) (self := .ref C) c.fi) (PyProof.Rows.evalArgs_kw2 k1 (thn (ha.run pos _ s2 σ H _ I2 h) fun us s3 ⟨vs, H2, I3, r, q2⟩ => ?_) (star_no hs.1))
  · rw [k2, star_no hs.1]
    show ((false || (backTo pos (starEach es X.env)).any (·.1)) || false) = false
    rw [nostars hs.2]; rfl
  · refine thn (hkw.run pos _ s3 σ H2 _ I3 q2) fun ws s4 ⟨zs, H3, I4, rz, l1, l2, q3⟩ => ⟨⟨ClX.pin_at I4, I4.kIn⟩, ?_⟩
    rw [k3]
    exact run_cmG F hr hgd hb tkX I4 r rz l1 l2 q3
theorem pe_cmG0 (rd : ClX.CRead X.K C mc) (c : ClX.CMet X.K C mc m p g) (F : FnG X.prog X.w X.K X.mg X.base k g fd ps sp) (hr : Room k X.A) (hgd : X.A.guards = some []) (hg : Gl X x) (hm : X.mg x = some (.ref C)) (hb : Shp X.K fd ps 1 (kwN kws) pm dvs) (tkX : L2N.Takes X W)
    (hkw : PK X kws tk) (hkn : kws.all (fun kw => kw.arg.isSome) = true) (hdb : (x == ("__debug__" : Str)) = false)
    (hbase : attributeBase (.Name x xp) m X.env (eval (.Name x xp) X.env) = eval (.Name x xp) X.env) (hn : kws.length < 29) (hline : (apos.endLine == pos.line) = true) :
    PE X (.Call (.Attribute (.Name x xp) m apos) [] kws pos) (tCm C sp dvs pm 0 (kwN kws).length W tNil tk) := by
  refine ⟨fun pins s σ H Q I h => ?_⟩
  obtain ⟨k1, k2, k3⟩ := kw_all pos X.env hkn
  have hF := form_ok (es := []) (pos := pos) (env := X.env) rfl hkn (by simpa using hn)
  refine wpMeth hbase hF hline (ld_glob I hg hm ?_ hdb)
  refine ClX.getmethcm_ok I rd c fun s2 I2 => ?_
  refine PySem.W.callWith_of (by rw [k2]; rfl) (PySem.W.keeps_M (q := s.heap.objs.size) (self := .ref C) c.fi) (PyProof.Rows.evalArgs_kw2_nil k1 ?_)
  refine thn (hkw.run pos _ s2 σ H _ I2 h) fun ws s4 ⟨zs, H3, I4, rz, l1, l2, q3⟩ => ⟨⟨ClX.pin_at I4, I4.kIn⟩, ?_⟩
  rw [k3]
  exact run_cmG (us := []) (vs := []) (n := 0) F hr hgd hb tkX I4 .nil rz rfl l2 q3
end
/-! ### str of an instance -/
def StK.okV : StK → V → Prop
  | .str, v => ∃ t, v = .str t
  | .len, v => ∃ n : Int, v = .int n ∧ 0 ≤ n ∧ n < 2 ^ 63
  | .bool, v => ∃ b, v = .bl b
def rSt (q : StK) (C : Addr) (sp : Sp) (dvs : List V) (pm : List PM) (xs : List V) (H1 : Hp) (Q : VK) : Prop := match xs with
  | [x] => ∃ a dx fs, x = .ref a ∧ H1 a = some (.ins C dx fs) ∧ sp (gp [.ref a] dvs pm) H1 (fun v H' => q.okV v ∧ Q v H') (fun _ _ _ => False)
  | _ => False
def tSt (q : StK) (C : Addr) (sp : Sp) (dvs : List V) (pm : List PM) (ta : TE) : TE := fun σ H Q => ta σ H fun x H1 => rSt q C sp dvs pm [x] H1 Q
theorem in2_room {k : Nat} {A : Around} (r : Room (k + 1) A) : Room k A.in1.in1 :=
  ⟨r.hd, by have := r.dp; show A.depth + 3 * k + 5 < _; omega, by have := r.un; show A.units + 1 + 1 + 16 * k + 200 < _; omega⟩
section
variable {X : Cx} {k : Nat} {C g : Addr} {fd : FuncData} {ps : List Str} {sp : Sp} {dvs : List V} {pm : List PM} {e : Expr} {p1 pos : Pos} {ta : TE}
theorem call_strO (c : Cls X.K C) (hm : Meth X.K C "__str__" g) (F : FnG X.prog X.w X.K X.mg X.base k g fd ps sp) (hr : Room (k + 1) X.A) (hgd : X.A.guards = some []) (hb : Shp X.K fd ps 1 [] pm dvs) : CallR X (.type "str") (rSt .str C sp dvs pm) := by
  intro pins s σ H xs us Q I r h
  match xs, us, r, h with
  | [x], _, .cons r1 .nil, ⟨a, dx, fs, ex, ea, q⟩ =>
    subst ex
    obtain rfl := r1
    obtain ⟨mA, O, _, _, _, _⟩ := ins_get I.hok ea
    obtain ⟨od, J, _⟩ := O.look
    obtain ⟨its, hd, hb⟩ := hb.ex
    have hr2 := in2_room hr
    refine PySem.W.kso_call hr2.units0 I.kIn J hm.at_ hm.fn ?_
    refine wpAny_call (codeAny_mono (F.run X.A.in1.in1 X.stack s H ⟨[.ref a], []⟩ (gp [.ref a] its pm) (gp [.ref a] dvs pm) _ _ hr2 (in1_guards (in1_guards hgd)) I.env0.in1.in1 (hb _ [.ref a] [] I.kIn rfl rfl) (gp_vals (show Vals [V.ref a] [Value.ref a] from .cons rfl .nil) hd pm) q) fun r s' hq => ?_)
    cases r with
    | error er =>
      obtain ⟨_, _, _, _, _, _, _, _, _, _, _, _, z⟩ := hq
      exact z.elim
    | ok fl =>
      cases fl with
      | ret u =>
        obtain ⟨v, H', I3, rv, ⟨t, ev⟩, q3⟩ := I.after hq
        subst ev
        obtain ⟨tk, rfl⟩ := rv
        exact ⟨.str t, H', I3, ⟨tk, rfl⟩, q3⟩
      | next => exact False.elim hq
      | brk => exact False.elim hq
      | cont => exact False.elim hq
/-- the frame that stands -/
theorem inv_fr {pins : List (Addr × Obj)} {σ : St} {H : Hp} {s : Shared} (I : Inv X pins σ H s) : ∃ m, Fr X.base X.env.locals s.heap m := by
  obtain ⟨m, h, _⟩ := I.loc
  exact ⟨m, h, fun b o e => (I.bs b o e).1, Nat.le_trans I.ok.bsz I.ok.above⟩
/-- bool of something whose truth is asked of it -/
theorem bool_inst {prog : Program} {w : World} {A : Around} {E : Value → Shared → Prop} {s : Shared} {x : Addr} {Q : Value → Shared → Prop} (L : wpAny (model prog w) A.in1.in1 (truthy (.ref x)) (fun b s' => Q (.bool b) s') E s) :
    wpAny (model prog w) A (call (.type "bool") [.ref x]) Q E s := by
  refine callType_codes (T := "bool") (Bi := Builtin.«object.__init__») (Q₁ := fun r s₁ => ∃ b, r = .bool b ∧ Q r s₁) F.called_bool (F.typeCall_bool_1 _) F.entry_object_init ?_ ?_
  · refine codeAny_of_tree ?_
    show wpAny _ A.in1.in1 (do checkBuiltinCall "bool.__new__" ⟨[.type "bool", .ref x], []⟩; again (.builtin "bool.__new__" ⟨[.type "bool", .ref x], []⟩)) _ _ s
    refine wpAny_bind (wpAny_of_eq (F.newCall_bool_1 _) (wpAny_pure ⟨plainId_quiet (by decide +kernel) _, codeAny_builtin F.entry_bool_new ?_⟩))
    rw [Around.under_plainId (by decide +kernel) _]
    have f1 := F.conv_sub_bool
    unfold Builtin.«bool.__new__»
    have key : wpAny (model prog w) A.in1.in1 (truthy (.ref x)) (fun b s' => wpAny (model prog w) A.in1.in1 (ret (.bool b) : Sem Fin) (fun fin s' => match fin with | .done f => wants (fun r s₁ => ∃ b, r = .bool b ∧ Q r s₁) E (.ok f) s' | .again c' => c'.quiet = true ∧ codeAny (model prog w) A.in1 c' (wants (fun r s₁ => ∃ b, r = .bool b ∧ Q r s₁) E) s') (fun e s' => wants (fun r s₁ => ∃ b, r = .bool b ∧ Q r s₁) E (.error e) s') s') E s := wpAny_mono L (fun b s' h => wpAny_pure ⟨b, rfl, h⟩) fun _ _ h => h
    obtain ⟨hp, g, d, tk, os⟩ := s
    repeat (any_goals (first | assumption | (with_reducible refine wpAny_bind key) | (with_reducible exact key) | wp_step))
  · rintro obj s₁ ⟨b, rfl, hq⟩
    have ty : s₁.TypeIs (.bool b) "bool" := rfl
    exact ⟨ty, F.args_object_init_2 _ _, object_init_meets F.called_bool.init.lookup F.called_bool.made (by decide) prog w A.in1 _ s₁ ⟨ty, rfl, hq⟩⟩
theorem call_lenO (c : Cls X.K C) (hm : Meth X.K C "__len__" g) (F : FnG X.prog X.w X.K X.mg X.base k g fd ps sp) (hr : Room (k + 1) X.A) (hgd : X.A.guards = some []) (hb : Shp X.K fd ps 1 [] pm dvs) : CallR X (.builtin "len") (rSt .len C sp dvs pm) := by
  intro pins s σ H xs us Q I r h
  match xs, us, r, h with
  | [x], _, .cons r1 .nil, ⟨a, dx, fs, ex, ea, q⟩ =>
    subst ex
    obtain rfl := r1
    obtain ⟨mA, O, _, _, _, _⟩ := ins_get I.hok ea
    obtain ⟨od, J, _⟩ := O.look
    obtain ⟨its, hd, hb⟩ := hb.ex
    obtain ⟨m, fr⟩ := inv_fr I
    refine PySem.W.len_K fr I.ok.mod.kin J hm.at_ hm.fn ?_
    refine wpAny_call (codeAny_mono (F.run X.A.in1 X.stack s H ⟨[.ref a], []⟩ (gp [.ref a] its pm) (gp [.ref a] dvs pm) _ _ hr.in1 (in1_guards hgd) I.env0.in1 (hb _ [.ref a] [] I.kIn rfl rfl) (gp_vals (show Vals [V.ref a] [Value.ref a] from .cons rfl .nil) hd pm) q) fun r s' hq => ?_)
    cases r with
    | error er =>
      obtain ⟨_, _, _, _, _, _, _, _, _, _, _, _, z⟩ := hq
      exact z.elim
    | ok fl =>
      cases fl with
      | ret u =>
        obtain ⟨v, H', I3, rv, ⟨t, ev, h0, h1⟩, q3⟩ := I.after hq
        subst ev
        obtain ⟨tk, rfl⟩ := rv
        exact ⟨⟨h0, h1⟩, .int t, H', I3.tok _, ⟨_, rfl⟩, q3⟩
      | next => exact False.elim hq
      | brk => exact False.elim hq
      | cont => exact False.elim hq
theorem call_boolO (c : Cls X.K C) (hm : Meth X.K C "__bool__" g) (F : FnG X.prog X.w X.K X.mg X.base k g fd ps sp) (hr : Room (k + 1) X.A) (hgd : X.A.guards = some []) (hb : Shp X.K fd ps 1 [] pm dvs) : CallR X (.type "bool") (rSt .bool C sp dvs pm) := by
  intro pins s σ H xs us Q I r h
  match xs, us, r, h with
  | [x], _, .cons r1 .nil, ⟨a, dx, fs, ex, ea, q⟩ =>
    subst ex
    obtain rfl := r1
    obtain ⟨mA, O, _, _, _, _⟩ := ins_get I.hok ea
    obtain ⟨od, J, _⟩ := O.look
    obtain ⟨its, hd, hb⟩ := hb.ex
    obtain ⟨m, fr⟩ := inv_fr I
    have hr2 := in2_room hr
    refine bool_inst (PySem.W.truthy_K fr I.ok.mod.kin J hm.at_ hm.fn ?_)
    refine wpAny_call (codeAny_mono (F.run X.A.in1.in1 X.stack s H ⟨[.ref a], []⟩ (gp [.ref a] its pm) (gp [.ref a] dvs pm) _ _ hr2 (in1_guards (in1_guards hgd)) I.env0.in1.in1 (hb _ [.ref a] [] I.kIn rfl rfl) (gp_vals (show Vals [V.ref a] [Value.ref a] from .cons rfl .nil) hd pm) q) fun r s' hq => ?_)
    cases r with
    | error er =>
      obtain ⟨_, _, _, _, _, _, _, _, _, _, _, _, z⟩ := hq
      exact z.elim
    | ok fl =>
      cases fl with
      | ret u =>
        obtain ⟨v, H', I3, rv, ⟨b, ev⟩, q3⟩ := I.after hq
        subst ev
        cases rv
        exact ⟨.bl b, H', I3, rfl, q3⟩
      | next => exact False.elim hq
      | brk => exact False.elim hq
      | cont => exact False.elim hq
/-- the built-in's name, the method's -/
def StK.fn : StK → Str
  | .str => "str"
  | .len => "len"
  | .bool => "bool"
def StK.me : StK → Str
  | .str => "__str__"
  | .len => "__len__"
  | .bool => "__bool__"
theorem pe_stG {q : StK} (he : PE X e ta) (c : Cls X.K C) (hm : Meth X.K C q.me g) (F : FnG X.prog X.w X.K X.mg X.base k g fd ps sp) (hr : Room (k + 1) X.A) (hgd : X.A.guards = some []) (hb : Shp X.K fd ps 1 [] pm dvs) (hg : Gl X q.fn) (hmg : X.mg q.fn = none) (hs : noStar e = true) :
    PE X (.Call (.Name q.fn p1) [e] [] pos) (tSt q C sp dvs pm ta) := by
  cases q with
  | str => exact (pe_callTy (call_strO c hm F hr hgd hb) hg hmg PyProof.Rows.boot_str (pa_cons he pa_nil (star_no hs)) (by decide) (by decide) (star_no hs) rfl).imp fun σ H Q h => h
  | len => exact (pe_callB (call_lenO c hm F hr hgd hb) hg hmg PySem.boot_len (pa_cons he pa_nil (star_no hs)) (by decide) (by decide) (star_no hs) rfl).imp fun σ H Q h => h
  | bool => exact (pe_callTy (call_boolO c hm F hr hgd hb) hg hmg PyProof.Rows.boot_bool (pa_cons he pa_nil (star_no hs)) (by decide) (by decide) (star_no hs) rfl).imp fun σ H Q h => h
end
/-! ### properties -/
def tPr (C : Addr) (sp : Sp) (dvs : List V) (pm : List PM) (ta : TE) : TE := fun σ H Q => ta σ H fun x H1 => ∃ a dx fs, x = .ref a ∧ H1 a = some (.ins C dx fs) ∧ sp (gp [.ref a] dvs pm) H1 Q (fun _ _ _ => False)
section
variable {X : Cx} {k : Nat} {C p g a dx : Addr} {fs : List (Str × V)} {f : Str} {fd : FuncData} {ps : List Str} {sp : Sp} {dvs : List V} {pm : List PM} {e : Expr} {pos : Pos} {ta : TE}
theorem getpropG {pins : List (Addr × Obj)} {σ : St} {H : Hp} {s : Shared} {Q : VK} {b : Bool} {E' : Value → Shared → Prop} (I : Inv X pins σ H s) (ea : H a = some (.ins C dx fs)) (c : Cls X.K C) (hp : PropOf X.K C f p g)
    (F : FnG X.prog X.w X.K X.mg X.base k g fd ps sp) (hr : Room (k + 1) X.A) (hgd : X.A.guards = some []) (hb : Shp X.K fd ps 1 [] pm dvs) (h : sp (gp [.ref a] dvs pm) H Q (fun _ _ _ => False)) :
    wpAny (model X.prog X.w) X.A (getAttr (.ref a) f b) (EP X pins σ Q) E' s := by
  obtain ⟨mA, O, _, _, _, _⟩ := ins_get I.hok ea
  obtain ⟨od, J, _⟩ := O.look
  obtain ⟨rest, hrec⟩ := hp.rec_
  have I1 := I.tok (s.toks + 1)
  obtain ⟨its, hd, hb⟩ := hb.ex
  have hc : (PySem.W.clsIn X.K C).isSome = true := by
    obtain ⟨cd, hc, _⟩ := PySem.W.any_some c.hd
    rw [hc]
    rfl
  refine PySem.W.get_bind I.kIn J (PySem.W.plainGet_of (c.get f)).1 (PySem.W.findObj_data hc hp.at_ hp.get hp.tak) (PySem.W.plainGet_of (c.get f)).2 (wpAny_call (PySem.W.prop_get (s := { s with toks := s.toks + 1 }) I.kIn hrec ?_))
  refine codeAny_mono (F.run X.A.in1 X.stack { s with toks := s.toks + 1 } H ⟨[.ref a], []⟩ (gp [.ref a] its pm) (gp [.ref a] dvs pm) Q _ hr.in1 (in1_guards hgd) I1.env0.in1 (hb _ [.ref a] [] I1.kIn rfl rfl) (gp_vals (show Vals [V.ref a] [Value.ref a] from .cons rfl .nil) hd pm) h) fun r s' hq => ?_
  cases r with
  | error er =>
    obtain ⟨_, _, _, _, _, _, _, _, _, _, _, _, z⟩ := hq
    exact z.elim
  | ok fl =>
    cases fl with
    | ret u =>
      obtain ⟨v, H', I3, rv, q3⟩ := I1.after hq
      show wpAny _ _ (handedOut u) _ _ _
      rw [PySem.W.handedOut_of (handed_of rv)]
      exact wpAny_pure ⟨v, H', I3, rv, q3⟩
    | next => exact False.elim hq
    | brk => exact False.elim hq
    | cont => exact False.elim hq
theorem pe_prG (he : PE X e ta) (c : Cls X.K C) (hp : PropOf X.K C f p g) (F : FnG X.prog X.w X.K X.mg X.base k g fd ps sp) (hr : Room (k + 1) X.A) (hgd : X.A.guards = some []) (hb : Shp X.K fd ps 1 [] pm dvs)
    (hab : attributeBase e f X.env (eval e X.env) = eval e X.env) : PE X (.Attribute e f pos) (tPr C sp dvs pm ta) := by
  refine ⟨fun pins s σ H Q I h => ?_⟩
  refine attr_of hab (thn (he.run pins s σ H _ I h) fun u s1 ⟨x, H1, I1, rx, a, dx, fs, ex, ea, q⟩ => ?_)
  subst ex
  obtain rfl : u = Value.ref a := rx
  exact getpropG I1 ea c hp F hr hgd hb q
end
end DL

set_option Elab.async false
set_option linter.all false
set_option maxRecDepth 100000
set_option maxHeartbeats 4000000
namespace DL
open PySem L2 PyProof.Rows
section
variable {k : Wk} {W : WX} {pg : Pg} {cl : CallH} {X : Cx}
theorem mc_run {c f : Nat} {pm : List PM} {o : CE} {l lk : CA} {s : Slots} : runE pg cl (.mc c f pm o l lk) s = (runE pg cl o s).bind fun d s1 => if isObj c d then (runA pg cl l s1).bind fun xs s2 => (runA pg cl lk s2).bind fun zs s3 => doCall cl pg.sig f pm (.v d :: (xs ++ zs)) s3 else .bad := by simp only [runE]
theorem pc_run {c f : Nat} {o : CE} {s : Slots} : runE pg cl (.pc c f o) s = (runE pg cl o s).bind fun d s1 => if isObj c d then noX (doCall cl pg.sig f [.a 0] [.v d] s1) else .bad := by simp only [runE]
theorem new_run {c f : Nat} {pm : List PM} {l lk : CA} {s : Slots} : runE pg cl (.new c f pm l lk) s = (runA pg cl l s).bind fun xs s1 => (runA pg cl lk s1).bind fun zs s2 => doNew cl pg.sig c f pm (xs ++ zs) s2 := by simp only [runE]
theorem isObj_inv {c : Nat} {d : D} (h : isObj c d = true) : ∃ l, d = .obj c l := by
  cases d with
  | obj c' l =>
    have e : c' = c := eq_of_beq (show (c' == c) = true from h)
    exact ⟨l, by rw [e]⟩
  | _ => cases h
theorem lookup_not {kvs : List (Str × V)} {m : Str} (h : m ∉ kvs.map (·.1)) : kvs.lookup m = none := by
  induction kvs with
  | nil => rfl
  | cons a r ih =>
    obtain ⟨g, x⟩ := a
    rw [List.map_cons, List.mem_cons, not_or] at h
    have b : (m == g) = false := by simpa using h.1
    rw [List.lookup_cons, b]
    exact ih h.2
/-- what the receiver is -/
theorem obj_at {G H : Hp} {c : Nat} {l : List D} {v : V} {m : Str} (sb : Sub G H) (hm : m ∉ k.cf c) (h : DR k G (.obj c l) v) : ∃ a dx kvs, v = .ref a ∧ H a = some (.ins (k.ca c) dx kvs) ∧ kvs.lookup m = none := by
  obtain ⟨_, a, dx, kvs, e, q, e2, _⟩ := h
  refine ⟨a, dx, kvs, e, sb _ _ q, lookup_not fun z => hm ?_⟩
  rw [e2] at z
  exact List.mem_of_mem_take z
theorem mc_imp {c f : Nat} {pm : List PM} {o : CE} {l lk : CA} {sg : Sig} {dvs : List V} {m : Str} {vr : St → Hp → Hp → Hp → Slots → D → V → Prop} {σ : St} {H : Hp} {Q : VK} (hm : m ∉ k.cf c) (hs : pg.sig f = some sg) (hd : ∀ G, DRs k G sg.dfl dvs)
    (hv : ∀ (σ : St) (H H2 G' H' : Hp) (st2 st3 : Slots) (d : D) (v : V), (∀ a, H2 a = none → H a = none) → (∀ c, Own σ st3 c → Own σ st2 c) → (∀ c, Own σ st2 c → ∃ o, H2 c = some o) → RFr k sg.fresh H2 G' H' d v → vr σ H G' H' st3 d v)
    (h : tR k W (runE pg cl (.mc c f pm o l lk)) (vr σ H) σ H Q) : tMt (k.ca c) m (spD k cl f sg) dvs pm l.len lk.len W (tE k W pg cl o) (tA k W pg cl l) (tA k W pg cl lk) σ H Q := by
  obtain ⟨G, st, r, x, q⟩ := h
  have x' := x
  rw [mc_run] at x'
  refine tR.first r x' fun d0 st0 v G0 H0 e0 p0 v0 x0 => ?_
  have hI := if_len x0
  rw [if_pos hI] at x0
  obtain ⟨ll, rfl⟩ := isObj_inv hI
  obtain ⟨a, dx, kvs, rfl, ha, hlk⟩ := obj_at p0.rel.sub hm v0
  refine ⟨a, dx, kvs, rfl, ha, hlk, ?_⟩
  refine tR.first p0.rel x0 fun xs st1 us G1 H1 e1 p1 v1 x1 => ?_
  refine tR.first p1.rel x1 fun zs st2 ws G2 H2 e2 p2 v2 x2 => ?_
  have er : runE pg cl (.mc c f pm o l lk) st = doCall cl pg.sig f pm (.v (.obj c ll) :: (xs ++ zs)) st2 := by
    rw [mc_run, e0]
    simp only [R.bind, hI, if_true, e1, e2]
  have p12 := p1.trans p2
  have p02 := p0.trans p12
  have av : AVR k σ H G2 H2 st2 ([.v (.obj c ll)] ++ (xs ++ zs)) ([.ref a] ++ (us ++ ws)) := AVR.append (AVR.oneV v0) p0.dom p12 (AVR.append v1 p1.dom p2 v2)
  refine ⟨by rw [← v1.len]; exact runA_len e1, by rw [← v2.len]; exact runA_len e2, ?_⟩
  rcases doCall_inv (cl := cl) (pm := pm) (xs := .v (.obj c ll) :: (xs ++ zs)) (s := st2) hs with hb | ⟨h1, ds, h2, hh⟩
  · rw [hb] at x2; exact x2.elim
  · have a : Args0 k sg σ H G2 H2 st2 (.v (.obj c ll) :: (xs ++ zs)) (.ref a :: (us ++ ws)) pm dvs ds := ⟨h1, av, h2, hd G2⟩
    refine ⟨G2, ds, a.rel p2.rel, by rw [argsOf_len h2]; exact a.parts.2.2.2, ?_⟩
    rcases hh with ⟨d, outs, s', h3, h4, h5⟩ | ⟨c, fs, outs, s', h3, h4, h5⟩
    · rw [h3]
      intro v G' H' p rv
      exact q d s' v G' H' (er.trans h5) (a.post p02 p h4) (hv σ H H2 G' H' st2 s' d v p02.dom (fun c z => own_back a h4 z) (fun c z => by obtain ⟨o, z, _⟩ := Own.some_of p2.rel z; exact ⟨o, z⟩) rv)
    · rw [h3]
      intro cls dd G' H' p xr
      rw [er, h5] at x
      exact x cls dd σ G' H' (a.post p02 p h4) xr
theorem pc_imp {c f : Nat} {o : CE} {sg : Sig} {dvs : List V} {vr : St → Hp → Hp → Hp → Slots → D → V → Prop} {σ : St} {H : Hp} {Q : VK} (hs : pg.sig f = some sg) (hd : ∀ G, DRs k G sg.dfl dvs)
    (hv : ∀ (σ : St) (H H2 G' H' : Hp) (st2 st3 : Slots) (d : D) (v : V), (∀ a, H2 a = none → H a = none) → (∀ c, Own σ st3 c → Own σ st2 c) → (∀ c, Own σ st2 c → ∃ o, H2 c = some o) → RFr k sg.fresh H2 G' H' d v → vr σ H G' H' st3 d v)
    (h : tR k W (runE pg cl (.pc c f o)) (vr σ H) σ H Q) : tPr (k.ca c) (spD k cl f sg) dvs [.a 0] (tE k W pg cl o) σ H Q := by
  obtain ⟨G, st, r, x, q⟩ := h
  have x' := x
  rw [pc_run] at x'
  refine tR.first r x' fun d0 st0 v G0 H0 e0 p0 v0 x0 => ?_
  have hI := if_len x0
  rw [if_pos hI] at x0
  obtain ⟨ll, rfl⟩ := isObj_inv hI
  have v0' := v0
  obtain ⟨_, a, dx, kvs, rfl, ha, _, _⟩ := v0'
  refine ⟨a, dx, kvs, rfl, p0.rel.sub _ _ ha, ?_⟩
  have er : runE pg cl (.pc c f o) st = noX (doCall cl pg.sig f [.a 0] [.v (.obj c ll)] st0) := by
    rw [pc_run, e0]
    simp only [R.bind, hI, if_true]
  rcases doCall_inv (cl := cl) (pm := [.a 0]) (xs := [.v (.obj c ll)]) (s := st0) hs with hb | ⟨h1, ds, h2, hh⟩
  · rw [hb] at x0; exact x0.elim
  · have a : Args0 k sg σ H G0 H0 st0 [.v (.obj c ll)] [.ref a] [.a 0] dvs ds := ⟨h1, AVR.oneV v0, h2, hd G0⟩
    refine ⟨G0, ds, a.rel p0.rel, by rw [argsOf_len h2]; exact a.parts.2.2.2, ?_⟩
    rcases hh with ⟨d, outs, s', h3, h4, h5⟩ | ⟨c, fs, outs, s', h3, h4, h5⟩
    · rw [h3]
      intro v G' H' p rv
      exact q d s' v G' H' (er.trans (by rw [h5]; rfl)) (a.post p0 p h4) (hv σ H H0 G' H' st0 s' d v p0.dom (fun c z => own_back a h4 z) (fun c z => by obtain ⟨o, z, _⟩ := Own.some_of p0.rel z; exact ⟨o, z⟩) rv)
    · rw [h5] at x0
      exact x0.elim
theorem doNew_inv {sigs : Nat → Option Sig} {c f : Nat} {pm : List PM} {xs : List AV} {s : Slots} {sg : Sig} (hs : sigs f = some sg) : doNew cl sigs c f pm xs s = .bad ∨ (lendOk sg (.t (.obj c []) :: xs) (.a 0 :: pm) = true ∧ ∃ ds, argsOf s (.t (.obj c []) :: xs) sg.dfl (.a 0 :: pm) = some ds ∧ ((∃ d outs s', cl f ds = .ok .non (d :: outs) ∧ giveBack (.t (.obj c []) :: xs) (.a 0 :: pm) (d :: outs) s = some s' ∧ doNew cl sigs c f pm xs s = .ok d s') ∨ ∃ c' fs outs s', cl f ds = .exc c' fs outs ∧ giveBack (.t (.obj c []) :: xs) (.a 0 :: pm) outs s = some s' ∧ doNew cl sigs c f pm xs s = .exc c' fs s')) := by
  unfold doNew
  simp only [hs]
  by_cases h1 : lendOk sg (.t (.obj c []) :: xs) (.a 0 :: pm) = true
  · simp only [if_pos h1]
    cases h2 : argsOf s (.t (.obj c []) :: xs) sg.dfl (.a 0 :: pm) with
    | none => exact .inl rfl
    | some ds =>
      cases h3 : cl f ds with
      | bad => simp only [h3]; exact .inl trivial
      | ok d outs =>
        cases outs with
        | nil => cases d <;> (simp only [h3]; exact .inl trivial)
        | cons d0 outs =>
          cases d with
          | non =>
            simp only [h3]
            cases h4 : giveBack (.t (.obj c []) :: xs) (.a 0 :: pm) (d0 :: outs) s with
            | none => exact .inl rfl
            | some s' => exact .inr ⟨h1, ds, rfl, .inl ⟨d0, outs, s', h3, h4, rfl⟩⟩
          | _ => simp only [h3]; exact .inl trivial
      | exc c' fs outs =>
        simp only [h3]
        cases h4 : giveBack (.t (.obj c []) :: xs) (.a 0 :: pm) outs s with
        | none => exact .inl rfl
        | some s' => exact .inr ⟨h1, ds, rfl, .inr ⟨c', fs, outs, s', h3, h4, rfl⟩⟩
  · simp only [if_neg h1]; exact .inl trivial
/-- the arguments, with a new object ahead of them -/
theorem AVR.new {σ : St} {H0 G2 H2 H3 : Hp} {st : Slots} {xs : List AV} {us : List V} {d : D} {x : Addr} (h : AVR k σ H0 G2 H2 st xs us) (hx : H2 x = none) (p : Post k σ st G2 H2 σ st G2 H3) (hf : vF k σ H0 G2 H3 st d (.ref x)) : AVR k σ H0 G2 H3 st (.t d :: xs) (.ref x :: us) := by
  refine ⟨by rw [List.length_cons, List.length_cons, h.len], fun j d' e => ?_, fun j i e => ?_, fun j d' e => ?_, fun j j' d1 d2 u e e' g g' => ?_⟩
  · cases j with
    | zero => cases e
    | succ j => exact h.v j d' e
  · cases j with
    | zero => cases e
    | succ j => exact h.b j i e
  · cases j with
    | zero => cases e; exact ⟨_, rfl, hf⟩
    | succ j =>
      obtain ⟨u, h1, h2⟩ := h.t j d' e
      exact ⟨u, h1, h2.step p⟩
  · have no : ∀ (i : Nat) (d : D), xs[i]? = some (.t d) → us[i]? = some (.ref x) → False := fun i d e g => by
      obtain ⟨u, h1, a, o, e1, h3, _⟩ := h.t i d e
      rw [g] at h1
      cases h1
      cases e1
      rw [hx] at h3
      cases h3
    cases j with
    | zero =>
      cases j' with
      | zero => rfl
      | succ j' =>
        have g : V.ref x = u := Option.some.inj g
        subst g
        exact (no j' d2 e' g').elim
    | succ j =>
      cases j' with
      | zero =>
        have g' : V.ref x = u := Option.some.inj g'
        subst g'
        exact (no j d1 e g).elim
      | succ j' => rw [h.tt j j' d1 d2 u e e' g g']
theorem new_imp {c f : Nat} {pm : List PM} {l lk : CA} {sg : Sig} {dvs : List V} {σ : St} {H : Hp} {Q : VK} (hc : c ∈ k.cs) (hs : pg.sig f = some sg) (hf : sg.fresh = false) (hd : ∀ G, DRs k G sg.dfl dvs)
    (h : tF k W pg cl (.new c f pm l lk) σ H Q) : tMk (k.ca c) (spD k cl f sg) dvs (.a 0 :: pm) l.len lk.len W (tA k W pg cl l) (tA k W pg cl lk) σ H Q := by
  obtain ⟨G, st, r, x, q⟩ := h
  have x' := x
  rw [new_run] at x'
  refine tR.first r x' fun xs st1 us G1 H1 e1 p1 v1 x1 => ?_
  refine tR.first p1.rel x1 fun zs st2 ws G2 H2 e2 p2 v2 x2 => ?_
  have er : runE pg cl (.new c f pm l lk) st = doNew cl pg.sig c f pm (xs ++ zs) st2 := by
    rw [new_run, e1]
    simp only [R.bind, e2]
  have p12 := p1.trans p2
  have av : AVR k σ H G2 H2 st2 (xs ++ zs) (us ++ ws) := AVR.append v1 p1.dom p2 v2
  refine ⟨by rw [← v1.len]; exact runA_len e1, by rw [← v2.len]; exact runA_len e2, fun a dx ha hdx hne => ?_⟩
  have n1 := New.putH (o := HO.own a) p2.rel.sub hdx
  have hx2 : upd H2 dx (HO.own a) a = none := by rw [upd_ne (Ne.symm hne)]; exact ha
  have nw := n1.trans (New.putH (o := HO.ins (k.ca c) dx []) n1.sub hx2)
  have pn := nw.post p2.rel
  have ga : G2 a = none := none_of_sub p2.rel.sub ha
  have no : ¬ Own σ st2 a := fun z => by
    obtain ⟨o, z, _⟩ := Own.some_of p2.rel z
    rw [ha] at z
    cases z
  have fresh : vF k σ H G2 (upd (upd H2 dx (.own a)) a (.ins (k.ca c) dx [])) st2 (.obj c []) (.ref a) := ⟨a, _, rfl, upd_same, p12.dom a ha, ga, no, hc, dx, [], rfl, rfl, rfl⟩
  rcases doNew_inv (cl := cl) (c := c) (pm := pm) (xs := xs ++ zs) (s := st2) hs with hb | ⟨h1, ds, h2, hh⟩
  · rw [hb] at x2; exact x2.elim
  · have A : Args0 k sg σ H G2 (upd (upd H2 dx (.own a)) a (.ins (k.ca c) dx [])) st2 (.t (.obj c []) :: (xs ++ zs)) (.ref a :: (us ++ ws)) (.a 0 :: pm) dvs ds := ⟨h1, av.new ha pn fresh, h2, hd G2⟩
    have pA := p12.trans pn
    refine ⟨G2, ds, A.rel pn.rel, by rw [argsOf_len h2]; exact A.parts.2.2.2, ?_⟩
    rcases hh with ⟨d, outs, s', h3, h4, h5⟩ | ⟨c', fs, outs, s', h3, h4, h5⟩
    · rw [h3]
      intro v G' H' p rv
      unfold RFr at rv
      rw [hf, if_neg (by simp)] at rv
      refine ⟨rv, q d s' (.ref a) G' H' (er.trans h5) (A.post pA p h4) ?_⟩
      have hb0 : (0 : Nat) ∈ sg.bor := by
        have z := lendP_at A.parts.1 (p := 0) (m := .a 0) rfl
        simpa using z
      have ow0 : ownAt (initA sg (d :: outs)) 0 = some d := (initA_bor rfl hb0).2
      obtain ⟨b, o, z1, z2, z3, z4⟩ := p.rel.ow 0 d ow0
      have z1' : b = a := by
        have z := map_some_get.mp z1
        have z' : (gp (V.ref a :: (us ++ ws)) dvs (.a 0 :: pm))[0]? = some (.ref a) := rfl
        rw [z'] at z
        cases z
        rfl
      subst z1'
      exact ⟨b, o, rfl, z2, p12.dom b ha, z3, fun z => no (own_back A h4 z), z4⟩
    · rw [h3]
      intro cls dd G' H' p xr
      rw [er, h5] at x
      exact x cls dd σ G' H' (A.post pA p h4) xr
theorem st_run {q : StK} {c f : Nat} {o : CE} {s : Slots} : runE pg cl (.st q c f o) s = (runE pg cl o s).bind fun d s1 => if isObj c d then toS q (noX (doCall cl pg.sig f [.a 0] [.v d] s1)) else .bad := by simp only [runE]
theorem st_imp {qk : StK} {c f : Nat} {o : CE} {sg : Sig} {dvs : List V} {σ : St} {H : Hp} {Q : VK} (hs : pg.sig f = some sg) (hf : sg.fresh = false) (hd : ∀ G, DRs k G sg.dfl dvs)
    (h : tE k W pg cl (.st qk c f o) σ H Q) : tSt qk (k.ca c) (spD k cl f sg) dvs [.a 0] (tE k W pg cl o) σ H Q := by
  obtain ⟨G, st, r, x, q⟩ := h
  have x' := x
  rw [st_run] at x'
  refine tR.first r x' fun d0 st0 v G0 H0 e0 p0 v0 x0 => ?_
  have hI := if_len x0
  rw [if_pos hI] at x0
  obtain ⟨ll, rfl⟩ := isObj_inv hI
  have v0' := v0
  obtain ⟨_, a, dx, kvs, rfl, ha, _, _⟩ := v0'
  refine ⟨a, dx, kvs, rfl, p0.rel.sub _ _ ha, ?_⟩
  have er : runE pg cl (.st qk c f o) st = toS qk (noX (doCall cl pg.sig f [.a 0] [.v (.obj c ll)] st0)) := by
    rw [st_run, e0]
    simp only [R.bind, hI, if_true]
  rcases doCall_inv (cl := cl) (pm := [.a 0]) (xs := [.v (.obj c ll)]) (s := st0) hs with hb | ⟨h1, ds, h2, hh⟩
  · rw [hb] at x0; exact x0.elim
  · have a : Args0 k sg σ H G0 H0 st0 [.v (.obj c ll)] [.ref a] [.a 0] dvs ds := ⟨h1, AVR.oneV v0, h2, hd G0⟩
    refine ⟨G0, ds, a.rel p0.rel, by rw [argsOf_len h2]; exact a.parts.2.2.2, ?_⟩
    rcases hh with ⟨d, outs, s', h3, h4, h5⟩ | ⟨c, fs, outs, s', h3, h4, h5⟩
    · rw [h3]
      intro v G' H' p rv
      rw [h5] at x0
      have hq : qk.ok d = true := if_len x0
      unfold RFr at rv
      rw [hf, if_neg (by simp)] at rv
      refine ⟨?_, q d s' v G' H' (er.trans (by rw [h5]; exact if_pos hq)) (a.post p0 p h4) rv⟩
      cases qk with
      | str =>
        cases d with
        | str t => exact ⟨t, rv⟩
        | _ => cases hq
      | len =>
        cases d with
        | int n =>
          have hq' : (decide (0 ≤ n) && decide (n < 9223372036854775808)) = true := hq
          rw [Bool.and_eq_true, decide_eq_true_iff, decide_eq_true_iff] at hq'
          exact ⟨n, rv, hq'.1, by omega⟩
        | _ => cases hq
      | bool =>
        cases d with
        | bl b => exact ⟨b, rv⟩
        | _ => cases hq
    · rw [h5] at x0
      exact x0.elim
theorem newV_run {i c f : Nat} {pm : List PM} {l lk : CA} {s : Slots} : runE pg cl (.newV i c f pm l lk) s = if isClsAt s i c then runE pg cl (.new c f pm l lk) s else .bad := by simp only [runE]
theorem cm_run {c f : Nat} {pm : List PM} {l lk : CA} {s : Slots} : runE pg cl (.cm c f pm l lk) s = (runA pg cl l s).bind fun xs s1 => (runA pg cl lk s1).bind fun zs s2 => doCall cl pg.sig f pm (.v (.cls c) :: (xs ++ zs)) s2 := by simp only [runE]
theorem isClsAt_inv {s : Slots} {i c : Nat} (h : isClsAt s i c = true) : s[i]? = some (.fr (.cls c)) := by
  unfold isClsAt at h
  split at h
  · rename_i c' e
    have e' : c' = c := eq_of_beq h
    rw [e, e']
  · cases h
theorem newV_imp {i c f : Nat} {pm : List PM} {l lk : CA} {sg : Sig} {dvs : List V} {σ : St} {H : Hp} {Q : VK} (hc : c ∈ k.cs) (hs : pg.sig f = some sg) (hf : sg.fresh = false) (hd : ∀ G, DRs k G sg.dfl dvs)
    (h : tF k W pg cl (.newV i c f pm l lk) σ H Q) : tMkV i (k.ca c) (spD k cl f sg) dvs (.a 0 :: pm) l.len lk.len W (tA k W pg cl l) (tA k W pg cl lk) σ H Q := by
  obtain ⟨G, st, r, x, q⟩ := h
  have x' := x
  rw [newV_run] at x'
  have hI := if_len x'
  have e0 : runE pg cl (.newV i c f pm l lk) st = runE pg cl (.new c f pm l lk) st := by rw [newV_run, if_pos hI]
  obtain ⟨v, h1, h2⟩ := r.fr i _ (isClsAt_inv hI)
  have h2' : v = .ref (k.ca c) := h2.2
  refine ⟨by rw [h1, h2'], new_imp hc hs hf hd ⟨G, st, r, by rw [← e0]; exact x, fun d st' v G' H' e p vv => q d st' v G' H' (by rw [e0]; exact e) p vv⟩⟩
theorem cm_imp {c f : Nat} {pm : List PM} {l lk : CA} {sg : Sig} {dvs : List V} {vr : St → Hp → Hp → Hp → Slots → D → V → Prop} {σ : St} {H : Hp} {Q : VK} (hc : c ∈ k.cs) (hs : pg.sig f = some sg) (hd : ∀ G, DRs k G sg.dfl dvs)
    (hv : ∀ (σ : St) (H H2 G' H' : Hp) (st2 st3 : Slots) (d : D) (v : V), (∀ a, H2 a = none → H a = none) → (∀ c, Own σ st3 c → Own σ st2 c) → (∀ c, Own σ st2 c → ∃ o, H2 c = some o) → RFr k sg.fresh H2 G' H' d v → vr σ H G' H' st3 d v)
    (h : tR k W (runE pg cl (.cm c f pm l lk)) (vr σ H) σ H Q) : tCm (k.ca c) (spD k cl f sg) dvs pm l.len lk.len W (tA k W pg cl l) (tA k W pg cl lk) σ H Q := by
  obtain ⟨G, st, r, x, q⟩ := h
  have x' := x
  rw [cm_run] at x'
  refine tR.first r x' fun xs st1 us G1 H1 e1 p1 v1 x1 => ?_
  refine tR.first p1.rel x1 fun zs st2 ws G2 H2 e2 p2 v2 x2 => ?_
  have er : runE pg cl (.cm c f pm l lk) st = doCall cl pg.sig f pm (.v (.cls c) :: (xs ++ zs)) st2 := by
    rw [cm_run, e1]
    simp only [R.bind, e2]
  have p12 := p1.trans p2
  have v0 : DR k G (.cls c) (.ref (k.ca c)) := ⟨hc, rfl⟩
  have av0 : AVR k σ H G2 H2 st2 (xs ++ zs) (us ++ ws) := AVR.append v1 p1.dom p2 v2
  have av : AVR k σ H G2 H2 st2 ([.v (.cls c)] ++ (xs ++ zs)) ([.ref (k.ca c)] ++ (us ++ ws)) := AVR.append (AVR.oneV v0) (fun _ z => z) p12 av0
  refine ⟨by rw [← v1.len]; exact runA_len e1, by rw [← v2.len]; exact runA_len e2, ?_⟩
  rcases doCall_inv (cl := cl) (pm := pm) (xs := .v (.cls c) :: (xs ++ zs)) (s := st2) hs with hb | ⟨h1, ds, h2, hh⟩
  · rw [hb] at x2; exact x2.elim
  · have a : Args0 k sg σ H G2 H2 st2 (.v (.cls c) :: (xs ++ zs)) (.ref (k.ca c) :: (us ++ ws)) pm dvs ds := ⟨h1, av, h2, hd G2⟩
    refine ⟨G2, ds, a.rel p2.rel, by rw [argsOf_len h2]; exact a.parts.2.2.2, ?_⟩
    rcases hh with ⟨d, outs, s', h3, h4, h5⟩ | ⟨c', fs, outs, s', h3, h4, h5⟩
    · rw [h3]
      intro v G' H' p rv
      exact q d s' v G' H' (er.trans h5) (a.post p12 p h4) (hv σ H H2 G' H' st2 s' d v p12.dom (fun c z => own_back a h4 z) (fun c z => by obtain ⟨o, z, _⟩ := Own.some_of p2.rel z; exact ⟨o, z⟩) rv)
    · rw [h3]
      intro cls dd G' H' p xr
      rw [er, h5] at x
      exact x cls dd σ G' H' (a.post p12 p h4) xr
theorem cm0_imp {C : Addr} {sp : Sp} {dvs : List V} {pm : List PM} {m : Nat} {σ : St} {H : Hp} {Q : VK} {lk : CA} (h : tCm C sp dvs pm 0 m W (tA k W pg cl .nil) (tA k W pg cl lk) σ H Q) : tCm C sp dvs pm 0 m W tNil (tA k W pg cl lk) σ H Q := ia_nil h
theorem mk0_imp {C : Addr} {sp : Sp} {dvs : List V} {pm : List PM} {m : Nat} {σ : St} {H : Hp} {Q : VK} {lk : CA} (h : tMk C sp dvs pm 0 m W (tA k W pg cl .nil) (tA k W pg cl lk) σ H Q) : tMk C sp dvs pm 0 m W tNil (tA k W pg cl lk) σ H Q := ia_nil h
theorem mt0_imp {C : Addr} {mn : Str} {sp : Sp} {dvs : List V} {pm : List PM} {m : Nat} {σ : St} {H : Hp} {Q : VK} {o : CE} {lk : CA} (h : tMt C mn sp dvs pm 0 m W (tE k W pg cl o) (tA k W pg cl .nil) (tA k W pg cl lk) σ H Q) : tMt C mn sp dvs pm 0 m W (tE k W pg cl o) tNil (tA k W pg cl lk) σ H Q := by
  obtain ⟨G, st, r, x, q⟩ := h
  refine ⟨G, st, r, x, fun a st' v G' H' e p vv => ?_⟩
  obtain ⟨b, dx, fs, h1, h2, h3, h4⟩ := q a st' v G' H' e p vv
  exact ⟨b, dx, fs, h1, h2, h3, ia_nil h4⟩
/-- C(..) by the core -/
theorem sf_newC {kk c f : Nat} {fa : Addr} {fd : FuncData} {ps : List Str} {sg : Sig} {pm : List PM} {l lk : CA} {dvs : List V} {x : Str} {p pos : Pos} {es : List Expr} {kws : List Keyword} (hc : c ∈ k.cs) (hs : pg.sig f = some sg) (hf : sg.fresh = false) (hd : ∀ G, DRs k G sg.dfl dvs)
    (M : Mk X.K (k.ca c) fa) (F : FnG X.prog X.w X.K X.mg X.base kk fa fd ps (spD k cl f sg)) (hr : Room (kk + 1) X.A) (hgd : X.A.guards = some []) (hg : Gl X x) (hm : X.mg x = some (.ref (k.ca c))) (hb : Shp X.K fd ps (l.len + 1) (kwN kws) (.a 0 :: pm) dvs) (hl : lk.len = (kwN kws).length) (tkX : L2N.Takes X W)
    (ha : PA X es (tA k W pg cl l)) (hl0 : es = [] → l = .nil) (hkw : PK X kws (tA k W pg cl lk)) (hst : es.all noStar = true) (hkn : kws.all (fun kw => kw.arg.isSome) = true) (hdb : (x == ("__debug__" : Str)) = false) : PE X (.Call (.Name x p) es kws pos) (tF k W pg cl (.new c f pm l lk)) := by
  cases es with
  | nil =>
    obtain rfl := hl0 rfl
    exact (pe_mkG0 M F hr hgd hg hm hb tkX hkw hkn hdb).imp fun σ H Q h => by rw [← hl]; exact mk0_imp (new_imp hc hs hf hd h)
  | cons e es => exact (pe_mkG M F hr hgd hg hm hb tkX ha hkw hst hkn hdb).imp fun σ H Q h => by rw [← hl]; exact new_imp hc hs hf hd h
/-- x(..), x a local name of the class c -/
theorem sf_newV {kk i c f : Nat} {fa : Addr} {fd : FuncData} {ps : List Str} {sg : Sig} {pm : List PM} {l lk : CA} {dvs : List V} {x : Str} {p pos : Pos} {e : Expr} {es : List Expr} {kws : List Keyword} (hc : c ∈ k.cs) (hs : pg.sig f = some sg) (hf : sg.fresh = false) (hd : ∀ G, DRs k G sg.dfl dvs)
    (M : Mk X.K (k.ca c) fa) (F : FnG X.prog X.w X.K X.mg X.base kk fa fd ps (spD k cl f sg)) (hr : Room (kk + 1) X.A) (hgd : X.A.guards = some []) (hN : X.N[i]? = some x) (hvs : Vis X.env.scope x) (hb : Shp X.K fd ps (l.len + 1) (kwN kws) (.a 0 :: pm) dvs) (hl : lk.len = (kwN kws).length) (tkX : L2N.Takes X W)
    (ha : PA X (e :: es) (tA k W pg cl l)) (hkw : PK X kws (tA k W pg cl lk)) (hst : (e :: es).all noStar = true) (hkn : kws.all (fun kw => kw.arg.isSome) = true) (hdb : (x == ("__debug__" : Str)) = false) (hcd : (x == ("__classdict__" : Str)) = false) : PE X (.Call (.Name x p) (e :: es) kws pos) (tF k W pg cl (.newV i c f pm l lk)) :=
  (pe_mkV M F hr hgd hN hvs hb tkX ha hkw hst hkn hdb hcd).imp fun σ H Q h => by rw [← hl]; exact newV_imp hc hs hf hd h
/-- C.m(..), a class method, by the core -/
theorem se_cm {kk c f : Nat} {fa pa : Addr} {mc : Value} {fd : FuncData} {ps : List Str} {sg : Sig} {pm : List PM} {l lk : CA} {dvs : List V} {x m : Str} {xp apos pos : Pos} {es : List Expr} {kws : List Keyword} {vr : St → Hp → Hp → Hp → Slots → D → V → Prop} (hc : c ∈ k.cs) (hs : pg.sig f = some sg) (hd : ∀ G, DRs k G sg.dfl dvs)
    (hv : ∀ (σ : St) (H H2 G' H' : Hp) (st2 st3 : Slots) (d : D) (v : V), (∀ a, H2 a = none → H a = none) → (∀ c, Own σ st3 c → Own σ st2 c) → (∀ c, Own σ st2 c → ∃ o, H2 c = some o) → RFr k sg.fresh H2 G' H' d v → vr σ H G' H' st3 d v)
    (rd : ClX.CRead X.K (k.ca c) mc) (Me : ClX.CMet X.K (k.ca c) mc m pa fa) (F : FnG X.prog X.w X.K X.mg X.base kk fa fd ps (spD k cl f sg)) (hr : Room kk X.A) (hgd : X.A.guards = some []) (hg : Gl X x) (hm : X.mg x = some (.ref (k.ca c))) (hb : Shp X.K fd ps (l.len + 1) (kwN kws) pm dvs) (hl : lk.len = (kwN kws).length) (tkX : L2N.Takes X W)
    (ha : PA X es (tA k W pg cl l)) (hl0 : es = [] → l = .nil) (hkw : PK X kws (tA k W pg cl lk)) (hst : es.all noStar = true) (hkn : kws.all (fun kw => kw.arg.isSome) = true) (hdb : (x == ("__debug__" : Str)) = false) (hbase : noCall0 (.Name x xp) = true) (hn : es.length + kws.length < 29) (hline : (apos.endLine == pos.line) = true) :
    PE X (.Call (.Attribute (.Name x xp) m apos) es kws pos) (fun σ H => tR k W (runE pg cl (.cm c f pm l lk)) (vr σ H) σ H) := by
  cases es with
  | nil =>
    obtain rfl := hl0 rfl
    exact (pe_cmG0 rd Me F hr hgd hg hm hb tkX hkw hkn hdb (base_ok hbase _ _) (by simpa using hn) hline).imp fun σ H Q h => by rw [← hl]; exact cm0_imp (cm_imp hc hs hd hv h)
  | cons e es => exact (pe_cmG rd Me F hr hgd hg hm hb tkX ha hkw hst hkn hdb (base_ok hbase _ _) hn hline).imp fun σ H Q h => by rw [← hl]; exact cm_imp hc hs hd hv h
/-- str(o) by the core -/
theorem se_st {q : StK} {kk c f : Nat} {fa : Addr} {fd : FuncData} {ps : List Str} {sg : Sig} {o : CE} {dvs : List V} {p1 pos : Pos} {eo : Expr} (hs : pg.sig f = some sg) (hf : sg.fresh = false) (hd : ∀ G, DRs k G sg.dfl dvs)
    (C : Cls X.K (k.ca c)) (hm : Meth X.K (k.ca c) q.me fa) (F : FnG X.prog X.w X.K X.mg X.base kk fa fd ps (spD k cl f sg)) (hr : Room (kk + 1) X.A) (hgd : X.A.guards = some []) (hb : Shp X.K fd ps 1 [] [.a 0] dvs) (hg : Gl X q.fn) (hmg : X.mg q.fn = none)
    (he : PE X eo (tE k W pg cl o)) (hst : noStar eo = true) : PE X (.Call (.Name q.fn p1) [eo] [] pos) (tE k W pg cl (.st q c f o)) :=
  (pe_stG he C hm F hr hgd hb hg hmg hst).imp fun σ H Q h => st_imp hs hf hd h
/-- o.m(..) by the core -/
theorem se_mc {kk c f : Nat} {fa : Addr} {fd : FuncData} {ps : List Str} {sg : Sig} {pm : List PM} {o : CE} {l lk : CA} {dvs : List V} {m : Str} {apos pos : Pos} {eo : Expr} {es : List Expr} {kws : List Keyword} {vr : St → Hp → Hp → Hp → Slots → D → V → Prop} (hs : pg.sig f = some sg) (hd : ∀ G, DRs k G sg.dfl dvs)
    (hv : ∀ (σ : St) (H H2 G' H' : Hp) (st2 st3 : Slots) (d : D) (v : V), (∀ a, H2 a = none → H a = none) → (∀ c, Own σ st3 c → Own σ st2 c) → (∀ c, Own σ st2 c → ∃ o, H2 c = some o) → RFr k sg.fresh H2 G' H' d v → vr σ H G' H' st3 d v)
    (C : Cls X.K (k.ca c)) (hm : m ∉ k.cf c) (Me : Meth X.K (k.ca c) m fa) (F : FnG X.prog X.w X.K X.mg X.base kk fa fd ps (spD k cl f sg)) (hr : Room kk X.A) (hgd : X.A.guards = some []) (hb : Shp X.K fd ps (l.len + 1) (kwN kws) pm dvs) (hl : lk.len = (kwN kws).length) (tkX : L2N.Takes X W)
    (he : PE X eo (tE k W pg cl o)) (ha : PA X es (tA k W pg cl l)) (hl0 : es = [] → l = .nil) (hkw : PK X kws (tA k W pg cl lk)) (hst : es.all noStar = true) (hkn : kws.all (fun kw => kw.arg.isSome) = true) (hbase : noCall0 eo = true) (hn : es.length + kws.length < 29) (hline : (apos.endLine == pos.line) = true) :
    PE X (.Call (.Attribute eo m apos) es kws pos) (fun σ H => tR k W (runE pg cl (.mc c f pm o l lk)) (vr σ H) σ H) := by
  cases es with
  | nil =>
    obtain rfl := hl0 rfl
    exact (pe_mtG0 he C Me F hr hgd hb tkX hkw hkn (base_ok hbase _ _) (by simpa using hn) hline).imp fun σ H Q h => by rw [← hl]; exact mt0_imp (mc_imp hm hs hd hv h)
  | cons e es => exact (pe_mtG he C Me F hr hgd hb tkX ha hkw hst hkn (base_ok hbase _ _) hn hline).imp fun σ H Q h => by rw [← hl]; exact mc_imp hm hs hd hv h
/-- o.p by the core -/
theorem se_pc {kk c f : Nat} {fa pa : Addr} {fd : FuncData} {ps : List Str} {sg : Sig} {o : CE} {dvs : List V} {m : Str} {pos : Pos} {eo : Expr} {vr : St → Hp → Hp → Hp → Slots → D → V → Prop} (hs : pg.sig f = some sg) (hd : ∀ G, DRs k G sg.dfl dvs)
    (hv : ∀ (σ : St) (H H2 G' H' : Hp) (st2 st3 : Slots) (d : D) (v : V), (∀ a, H2 a = none → H a = none) → (∀ c, Own σ st3 c → Own σ st2 c) → (∀ c, Own σ st2 c → ∃ o, H2 c = some o) → RFr k sg.fresh H2 G' H' d v → vr σ H G' H' st3 d v)
    (C : Cls X.K (k.ca c)) (Pr : PropOf X.K (k.ca c) m pa fa) (F : FnG X.prog X.w X.K X.mg X.base kk fa fd ps (spD k cl f sg)) (hr : Room (kk + 1) X.A) (hgd : X.A.guards = some []) (hb : Shp X.K fd ps 1 [] [.a 0] dvs)
    (he : PE X eo (tE k W pg cl o)) (hbase : noCall0 eo = true) : PE X (.Attribute eo m pos) (fun σ H => tR k W (runE pg cl (.pc c f o)) (vr σ H) σ H) :=
  (pe_prG he C Pr F hr hgd hb (base_ok hbase _ _)).imp fun σ H Q h => pc_imp hs hd hv h
end
end DL

set_option Elab.async false
set_option linter.all false
set_option maxRecDepth 100000
set_option maxHeartbeats 4000000
namespace DL
open PySem L2 PyProof.Rows
/-! ## The checker -/
structure GE where
  glb : List (Str × Nat)
  fns : List (Str × Nat)
  frs : List Nat
  cls : List (Str × Nat)
  cfs : List (Nat × List Str)
  shp : List (Nat × Nat × List Str × List PM)
  blt : List Str
  /-- methods, properties of a class; makers: the class's name, its number, its __init__ -/
  mth : List ((Nat × Str) × Nat) := []
  prp : List ((Nat × Str) × Nat) := []
  ini : List (Str × Nat × Nat) := []
  /-- class methods -/
  cmt : List ((Nat × Str) × Nat) := []
structure SC where
  N : List Str
  sc : Scope
  fn : Option Scope
def SC.fnB (c : SC) (x : Str) : Bool := match c.fn with
  | none => true
  | some s => s.names.lookup x == some .cell
def isVis (sc : Scope) (x : Str) : Bool := match sc.names.lookup x with
  | some .local => true
  | some .cell => true
  | some .free => true
  | _ => false
def isLoc (sc : Scope) (x : Str) : Bool := match sc.names.lookup x with
  | some .local => true
  | some .cell => true
  | _ => false
def isGlb (sc : Scope) (x : Str) : Bool := match sc.names.lookup x with
  | some .globalImplicit => true
  | _ => false
def chkV (c : SC) (i : Nat) (x : Str) : Bool := decide (c.N[i]? = some x) && isVis c.sc x && !(x == ("__debug__" : Str)) && !(x == ("__classdict__" : Str))
def isBlt (g : GE) (c : SC) (x : Str) : Bool := isGlb c.sc x && g.blt.contains x
def cstB : D → Const → Bool
  | .non, .none => true
  | .bl b, .bool b' => b == b'
  | .int i, .int i' => i == i'
  | .str s, .str s' => s == s'
  | _, _ => false
def opOf : Pr → Option Operator
  | .add => some .Add
  | .sub => some .Sub
  | .mul => some .Mult
  | .fdiv => some .FloorDiv
  | .mod => some .Mod
  | .pow => some .Pow
  | .addL => some .Add
  | .mulL => some .Mult
  | _ => none
def cmpOf : Pr → Option CmpOp
  | .eq => some .Eq
  | .ne => some .NotEq
  | .lt => some .Lt
  | .le => some .LtE
  | .gt => some .Gt
  | .ge => some .GtE
  | .isin => some .In
  | .notin => some .NotIn
  | .isb => some .Is
  | .isnb => some .IsNot
  | _ => none
def pName : Pr → Option Str
  | .len => some "len"
  | .tupOf => some "tuple"
  | .lstOf => some "list"
  | .sumL => some "sum"
  | .min2 => some "min"
  | .max2 => some "max"
  | .minL => some "min"
  | .maxL => some "max"
  | .allL => some "all"
  | .anyL => some "any"
  | .absI => some "abs"
  | .strOf => some "str"
  | .intOf => some "int"
  | .repr => some "repr"
  | .dvm => some "divmod"
  | .srt => some "sorted"
  | _ => none
def tyOk (g : GE) (c : SC) : Ty → Str → Bool
  | .int, x => isBlt g c x && x == ("int" : Str)
  | .str, x => isBlt g c x && x == ("str" : Str)
  | .tup, x => isBlt g c x && x == ("tuple" : Str)
  | .bool, x => isBlt g c x && x == ("bool" : Str)
  | .list, x => isBlt g c x && x == ("list" : Str)
  | .dict, x => isBlt g c x && x == ("dict" : Str)
  | .cls n, x => isGlb c.sc x && decide (g.cls.lookup x = some n) && !(x == ("__debug__" : Str))
/-- the operands of a primitive -/
def view (g : GE) (c : SC) : Pr → Expr → Option (List Expr)
  | .isN, e => match e with
    | .Compare a [.Is] [.Constant .none _ _] _ => some [a]
    | _ => none
  | .isnN, e => match e with
    | .Compare a [.IsNot] [.Constant .none _ _] _ => some [a]
    | _ => none
  | .neg, e => match e with
    | .UnaryOp .USub a _ => some [a]
    | _ => none
  | .fld n j, e => match e with
    | .Attribute a f _ => if noCall0 a && decide (((g.cfs.lookup n).getD [])[j]? = some f) then some [a] else none
    | _ => none
  | .idx, e => match e with
    | .Subscript a b _ => if notSlice b then some [a, b] else none
    | _ => none
  | .slc true false, e => match e with
    | .Subscript a (.Slice (some lo) none none _) _ => some [a, lo]
    | _ => none
  | .slc false true, e => match e with
    | .Subscript a (.Slice none (some hi) none _) _ => some [a, hi]
    | _ => none
  | .slc true true, e => match e with
    | .Subscript a (.Slice (some lo) (some hi) none _) _ => some [a, lo, hi]
    | _ => none
  | .slcL true false, e => match e with
    | .Subscript a (.Slice (some lo) none none _) _ => some [a, lo]
    | _ => none
  | .slcL false true, e => match e with
    | .Subscript a (.Slice none (some hi) none _) _ => some [a, hi]
    | _ => none
  | .isI t, e => match e with
    | .Call (.Name f _) [a, .Name tn _] [] _ => if f == ("isinstance" : Str) && isBlt g c f && noStar a && tyOk g c t tn then some [a] else none
    | _ => none
  | .tupRng, e => match e with
    | .Call (.Name t _) [.Call (.Name r _) [a] [] _] [] _ => if t == ("tuple" : Str) && r == ("range" : Str) && isBlt g c t && isBlt g c r && noStar a then some [a] else none
    | .Call (.Name t _) [.Call (.Name r _) [a, b] [] _] [] _ => if t == ("tuple" : Str) && r == ("range" : Str) && isBlt g c t && isBlt g c r && noStar a && noStar b then some [a, b] else none
    | _ => none
  | .lstRng, e => match e with
    | .Call (.Name t _) [.Call (.Name r _) [a] [] _] [] _ => if t == ("list" : Str) && r == ("range" : Str) && isBlt g c t && isBlt g c r && noStar a then some [a] else none
    | _ => none
  | .split, e => match e with
    | .Call (.Attribute a m ap) [b] [] p => if m == ("split" : Str) && noCall0 a && (ap.endLine == p.line) && noStar b then some [a, b] else none
    | _ => none
  | .join, e => match e with
    | .Call (.Attribute a m ap) [b] [] p => if m == ("join" : Str) && noCall0 a && (ap.endLine == p.line) && noStar b then some [a, b] else none
    | _ => none
  | p, e => match e with
    | .BinOp a op b _ => if opOf p = some op then some [a, b] else none
    | .Compare a [op] [b] _ => if cmpOf p = some op && !behindInMarks op b then some [a, b] else none
    | .Call (.Name x _) (e0 :: es) [] _ => if pName p = some x && isBlt g c x && (e0 :: es).all noStar then some (e0 :: es) else none
    | _ => none
def formOk : Pr → CO → Bool
  | .slc true true, .cons _ (.cons (.ival _) (.cons _ .nil)) => true
  | .slc true true, _ => false
  | .split, .cons (.sval _) (.cons _ .nil) => true
  | .split, _ => false
  | .join, .cons (.sval _) (.cons _ .nil) => true
  | .join, _ => false
  | _, _ => true
def noSet : Expr → Bool
  | .Set _ _ _ => false
  | _ => true
mutual
def chkG (c : SC) : CT → Expr → Bool
  | .nm i, e => match e with
    | .Name x _ => decide (c.N[i]? = some x) && isLoc c.sc x && (c.fnB x || decide (c.sc.names.lookup x = some .local))
    | _ => false
  | .tp ts, e => match e with
    | .Tuple es _ _ => es.all noStar && decide (ts.length = es.length) && chkGs c ts es
    | _ => false
def chkGs (c : SC) : List CT → List Expr → Bool
  | [], es => es.isEmpty
  | t :: ts, es => match es with
    | e :: es => noStar e && chkG c t e && chkGs c ts es
    | [] => false
end
def isTup : Expr → Bool
  | .Tuple _ _ _ => true
  | _ => false
def ownN (N : List Str) : List Nat → Option (List (Str × Nat))
  | [] => some []
  | i :: r => match N[i]?, ownN N r with
    | some x, some l => some ((x, i) :: l)
    | _, _ => none
def subL (a b : List Nat) : Bool := a.all fun i => b.contains i
def tailB (op : BoolOp) (eb : Expr) (rest : List Expr) (pos : Pos) : Expr := match rest with
  | [] => eb
  | _ => .BoolOp op (eb :: rest) pos
def SC.blk (c : SC) (scope : Scope) : SC := ⟨c.N, relS scope c.sc, some scope⟩
def CL.flat2 : CL → Nat
  | .nil => 0
  | .cons _ r => r.flat2 + 1
  | .star _ _ => 100
def optB {α : Type} (o : Option α) (f : α → Bool) : Bool := match o with
  | some a => f a
  | none => false
def isYes : CE → Bool
  | .cst (.bl true) => true
  | _ => false
def ifsB (b : Bool) (ifs : List Expr) (f : Expr → Bool) : Bool := match ifs with
  | [] => b
  | [i1] => f i1
  | _ => false
structure V1 where
  elt : Expr
  tg : Expr
  iter : Expr
  ifs : List Expr
  scope : Scope
  pos : Pos
structure V2 extends V1 where
  tg1 : Expr
  iter1 : Expr
  ifs1 : List Expr
def view1 : Expr → Option V1
  | .ListComp elt [⟨tg, iter, ifs, as⟩] scope pos => if as = 0 then some ⟨elt, tg, iter, ifs, scope, pos⟩ else none
  | _ => none
def view2 : Expr → Option V2
  | .ListComp elt [⟨tg, iter, ifs, as⟩, ⟨tg1, iter1, ifs1, as1⟩] scope pos => if as = 0 ∧ as1 = 0 then some ⟨⟨elt, tg, iter, ifs, scope, pos⟩, tg1, iter1, ifs1⟩ else none
  | _ => none
mutual
def chk (g : GE) (c : SC) (fr : Bool) : CE → Expr → Bool
  | .var i, e => !fr && (match e with
    | .Name x _ => chkV c i x
    | _ => false)
  | .fz i, e => !fr && (match e with
    | .Name x _ => chkV c i x
    | _ => false)
  | .cst d, e => !fr && (match e with
    | .Constant v _ _ => cstB d v
    | _ => false)
  | .glb n, e => !fr && (match e with
    | .Name x _ => isGlb c.sc x && decide (g.glb.lookup x = some n) && !(x == ("__debug__" : Str))
    | _ => false)
  | .tup l, e => !fr && (match e with
    | .Tuple es _ _ => chkL g c l es
    | _ => false)
  | .lst l, e => match e with
    | .List es _ => chkL g c l es
    | _ => false
  | .prim p l, e => (freshP p || !fr) && formOk p l && (match view g c p e with
    | some es => chkOs g c l es
    | none => false)
  | .chain p q x y z, e => !fr && (match e with
    | .Compare a [op, op'] [b, d] _ => decide (cmpOf p = some op) && decide (cmpOf q = some op') && !lastMarks [op, op'] [b, d] && chk g c false x a && chk g c false y b && chk g c false z d
    | _ => false)
  | .and x y, e => !fr && (match e with
    | .BoolOp .And (a :: b :: rest) pos => chk g c false x a && chk g c false y (tailB .And b rest pos)
    | _ => false)
  | .or x y, e => !fr && (match e with
    | .BoolOp .Or (a :: b :: rest) pos => chk g c false x a && chk g c false y (tailB .Or b rest pos)
    | _ => false)
  | .not x, e => !fr && (match e with
    | .UnaryOp .Not a _ => chk g c false x a
    | _ => false)
  | .ite t x y, e => !fr && (match e with
    | .IfExp et a b _ => chkT g c t et && chk g c false x a && chk g c false y b
    | _ => false)
  | .call f pm l lk, e => (!fr || g.frs.contains f) && (match e with
    | .Call (.Name x _) es kws _ => isGlb c.sc x && decide (g.fns.lookup x = some f) && !(x == ("__debug__" : Str)) && g.shp.contains (f, l.len, kwN kws, pm) && decide (lk.len = (kwN kws).length) && es.all noStar && kws.all (fun kw => kw.arg.isSome) && chkA g c l es && chkK g c lk kws
    | _ => false)
  | .new cn f pm l lk, e => (match e with
    | .Call (.Name x _) es kws _ => isGlb c.sc x && decide (g.ini.lookup x = some (cn, f)) && !(x == ("__debug__" : Str)) && g.shp.contains (f, l.len + 1, kwN kws, .a 0 :: pm) && decide (lk.len = (kwN kws).length) && es.all noStar && kws.all (fun kw => kw.arg.isSome) && chkA g c l es && chkK g c lk kws
    | _ => false)
  | .mc cn f pm o l lk, e => (!fr || g.frs.contains f) && (match e with
    | .Call (.Attribute eo m ap) es kws p => decide (g.mth.lookup (cn, m) = some f) && noCall0 eo && (ap.endLine == p.line) && decide (es.length + kws.length < 29) && g.shp.contains (f, l.len + 1, kwN kws, pm) && decide (lk.len = (kwN kws).length) && es.all noStar && kws.all (fun kw => kw.arg.isSome) && chk g c false o eo && chkA g c l es && chkK g c lk kws
    | _ => false)
  | .pc cn f o, e => (!fr || g.frs.contains f) && (match e with
    | .Attribute eo m _ => decide (g.prp.lookup (cn, m) = some f) && noCall0 eo && g.shp.contains (f, 1, [], [.a 0]) && chk g c false o eo
    | _ => false)
  | .st q cn f o, e => !fr && !g.frs.contains f && (match e with
    | .Call (.Name x _) [a] [] _ => x == q.fn && isBlt g c x && noStar a && decide (g.mth.lookup (cn, q.me) = some f) && g.shp.contains (f, 1, [], [.a 0]) && chk g c false o a
    | _ => false)
  | .cm cn f pm l lk, e => (!fr || g.frs.contains f) && (match e with
    | .Call (.Attribute (.Name x xp) m ap) es kws p => isGlb c.sc x && decide (g.cls.lookup x = some cn) && decide (g.cmt.lookup (cn, m) = some f) && !(x == ("__debug__" : Str)) && noCall0 (.Name x xp) && (ap.endLine == p.line) && decide (es.length + kws.length < 29) && g.shp.contains (f, l.len + 1, kwN kws, pm) && decide (lk.len = (kwN kws).length) && es.all noStar && kws.all (fun kw => kw.arg.isSome) && chkA g c l es && chkK g c lk kws
    | _ => false)
  | .newV i cn f pm l lk, e => (match e with
    | .Call (.Name x _) (e0 :: es) kws _ => chkV c i x && g.ini.any (fun q => decide (g.ini.lookup q.1 = some (cn, f))) && g.shp.contains (f, l.len + 1, kwN kws, .a 0 :: pm) && decide (lk.len = (kwN kws).length) && (e0 :: es).all noStar && kws.all (fun kw => kw.arg.isSome) && chkA g c l (e0 :: es) && chkK g c lk kws
    | _ => false)
  | .pop i x, e => !fr && (match e with
    | .Call (.Attribute (.Name y _) m ap) [a] [] p => m == ("pop" : Str) && chkV c i y && noStar a && (ap.endLine == p.line) && chk g c false x a
    | _ => false)
  | .comp own x (.g t it y), e => optB (view1 e) fun v => optB (ownN c.N own) fun l => blkC c.N c.sc v.scope l && subL t.sl own && chkI g c (isTup v.tg) it v.iter && noSet v.iter && chkG (c.blk v.scope) t v.tg && chk g (c.blk v.scope) false x v.elt && ifsB (isYes y) v.ifs (fun i1 => chkT g (c.blk v.scope) y i1)
  | .comp2 own own1 x (.g t it y) (.g t1 it1 y1), e => optB (view2 e) fun v => optB (ownN c.N own) fun l => blkC c.N c.sc v.scope l && subL t.sl own && subL t1.sl own1 && subL own1 own && chkI g c (isTup v.tg) it v.iter && noSet v.iter && chkG (c.blk v.scope) t v.tg && chkI g (c.blk v.scope) (isTup v.tg1) it1 v.iter1 && noSet v.iter1 && chkG (c.blk v.scope) t1 v.tg1 && chk g (c.blk v.scope) false x v.elt && ifsB (isYes y) v.ifs (fun i1 => chkT g (c.blk v.scope) y i1) && ifsB (isYes y1) v.ifs1 (fun i1 => chkT g (c.blk v.scope) y1 i1)
/-- as a test -/
def chkT (g : GE) (c : SC) : CE → Expr → Bool
  | .prim p l, e => !freshP p && formOk p l && (match view g c p e with
    | some es => chkOs g c l es
    | none => false)
  | .chain p q x y z, e => (match e with
    | .Compare a [op, op'] [b, d] _ => decide (cmpOf p = some op) && decide (cmpOf q = some op') && !lastMarks [op, op'] [b, d] && chk g c false x a && chk g c false y b && chk g c false z d
    | _ => false)
  | .and x y, e => (match e with
    | .BoolOp .And (a :: b :: rest) pos => chkT g c x a && chkT g c y (tailB .And b rest pos)
    | _ => false)
  | .or x y, e => (match e with
    | .BoolOp .Or (a :: b :: rest) pos => chkT g c x a && chkT g c y (tailB .Or b rest pos)
    | _ => false)
  | .not x, e => (match e with
    | .UnaryOp .Not a _ => chkT g c x a
    | _ => false)
  | .ite t x y, e => (match e with
    | .IfExp et a b _ => chkT g c t et && chkT g c x a && chkT g c y b
    | _ => false)
  | .var i, e => (match e with
    | .Name x _ => chkV c i x
    | _ => false)
  | .call f pm l lk, e => (match e with
    | .Call (.Name x _) es kws _ => isGlb c.sc x && decide (g.fns.lookup x = some f) && !(x == ("__debug__" : Str)) && g.shp.contains (f, l.len, kwN kws, pm) && decide (lk.len = (kwN kws).length) && es.all noStar && kws.all (fun kw => kw.arg.isSome) && chkA g c l es && chkK g c lk kws
    | _ => false)
  | .cst d, e => (match e with
    | .Constant v _ _ => cstB d v
    | _ => false)
  | .mc cn f pm o l lk, e => !g.frs.contains f && (match e with
    | .Call (.Attribute eo m ap) es kws p => decide (g.mth.lookup (cn, m) = some f) && noCall0 eo && (ap.endLine == p.line) && decide (es.length + kws.length < 29) && g.shp.contains (f, l.len + 1, kwN kws, pm) && decide (lk.len = (kwN kws).length) && es.all noStar && kws.all (fun kw => kw.arg.isSome) && chk g c false o eo && chkA g c l es && chkK g c lk kws
    | _ => false)
  | _, _ => false
def chkL (g : GE) (c : SC) : CL → List Expr → Bool
  | .nil, es => es.isEmpty
  | .cons x r, es => match es with
    | e :: es => noStar e && chk g c false x e && chkL g c r es
    | [] => false
  | .star x r, es => match es with
    | .Starred e _ :: es => chk g c false x e && chkL g c r es
    | _ => false
def chkO (g : GE) (c : SC) : CP → Expr → Bool
  | .val x, e => chk g c false x e
  | .pk i, e => match e with
    | .Name x _ => chkV c i x
    | _ => false
  | .ival x, e => chk g c false x e
  | .sval x, e => chk g c false x e
def chkOs (g : GE) (c : SC) : CO → List Expr → Bool
  | .nil, es => es.isEmpty
  | .cons o r, es => match es with
    | e :: es => chkO g c o e && chkOs g c r es
    | [] => false
def chkA (g : GE) (c : SC) : CA → List Expr → Bool
  | .nil, es => es.isEmpty
  | .val x r, es => match es with
    | e :: es => noStar e && chk g c false x e && chkA g c r es
    | [] => false
  | .bor i r, es => match es with
    | .Name x _ :: es => chkV c i x && chkA g c r es
    | _ => false
  | .tmp x r, es => match es with
    | e :: es => noStar e && chk g c true x e && chkA g c r es
    | [] => false
def chkK (g : GE) (c : SC) : CA → List Keyword → Bool
  | .nil, kws => kws.isEmpty
  | .val x r, kws => match kws with
    | ⟨_, e, _⟩ :: kws => chk g c false x e && chkK g c r kws
    | [] => false
  | .bor _ _, _ => false
  | .tmp _ _, _ => false
def chkI (g : GE) (c : SC) (tp : Bool) : CI → Expr → Bool
  | .seq x, e => chk g c false x e
  | .rng l, e => match e with
    | .Call (.Name r _) es [] _ => r == ("range" : Str) && isBlt g c r && es.all noStar && decide (l.flat2 = 1 ∨ l.flat2 = 2) && chkL g c l es
    | _ => false
  | .enum l, e => tp && (match e with
    | .Call (.Name r _) [a] [] _ => r == ("enumerate" : Str) && isBlt g c r && noStar a && decide (l.flat2 = 1) && chkL g c l [a]
    | _ => false)
  | .zip l, e => tp && (match e with
    | .Call (.Name r _) [a, b] [] _ => r == ("zip" : Str) && isBlt g c r && noStar a && noStar b && decide (l.flat2 = 2) && chkL g c l [a, b]
    | _ => false)
end
end DL

set_option Elab.async false
set_option linter.all false
set_option maxRecDepth 100000
set_option maxHeartbeats 4000000
namespace DL
open PySem L2 PyProof.Rows
/-- what is known of the def f: it stands at fa, keeps its promise, with room for m calls more -/
structure FOk (k : Wk) (pg : Pg) (cl : CallH) (g : GE) (X : Cx) (f m : Nat) (fa : Addr) : Prop where
  ex : ∃ kk fd ps sg dvs, pg.sig f = some sg ∧ sg.fresh = g.frs.contains f ∧ (∀ G, DRs k G sg.dfl dvs) ∧
    FnG X.prog X.w X.K X.mg X.base kk fa fd ps (spD k cl f sg) ∧ Room (kk + m) X.A ∧ ∀ n ks pm, (f, n, ks, pm) ∈ g.shp → Shp X.K fd ps n ks pm dvs
structure OkX (k : Wk) (W : WX) (pg : Pg) (cl : CallH) (g : GE) (X : Cx) (c : SC) : Prop where
  K : X.K = k.K
  nd : X.N.Nodup
  calm : X.calm = true
  un : X.A.units + 64 < cLine
  gd : X.A.guards = some []
  tk : L2N.Takes X W
  N : X.N = c.N
  sc : X.env.scope = c.sc
  fn : ∀ x, X.fn x = c.fnB x
  blt : ∀ x ∈ g.blt, X.mg x = none
  glb : ∀ (x : Str) (n : Nat), g.glb.lookup x = some n → ∃ d v u, pg.glb n = some d ∧ X.mg x = some u ∧ RelV v u ∧ ∀ G, DR k G d v
  fns : ∀ (x : Str) (f : Nat), g.fns.lookup x = some f → ∃ kk fa fd ps sg dvs, X.mg x = some (.ref fa) ∧ PySem.W.keepIn X.K (.ref fa) = true ∧ pg.sig f = some sg ∧ sg.fresh = g.frs.contains f ∧ (∀ G, DRs k G sg.dfl dvs) ∧
    FnG X.prog X.w X.K X.mg X.base kk fa fd ps (spD k cl f sg) ∧ Room kk X.A ∧ ∀ n ks pm, (f, n, ks, pm) ∈ g.shp → Shp X.K fd ps n ks pm dvs
  kit : KitO k
  cls : ∀ (x : Str) (n : Nat), g.cls.lookup x = some n → n ∈ k.cs ∧ X.mg x = some (.ref (k.ca n))
  cfs : ∀ (n j : Nat) (f : Str), ((g.cfs.lookup n).getD [])[j]? = some f → ClsD k n ∧ (k.cf n)[j]? = some f
  mth : ∀ (n : Nat) (m : Str) (f : Nat), g.mth.lookup (n, m) = some f → ∃ fa, ClsD k n ∧ m ∉ k.cf n ∧ Meth X.K (k.ca n) m fa ∧ FOk k pg cl g X f 1 fa
  prp : ∀ (n : Nat) (m : Str) (f : Nat), g.prp.lookup (n, m) = some f → ∃ pa fa, ClsD k n ∧ PropOf X.K (k.ca n) m pa fa ∧ FOk k pg cl g X f 1 fa
  ini : ∀ (x : Str) (n f : Nat), g.ini.lookup x = some (n, f) → ∃ fa, n ∈ k.cs ∧ X.mg x = some (.ref (k.ca n)) ∧ Mk X.K (k.ca n) fa ∧ g.frs.contains f = false ∧ FOk k pg cl g X f 1 fa
  cmt : ∀ (n : Nat) (m : Str) (f : Nat), g.cmt.lookup (n, m) = some f → ∃ mc pa fa, ClX.CRead X.K (k.ca n) mc ∧ ClX.CMet X.K (k.ca n) mc m pa fa ∧ FOk k pg cl g X f 0 fa
section
variable {k : Wk} {W : WX} {pg : Pg} {cl : CallH} {g : GE} {X : Cx} {c : SC}
theorem takesN {X : Cx} : L2N.Takes X WN := fun _ _ x => by
  obtain ⟨_, _, _, _, _, _, _, _, _, _, _, _, _, _, _, _, z⟩ := x
  exact z.elim
theorem OkX.blk (o : OkX k W pg cl g X c) (s : Shared) (H : Hp) (scope : Scope) (l : List (Str × Addr)) (C : Addr) (fp : List Addr) : OkX k WN pg cl g (X.blk s H scope (compEnvC scope l C X.env) fp) (c.blk scope) :=
  ⟨o.K, o.nd, o.calm, o.un, o.gd, takesN, o.N, by
    show relS scope X.env.scope = relS scope c.sc
    rw [o.sc], fun x => rfl, o.blt, o.glb, o.fns, o.kit, o.cls, o.cfs, fun n m f h => let ⟨fa, h1, h2, h3, h4⟩ := o.mth n m f h; ⟨fa, h1, h2, h3, ⟨h4.ex⟩⟩, fun n m f h => let ⟨pa, fa, h1, h2, h3⟩ := o.prp n m f h; ⟨pa, fa, h1, h2, ⟨h3.ex⟩⟩, fun x n f h => let ⟨fa, h1, h2, h3, h4, h5⟩ := o.ini x n f h; ⟨fa, h1, h2, h3, h4, ⟨h5.ex⟩⟩, fun n m f h => let ⟨mc, pa, fa, h1, h2, h3⟩ := o.cmt n m f h; ⟨mc, pa, fa, h1, h2, ⟨h3.ex⟩⟩⟩
theorem OkX.nox (o : OkX k W pg cl g X c) : OkX k WN pg cl g X.nox c :=
  ⟨o.K, o.nd, o.calm, o.un, o.gd, takesN, o.N, o.sc, o.fn, o.blt, o.glb, o.fns, o.kit, o.cls, o.cfs, fun n m f h => let ⟨fa, h1, h2, h3, h4⟩ := o.mth n m f h; ⟨fa, h1, h2, h3, ⟨h4.ex⟩⟩, fun n m f h => let ⟨pa, fa, h1, h2, h3⟩ := o.prp n m f h; ⟨pa, fa, h1, h2, ⟨h3.ex⟩⟩, fun x n f h => let ⟨fa, h1, h2, h3, h4, h5⟩ := o.ini x n f h; ⟨fa, h1, h2, h3, h4, ⟨h5.ex⟩⟩, fun n m f h => let ⟨mc, pa, fa, h1, h2, h3⟩ := o.cmt n m f h; ⟨mc, pa, fa, h1, h2, ⟨h3.ex⟩⟩⟩
theorem and3 {a b : Bool} (h : (a && b) = true) : a = true ∧ b = true := by rwa [Bool.and_eq_true] at h
theorem no_of {a : Bool} (h : (!a) = true) : a = false := by cases a <;> first | rfl | cases h
theorem OkX.var (o : OkX k W pg cl g X c) {i : Nat} {x : Str} {p : Pos} (h : chkV c i x = true) : PE X (.Name x p) (tVar i) := by
  unfold chkV at h
  obtain ⟨h, h4⟩ := and3 h
  obtain ⟨h, h3⟩ := and3 h
  obtain ⟨h1, h2⟩ := and3 h
  refine pe_var (by rw [o.N]; exact of_decide_eq_true h1) ?_ (no_of h3) (no_of h4)
  rw [o.sc]
  unfold isVis at h2
  unfold Vis
  split at h2
  · exact .inl (by assumption)
  · exact .inr (.inl (by assumption))
  · exact .inr (.inr (by assumption))
  · cases h2
theorem OkX.gl (o : OkX k W pg cl g X c) {x : Str} (h : isGlb c.sc x = true) : Gl X x := by
  show X.env.scope.names.lookup x = some .globalImplicit
  rw [o.sc]
  unfold isGlb at h
  split at h
  · assumption
  · cases h
theorem OkX.bl (o : OkX k W pg cl g X c) {x : Str} (h : isBlt g c x = true) : Gl X x ∧ X.mg x = none := by
  unfold isBlt at h
  obtain ⟨h1, h2⟩ := and3 h
  exact ⟨o.gl h1, o.blt x (by simpa using h2)⟩
theorem OkX.bn (o : OkX k W pg cl g X c) {x : Str} {u : Value} (h : isBlt g c x = true) (hb : bootBuiltins x = some u) (hn : x ≠ "__name__") (hd : (x == ("__debug__" : Str)) = false) : Bn X x u :=
  ⟨(o.bl h).1, (o.bl h).2, hb, hn, hd⟩
theorem flatE {d : D} {v : Const} {j : Nat} {p : Pos} (h : cstB d v = true) : ∃ w, flV d = some w ∧ PE X (.Constant v j p) (tC w) := by
  cases d <;> cases v <;> first | cases h | skip
  · exact ⟨_, rfl, pe_non⟩
  · have e := eq_of_beq (show (_ == _) = true from h)
    subst e
    exact ⟨_, rfl, pe_bl⟩
  · have e := eq_of_beq (show (_ == _) = true from h)
    subst e
    exact ⟨_, rfl, pe_int⟩
  · have e := eq_of_beq (show (_ == _) = true from h)
    subst e
    exact ⟨_, rfl, pe_str⟩
/-! ### operators -/
theorem op_ok (hK : X.K = k.K) {p : Pr} {op : Operator} (h : opOf p = some op) (hf : freshP p = false) : OpR X (binaryOp op) (rP2 k p) := by
  cases p with
  | add => cases h; exact pr_add hK
  | sub => cases h; exact pr_sub
  | mul => cases h; exact pr_mul
  | fdiv => cases h; exact pr_fdiv
  | mod => cases h; exact pr_mod
  | pow => cases h; exact pr_pow
  | addL => cases hf
  | mulL => cases hf
  | _ => cases h
theorem cmp_ok (hK : X.K = k.K) (hu : X.A.units + 64 < cLine) {p : Pr} {op : CmpOp} (h : cmpOf p = some op) : OpR X (compareOp op) (rP2 k p) := by
  cases p with
  | eq => cases h; exact pr_eq hK hu
  | ne => cases h; exact pr_ne hK hu
  | lt => cases h; exact pr_lt
  | le => cases h; exact pr_le
  | gt => cases h; exact pr_gt
  | ge => cases h; exact pr_ge
  | isin => cases h; exact pr_in hK hu
  | notin => cases h; exact pr_nin hK hu
  | isb => cases h; exact pr_isb
  | isnb => cases h; exact pr_isnb
  | _ => cases h
/-- the operands' proofs -/
inductive OsP (k : Wk) (W : WX) (pg : Pg) (cl : CallH) (X : Cx) : CO → List Expr → Prop
  | nil : OsP k W pg cl X .nil []
  | cons {o : CP} {r : CO} {e : Expr} {es : List Expr} : PE X e (tP k W pg cl o) → OsP k W pg cl X r es → OsP k W pg cl X (.cons o r) (e :: es)
theorem OsP.pa : ∀ {l : CO} {es : List Expr}, OsP k W pg cl X l es → es.all noStar = true → PA X es (tO k W pg cl l)
  | _, _, .nil, _ => so_nil
  | _, _, .cons h r, hs => by
    rw [List.all_cons, Bool.and_eq_true] at hs
    exact so_cons hs.1 h (OsP.pa r hs.2)
theorem OsP.one {l : CO} {a : Expr} (h : OsP k W pg cl X l [a]) : ∃ o, l = .cons o .nil ∧ PE X a (tP k W pg cl o) := by
  cases h with
  | cons h r => cases r; exact ⟨_, rfl, h⟩
theorem OsP.two {l : CO} {a b : Expr} (h : OsP k W pg cl X l [a, b]) : ∃ o o2, l = .cons o (.cons o2 .nil) ∧ PE X a (tP k W pg cl o) ∧ PE X b (tP k W pg cl o2) := by
  cases h with
  | cons h r =>
    obtain ⟨o2, rfl, h2⟩ := OsP.one r
    exact ⟨_, _, rfl, h, h2⟩
theorem OsP.three {l : CO} {a b d : Expr} (h : OsP k W pg cl X l [a, b, d]) : ∃ o o2 o3, l = .cons o (.cons o2 (.cons o3 .nil)) ∧ PE X a (tP k W pg cl o) ∧ PE X b (tP k W pg cl o2) ∧ PE X d (tP k W pg cl o3) := by
  cases h with
  | cons h r =>
    obtain ⟨o2, o3, rfl, h2, h3⟩ := OsP.two r
    exact ⟨_, _, _, rfl, h, h2, h3⟩
/-- calls of builtins -/
theorem blt_ok (o : OkX k W pg cl g X c) {p : Pr} {l : CO} {x : Str} {e0 : Expr} {es : List Expr} {p1 pos : Pos} (hp : pName p = some x) (hb : isBlt g c x = true) (hs : (e0 :: es).all noStar = true) (ha : PA X (e0 :: es) (tO k W pg cl l)) :
    (freshP p = false → PE X (.Call (.Name x p1) (e0 :: es) [] pos) (tE k W pg cl (.prim p l))) ∧ (freshP p = true → PE X (.Call (.Name x p1) (e0 :: es) [] pos) (tF k W pg cl (.prim p l))) := by
  cases p with
  | len => cases hp; exact ⟨fun _ => se_callB (o.bn hb boot_len (by decide) (by decide)) (pr_len o.K) hs ha, (fun h => by cases h)⟩
  | sumL => cases hp; exact ⟨fun _ => se_callB (o.bn hb boot_sum (by decide) (by decide)) (pr_sum o.K o.calm) hs ha, (fun h => by cases h)⟩
  | min2 => cases hp; exact ⟨fun _ => se_callB (o.bn hb boot_min (by decide) (by decide)) (pr_min2 o.calm) hs ha, (fun h => by cases h)⟩
  | max2 => cases hp; exact ⟨fun _ => se_callB (o.bn hb boot_max (by decide) (by decide)) (pr_max2 o.calm) hs ha, (fun h => by cases h)⟩
  | minL => cases hp; exact ⟨fun _ => se_callB (o.bn hb boot_min (by decide) (by decide)) (pr_minL o.calm) hs ha, (fun h => by cases h)⟩
  | maxL => cases hp; exact ⟨fun _ => se_callB (o.bn hb boot_max (by decide) (by decide)) (pr_maxL o.calm) hs ha, (fun h => by cases h)⟩
  | allL => cases hp; exact ⟨fun _ => se_callB (o.bn hb boot_all (by decide) (by decide)) (pr_all o.calm) hs ha, (fun h => by cases h)⟩
  | anyL => cases hp; exact ⟨fun _ => se_callB (o.bn hb boot_any (by decide) (by decide)) (pr_any o.calm) hs ha, (fun h => by cases h)⟩
  | absI => cases hp; exact ⟨fun _ => se_callB (o.bn hb boot_abs (by decide) (by decide)) pr_abs hs ha, (fun h => by cases h)⟩
  | repr => cases hp; exact ⟨fun _ => se_callB (o.bn hb boot_repr (by decide) (by decide)) (pr_repr o.K o.gd o.un) hs ha, (fun h => by cases h)⟩
  | srt => cases hp; exact ⟨(fun h => by cases h), fun _ => sf_callB (freshP_ok rfl) (o.bn hb boot_sorted (by decide) (by decide)) (pr_srtF o.K) hs ha⟩
  | dvm => cases hp; exact ⟨fun _ => se_callB (o.bn hb boot_divmod (by decide) (by decide)) pr_dvm hs ha, (fun h => by cases h)⟩
  | tupOf => cases hp; exact ⟨fun _ => se_callTy (o.bn hb PyProof.Rows.boot_tuple (by decide) (by decide)) (pr_tupOf o.K) hs ha, (fun h => by cases h)⟩
  | strOf => cases hp; exact ⟨fun _ => se_callTy (o.bn hb PyProof.Rows.boot_str (by decide) (by decide)) pr_str hs ha, (fun h => by cases h)⟩
  | intOf => cases hp; exact ⟨fun _ => se_callTy (o.bn hb PyProof.Rows.boot_int (by decide) (by decide)) pr_int hs ha, (fun h => by cases h)⟩
  | lstOf => cases hp; exact ⟨(fun h => by cases h), fun _ => sf_callTy (freshP_ok rfl) (o.bn hb PyProof.Rows.boot_list (by decide) (by decide)) (pr_lstOfF o.K) hs ha⟩
  | _ => cases hp
theorem strEq {x y : Str} (h : (x == y) = true) : x = y := eq_of_beq h
/-- what a primitive's check gives -/
def PrimS (k : Wk) (W : WX) (pg : Pg) (cl : CallH) (X : Cx) (p : Pr) (l : CO) (e : Expr) : Prop :=
  (freshP p = false → PE X e (tE k W pg cl (.prim p l)) ∧ PT X e (tT k W pg cl (.prim p l))) ∧ (freshP p = true → PE X e (tF k W pg cl (.prim p l)))
theorem primE {p : Pr} {l : CO} {e : Expr} (hf : freshP p = false) (hp : plainT e = true) (h : PE X e (tE k W pg cl (.prim p l))) : PrimS k W pg cl X p l e :=
  ⟨fun _ => ⟨h, st_val hp h⟩, fun z => by rw [hf] at z; cases z⟩
theorem primF {p : Pr} {l : CO} {e : Expr} (hf : freshP p = true) (h : PE X e (tF k W pg cl (.prim p l))) : PrimS k W pg cl X p l e :=
  ⟨(fun z => by rw [hf] at z; cases z), fun _ => h⟩
theorem addL_f {a b : Expr} {o o2 : CP} {pos : Pos} (ha : PE X a (tP k W pg cl o)) (hb : PE X b (tP k W pg cl o2)) : PE X (.BinOp a .Add b pos) (tF k W pg cl (.prim .addL (.cons o (.cons o2 .nil)))) :=
  sf_two (freshP_ok rfl) ((pe_op pr_addL ha hb).imp fun _ _ _ h => h)
theorem mulL_f {a b : Expr} {o o2 : CP} {pos : Pos} (ha : PE X a (tP k W pg cl o)) (hb : PE X b (tP k W pg cl o2)) : PE X (.BinOp a .Mult b pos) (tF k W pg cl (.prim .mulL (.cons o (.cons o2 .nil)))) :=
  sf_two (freshP_ok rfl) ((pe_op pr_mulL ha hb).imp fun _ _ _ h => h)
/-- the general forms -/
theorem gen_ok (o : OkX k W pg cl g X c) {p : Pr} {l : CO} {e : Expr} {es : List Expr} (h : (match e with
    | .BinOp a op b _ => if opOf p = some op then some [a, b] else none
    | .Compare a [op] [b] _ => if cmpOf p = some op && !behindInMarks op b then some [a, b] else none
    | .Call (.Name x _) (e0 :: es) [] _ => if pName p = some x && isBlt g c x && (e0 :: es).all noStar then some (e0 :: es) else none
    | _ => none) = some es) (ho : OsP k W pg cl X l es) : PrimS k W pg cl X p l e := by
  split at h
  · split at h
    · rename_i hop
      cases h
      obtain ⟨o1, o2, rfl, h1, h2⟩ := ho.two
      cases hf : freshP p with
      | false => exact primE hf rfl (se_bin (op_ok o.K hop hf) h1 h2)
      | true =>
        cases p with
        | addL => cases hop; exact primF rfl (addL_f h1 h2)
        | mulL => cases hop; exact primF rfl (mulL_f h1 h2)
        | _ => first | (cases hop; done) | (cases hf; done)
    · cases h
  · split at h
    · rename_i hop
      cases h
      rw [Bool.and_eq_true] at hop
      obtain ⟨o1, o2, rfl, h1, h2⟩ := ho.two
      have hc := of_decide_eq_true hop.1
      have hf : freshP p = false := by cases p <;> first | rfl | cases hc
      exact ⟨fun _ => ⟨se_cmp (cmp_ok o.K o.un hc) (no_of hop.2) h1 h2, st_cmp (cmp_ok o.K o.un hc) (no_of hop.2) h1 h2⟩, fun z => by rw [hf] at z; cases z⟩
    · cases h
  · split at h
    · rename_i hop
      cases h
      rw [Bool.and_eq_true, Bool.and_eq_true] at hop
      obtain ⟨⟨h1, h2⟩, h3⟩ := hop
      have b := fun p1 pos => blt_ok (p1 := p1) (pos := pos) o (of_decide_eq_true h1) h2 h3 (ho.pa h3)
      exact ⟨fun z => ⟨(b _ _).1 z, st_val rfl ((b _ _).1 z)⟩, fun z => (b _ _).2 z⟩
    · cases h
  · cases h
theorem OkX.ty (o : OkX k W pg cl g X c) {t : Ty} {x : Str} {p : Pos} (h : tyOk g c t x = true) : ∃ cv, ((t ∈ [Ty.int, .str, .tup, .bool, .list, .dict] ∧ cv = .ty t.nm) ∨ ∃ n ∈ k.cs, t = .cls n ∧ cv = .ref (k.ca n)) ∧ PE X (.Name x p) (tC cv) := by
  cases t with
  | cls n =>
    obtain ⟨h, h3⟩ := and3 h
    obtain ⟨h1, h2⟩ := and3 h
    obtain ⟨m1, m2⟩ := o.cls x n (of_decide_eq_true h2)
    exact ⟨.ref (k.ca n), .inr ⟨n, m1, rfl, rfl⟩, pe_glob (o.gl h1) m2 rfl (no_of h3)⟩
  | int =>
    obtain ⟨h1, h2⟩ := and3 h
    have e := strEq h2
    subst e
    exact ⟨.ty "int", .inl ⟨by decide, rfl⟩, pe_bltn (o.bl h1).1 (o.bl h1).2 PyProof.Rows.boot_int rfl⟩
  | str =>
    obtain ⟨h1, h2⟩ := and3 h
    have e := strEq h2
    subst e
    exact ⟨.ty "str", .inl ⟨by decide, rfl⟩, pe_bltn (o.bl h1).1 (o.bl h1).2 PyProof.Rows.boot_str rfl⟩
  | tup =>
    obtain ⟨h1, h2⟩ := and3 h
    have e := strEq h2
    subst e
    exact ⟨.ty "tuple", .inl ⟨by decide, rfl⟩, pe_bltn (o.bl h1).1 (o.bl h1).2 PyProof.Rows.boot_tuple rfl⟩
  | bool =>
    obtain ⟨h1, h2⟩ := and3 h
    have e := strEq h2
    subst e
    exact ⟨.ty "bool", .inl ⟨by decide, rfl⟩, pe_bltn (o.bl h1).1 (o.bl h1).2 PyProof.Rows.boot_bool rfl⟩
  | list =>
    obtain ⟨h1, h2⟩ := and3 h
    have e := strEq h2
    subst e
    exact ⟨.ty "list", .inl ⟨by decide, rfl⟩, pe_bltn (o.bl h1).1 (o.bl h1).2 PyProof.Rows.boot_list rfl⟩
  | dict =>
    obtain ⟨h1, h2⟩ := and3 h
    have e := strEq h2
    subst e
    exact ⟨.ty "dict", .inl ⟨by decide, rfl⟩, pe_bltn (o.bl h1).1 (o.bl h1).2 PyProof.Rows.boot_dict rfl⟩
theorem prim_ok (o : OkX k W pg cl g X c) {p : Pr} {l : CO} {e : Expr} {es : List Expr} (hfm : formOk p l = true) (h : view g c p e = some es) (ho : OsP k W pg cl X l es) : PrimS k W pg cl X p l e := by
  unfold view at h
  split at h
  · -- isN
    split at h
    · cases h
      obtain ⟨o1, rfl, h1⟩ := ho.one
      exact ⟨fun _ => ⟨se_isN h1, st_isN h1⟩, fun z => by cases z⟩
    · cases h
  · split at h
    · cases h
      obtain ⟨o1, rfl, h1⟩ := ho.one
      exact ⟨fun _ => ⟨se_isnN h1, st_isnN h1⟩, fun z => by cases z⟩
    · cases h
  · split at h
    · cases h
      obtain ⟨o1, rfl, h1⟩ := ho.one
      exact primE rfl rfl (se_neg h1)
    · cases h
  · -- fld
    split at h
    · split at h
      · rename_i hc
        cases h
        rw [Bool.and_eq_true] at hc
        obtain ⟨o1, rfl, h1⟩ := ho.one
        obtain ⟨C, hf⟩ := o.cfs _ _ _ (of_decide_eq_true hc.2)
        exact primE rfl rfl (se_fld o.K C hf hc.1 h1)
      · cases h
    · cases h
  · -- idx
    split at h
    · split at h
      · rename_i hc
        cases h
        obtain ⟨o1, o2, rfl, h1, h2⟩ := ho.two
        exact primE rfl rfl (se_idx o.K hc h1 h2)
      · cases h
    · cases h
  · split at h
    · cases h
      obtain ⟨o1, o2, rfl, h1, h2⟩ := ho.two
      exact primE rfl rfl (se_slc10 o.K h1 h2)
    · cases h
  · split at h
    · cases h
      obtain ⟨o1, o2, rfl, h1, h2⟩ := ho.two
      exact primE rfl rfl (se_slc01 o.K h1 h2)
    · cases h
  · split at h
    · cases h
      obtain ⟨o1, o2, o3, rfl, h1, h2, h3⟩ := ho.three
      cases o2 with
      | ival c2 => exact primE rfl rfl (se_slc11 o.K h1 h2 h3)
      | _ => cases hfm
    · cases h
  · split at h
    · cases h
      obtain ⟨o1, o2, rfl, h1, h2⟩ := ho.two
      exact primF rfl (sf_slc10 o.K h1 h2)
    · cases h
  · split at h
    · cases h
      obtain ⟨o1, o2, rfl, h1, h2⟩ := ho.two
      exact primF rfl (sf_slc01 o.K h1 h2)
    · cases h
  · -- isinstance
    split at h
    · split at h
      · rename_i hc
        cases h
        obtain ⟨hc, h4⟩ := and3 hc
        obtain ⟨hc, h3⟩ := and3 hc
        obtain ⟨h1, h2⟩ := and3 hc
        have e := strEq h1
        subst e
        obtain ⟨o1, rfl, h5⟩ := ho.one
        obtain ⟨cv, hcv, hpe⟩ := o.ty h4
        exact primE rfl rfl (se_isi o.K o.kit (o.bn h2 boot_isinstance (by decide) (by decide)) h3 rfl hcv h5 hpe)
      · cases h
    · cases h
  · -- tuple(range)
    split at h
    · split at h
      · rename_i hc
        cases h
        obtain ⟨hc, h5⟩ := and3 hc
        obtain ⟨hc, h4⟩ := and3 hc
        obtain ⟨hc, h3⟩ := and3 hc
        obtain ⟨h1, h2⟩ := and3 hc
        have e1 := strEq h1
        have e2 := strEq h2
        subst e1 e2
        obtain ⟨o1, rfl, h6⟩ := ho.one
        exact primE rfl rfl (se_tupRg1 o.calm (o.bl h4).1 (o.bl h4).2 (o.bl h3).1 (o.bl h3).2 h5 h6)
      · cases h
    · split at h
      · rename_i hc
        cases h
        obtain ⟨hc, h6⟩ := and3 hc
        obtain ⟨hc, h5⟩ := and3 hc
        obtain ⟨hc, h4⟩ := and3 hc
        obtain ⟨hc, h3⟩ := and3 hc
        obtain ⟨h1, h2⟩ := and3 hc
        have e1 := strEq h1
        have e2 := strEq h2
        subst e1 e2
        obtain ⟨o1, o2, rfl, h7, h8⟩ := ho.two
        exact primE rfl rfl (se_tupRg2 o.calm (o.bl h4).1 (o.bl h4).2 (o.bl h3).1 (o.bl h3).2 h5 h6 h7 h8)
      · cases h
    · cases h
  · split at h
    · split at h
      · rename_i hc
        cases h
        obtain ⟨hc, h5⟩ := and3 hc
        obtain ⟨hc, h4⟩ := and3 hc
        obtain ⟨hc, h3⟩ := and3 hc
        obtain ⟨h1, h2⟩ := and3 hc
        have e1 := strEq h1
        have e2 := strEq h2
        subst e1 e2
        obtain ⟨o1, rfl, h6⟩ := ho.one
        exact primF rfl (sf_lstRg1 o.calm (o.bl h4).1 (o.bl h4).2 (o.bl h3).1 (o.bl h3).2 h5 h6)
      · cases h
    · cases h
  · -- split
    split at h
    · split at h
      · rename_i hc
        cases h
        obtain ⟨hc, h4⟩ := and3 hc
        obtain ⟨hc, h3⟩ := and3 hc
        obtain ⟨h1, h2⟩ := and3 hc
        have e := strEq h1
        subst e
        obtain ⟨o1, o2, rfl, h5, h6⟩ := ho.two
        cases o1 with
        | sval c1 => exact primF rfl (sf_split h2 h3 h4 h5 h6)
        | _ => cases hfm
      · cases h
    · cases h
  · split at h
    · split at h
      · rename_i hc
        cases h
        obtain ⟨hc, h4⟩ := and3 hc
        obtain ⟨hc, h3⟩ := and3 hc
        obtain ⟨h1, h2⟩ := and3 hc
        have e := strEq h1
        subst e
        obtain ⟨o1, o2, rfl, h5, h6⟩ := ho.two
        cases o1 with
        | sval c1 => exact primE rfl rfl (se_join o.K h2 h3 h4 h5 h6)
        | _ => cases hfm
      · cases h
    · cases h
  · exact gen_ok o h ho
end
end DL

set_option Elab.async false
set_option linter.all false
set_option maxRecDepth 100000
set_option maxHeartbeats 4000000
namespace DL
open PySem L2 PyProof.Rows
section
variable {k : Wk} {pg : Pg} {cl : CallH} {g : GE}
def Snd (k : Wk) (W : WX) (pg : Pg) (cl : CallH) (X : Cx) (fr : Bool) (c0 : CE) (e : Expr) : Prop := if fr = true then PE X e (tF k W pg cl c0) else PE X e (tE k W pg cl c0)
theorem Snd.f {W : WX} {X : Cx} {fr : Bool} {c0 : CE} {e : Expr} (h : PE X e (tF k W pg cl c0)) : Snd k W pg cl X fr c0 e := by
  unfold Snd
  split
  · exact h
  · exact se_of_f h
theorem Snd.e {W : WX} {X : Cx} {fr : Bool} {c0 : CE} {e : Expr} (hf : (!fr) = true) (h : PE X e (tE k W pg cl c0)) : Snd k W pg cl X fr c0 e := by
  unfold Snd
  rw [no_of hf, if_neg (by simp)]
  exact h
theorem Snd.E {W : WX} {X : Cx} {c0 : CE} {e : Expr} (h : Snd k W pg cl X false c0 e) : PE X e (tE k W pg cl c0) := h
theorem Snd.F {W : WX} {X : Cx} {c0 : CE} {e : Expr} (h : Snd k W pg cl X true c0 e) : PE X e (tF k W pg cl c0) := h
def isBoolE : Expr → Bool
  | .BoolOp _ _ _ => true
  | _ => false
def SndT (k : Wk) (W : WX) (pg : Pg) (cl : CallH) (X : Cx) (c0 : CE) (e : Expr) : Prop := PT X e (tT k W pg cl c0) ∧ (isBoolE e = true → PW X e (tT k W pg cl c0))
theorem SndT.v {W : WX} {X : Cx} {c0 : CE} {e : Expr} (hp : plainT e = true) (h : PE X e (tE k W pg cl c0)) : SndT k W pg cl X c0 e := ⟨st_val hp h, fun z => by cases e <;> first | (cases hp; done) | (cases z; done)⟩
theorem SndT.p {W : WX} {X : Cx} {c0 : CE} {e : Expr} (hp : isBoolE e = false) (h : PT X e (tT k W pg cl c0)) : SndT k W pg cl X c0 e := ⟨h, fun z => by rw [hp] at z; cases z⟩
/-- a call of a def -/
theorem call_ok {W : WX} {X : Cx} {c : SC} (o : OkX k W pg cl g X c) {f : Nat} {pm : List PM} {l lk : CA} {x : Str} {p pos : Pos} {es : List Expr} {kws : List Keyword} (h1 : isGlb c.sc x = true) (h2 : g.fns.lookup x = some f) (h3 : (x == ("__debug__" : Str)) = false) (h4 : (f, l.len, kwN kws, pm) ∈ g.shp) (h5 : lk.len = (kwN kws).length) (h6 : es.all noStar = true) (h7 : kws.all (fun kw => kw.arg.isSome) = true)
    (ha : PA X es (tA k W pg cl l)) (hl0 : es = [] → l = .nil) (hk : PK X kws (tA k W pg cl lk)) : (g.frs.contains f = true → PE X (.Call (.Name x p) es kws pos) (tF k W pg cl (.call f pm l lk))) ∧ (g.frs.contains f = false → PE X (.Call (.Name x p) es kws pos) (tE k W pg cl (.call f pm l lk))) := by
  obtain ⟨kk, fa, fd, ps, sg, dvs, m1, m2, m3, m4, m5, m6, m7, m8⟩ := o.fns x f h2
  have sh := m8 _ _ _ h4
  cases es with
  | nil =>
    have e := hl0 rfl
    subst e
    exact ⟨fun z => sf_call0 m3 (m4.trans z) m5 m6 m7 o.gd (o.gl h1) m1 m2 sh h5 o.tk hk h7 h3, fun z => se_call0 m3 (m4.trans z) m5 m6 m7 o.gd (o.gl h1) m1 m2 sh h5 o.tk hk h7 h3⟩
  | cons e es => exact ⟨fun z => sf_call m3 (m4.trans z) m5 m6 m7 o.gd (o.gl h1) m1 m2 sh h5 o.tk ha hk h6 h7 h3, fun z => se_call m3 (m4.trans z) m5 m6 m7 o.gd (o.gl h1) m1 m2 sh h5 o.tk ha hk h6 h7 h3⟩
theorem new_ok {W : WX} {X : Cx} {c : SC} (o : OkX k W pg cl g X c) {cn f : Nat} {pm : List PM} {l lk : CA} {x : Str} {p pos : Pos} {es : List Expr} {kws : List Keyword} (h1 : isGlb c.sc x = true) (h2 : g.ini.lookup x = some (cn, f)) (h3 : (x == ("__debug__" : Str)) = false) (h4 : (f, l.len + 1, kwN kws, .a 0 :: pm) ∈ g.shp) (h5 : lk.len = (kwN kws).length) (h6 : es.all noStar = true) (h7 : kws.all (fun kw => kw.arg.isSome) = true)
    (ha : PA X es (tA k W pg cl l)) (hl0 : es = [] → l = .nil) (hk : PK X kws (tA k W pg cl lk)) : PE X (.Call (.Name x p) es kws pos) (tF k W pg cl (.new cn f pm l lk)) := by
  obtain ⟨fa, m1, m2, m3, m4, ⟨kk, fd, ps, sg, dvs, n1, n2, n3, n4, n5, n6⟩⟩ := o.ini x cn f h2
  exact sf_newC m1 n1 (n2.trans m4) n3 m3 n4 n5 o.gd (o.gl h1) m2 (n6 _ _ _ h4) h5 o.tk ha hl0 hk h6 h7 h3
theorem mc_ok {W : WX} {X : Cx} {c : SC} (o : OkX k W pg cl g X c) {cn f : Nat} {pm : List PM} {oc : CE} {l lk : CA} {m : Str} {apos pos : Pos} {eo : Expr} {es : List Expr} {kws : List Keyword} (h2 : g.mth.lookup (cn, m) = some f) (hb : noCall0 eo = true) (hline : (apos.endLine == pos.line) = true) (hn : es.length + kws.length < 29) (h4 : (f, l.len + 1, kwN kws, pm) ∈ g.shp) (h5 : lk.len = (kwN kws).length) (h6 : es.all noStar = true) (h7 : kws.all (fun kw => kw.arg.isSome) = true)
    (he : PE X eo (tE k W pg cl oc)) (ha : PA X es (tA k W pg cl l)) (hl0 : es = [] → l = .nil) (hk : PK X kws (tA k W pg cl lk)) : (g.frs.contains f = true → PE X (.Call (.Attribute eo m apos) es kws pos) (tF k W pg cl (.mc cn f pm oc l lk))) ∧ (g.frs.contains f = false → PE X (.Call (.Attribute eo m apos) es kws pos) (tE k W pg cl (.mc cn f pm oc l lk))) := by
  obtain ⟨fa, m1, m2, m3, ⟨kk, fd, ps, sg, dvs, n1, n2, n3, n4, n5, n6⟩⟩ := o.mth cn m f h2
  have C : Cls X.K (k.ca cn) := by rw [o.K]; exact m1.cls
  have n5 := n5.mono (Nat.le_succ _)
  exact ⟨fun z => se_mc (vr := fun σ H => vF k σ H) n1 n3 (vr_F (n2.trans z)) C m2 m3 n4 n5 o.gd (n6 _ _ _ h4) h5 o.tk he ha hl0 hk h6 h7 hb hn hline, fun z => se_mc (vr := fun σ H => vD k) n1 n3 (vr_D (n2.trans z)) C m2 m3 n4 n5 o.gd (n6 _ _ _ h4) h5 o.tk he ha hl0 hk h6 h7 hb hn hline⟩
theorem pc_ok {W : WX} {X : Cx} {c : SC} (o : OkX k W pg cl g X c) {cn f : Nat} {oc : CE} {m : Str} {pos : Pos} {eo : Expr} (h2 : g.prp.lookup (cn, m) = some f) (hb : noCall0 eo = true) (h4 : (f, 1, [], [.a 0]) ∈ g.shp) (he : PE X eo (tE k W pg cl oc)) :
    (g.frs.contains f = true → PE X (.Attribute eo m pos) (tF k W pg cl (.pc cn f oc))) ∧ (g.frs.contains f = false → PE X (.Attribute eo m pos) (tE k W pg cl (.pc cn f oc))) := by
  obtain ⟨pa, fa, m1, m3, ⟨kk, fd, ps, sg, dvs, n1, n2, n3, n4, n5, n6⟩⟩ := o.prp cn m f h2
  have C : Cls X.K (k.ca cn) := by rw [o.K]; exact m1.cls
  exact ⟨fun z => se_pc (vr := fun σ H => vF k σ H) n1 n3 (vr_F (n2.trans z)) C m3 n4 n5 o.gd (n6 _ _ _ h4) he hb, fun z => se_pc (vr := fun σ H => vD k) n1 n3 (vr_D (n2.trans z)) C m3 n4 n5 o.gd (n6 _ _ _ h4) he hb⟩
theorem OkX.vis (o : OkX k W pg cl g X c) {i : Nat} {x : Str} (h : chkV c i x = true) : X.N[i]? = some x ∧ Vis X.env.scope x ∧ (x == ("__debug__" : Str)) = false ∧ (x == ("__classdict__" : Str)) = false := by
  unfold chkV at h
  obtain ⟨h, h4⟩ := and3 h
  obtain ⟨h, h3⟩ := and3 h
  obtain ⟨h1, h2⟩ := and3 h
  refine ⟨by rw [o.N]; exact of_decide_eq_true h1, ?_, no_of h3, no_of h4⟩
  rw [o.sc]
  unfold isVis at h2
  unfold Vis
  split at h2
  · exact .inl (by assumption)
  · exact .inr (.inl (by assumption))
  · exact .inr (.inr (by assumption))
  · cases h2
theorem newV_ok {W : WX} {X : Cx} {c : SC} (o : OkX k W pg cl g X c) {i cn f : Nat} {pm : List PM} {l lk : CA} {x : Str} {p pos : Pos} {e0 : Expr} {es : List Expr} {kws : List Keyword} (h1 : chkV c i x = true) (h2 : g.ini.any (fun q => decide (g.ini.lookup q.1 = some (cn, f))) = true) (h4 : (f, l.len + 1, kwN kws, .a 0 :: pm) ∈ g.shp) (h5 : lk.len = (kwN kws).length) (h6 : (e0 :: es).all noStar = true) (h7 : kws.all (fun kw => kw.arg.isSome) = true)
    (ha : PA X (e0 :: es) (tA k W pg cl l)) (hk : PK X kws (tA k W pg cl lk)) : PE X (.Call (.Name x p) (e0 :: es) kws pos) (tF k W pg cl (.newV i cn f pm l lk)) := by
  obtain ⟨q, _, hq⟩ := List.any_eq_true.mp h2
  obtain ⟨fa, m1, m2, m3, m4, ⟨kk, fd, ps, sg, dvs, n1, n2, n3, n4, n5, n6⟩⟩ := o.ini q.1 cn f (of_decide_eq_true hq)
  obtain ⟨v1, v2, v3, v4⟩ := o.vis h1
  exact sf_newV m1 n1 (n2.trans m4) n3 m3 n4 n5 o.gd v1 v2 (n6 _ _ _ h4) h5 o.tk ha hk h6 h7 v3 v4
theorem cm_ok {W : WX} {X : Cx} {c : SC} (o : OkX k W pg cl g X c) {cn f : Nat} {pm : List PM} {l lk : CA} {x m : Str} {xp apos pos : Pos} {es : List Expr} {kws : List Keyword} (h0 : isGlb c.sc x = true) (h1 : g.cls.lookup x = some cn) (h2 : g.cmt.lookup (cn, m) = some f) (h3 : (x == ("__debug__" : Str)) = false) (hb : noCall0 (.Name x xp) = true) (hline : (apos.endLine == pos.line) = true) (hn : es.length + kws.length < 29) (h4 : (f, l.len + 1, kwN kws, pm) ∈ g.shp) (h5 : lk.len = (kwN kws).length) (h6 : es.all noStar = true) (h7 : kws.all (fun kw => kw.arg.isSome) = true)
    (ha : PA X es (tA k W pg cl l)) (hl0 : es = [] → l = .nil) (hk : PK X kws (tA k W pg cl lk)) : (g.frs.contains f = true → PE X (.Call (.Attribute (.Name x xp) m apos) es kws pos) (tF k W pg cl (.cm cn f pm l lk))) ∧ (g.frs.contains f = false → PE X (.Call (.Attribute (.Name x xp) m apos) es kws pos) (tE k W pg cl (.cm cn f pm l lk))) := by
  obtain ⟨mc, pa, fa, m1, m2, ⟨kk, fd, ps, sg, dvs, n1, n2, n3, n4, n5, n6⟩⟩ := o.cmt cn m f h2
  obtain ⟨c1, c2⟩ := o.cls x cn h1
  exact ⟨fun z => se_cm (vr := fun σ H => vF k σ H) c1 n1 n3 (vr_F (n2.trans z)) m1 m2 n4 n5 o.gd (o.gl h0) c2 (n6 _ _ _ h4) h5 o.tk ha hl0 hk h6 h7 h3 hb hn hline, fun z => se_cm (vr := fun σ H => vD k) c1 n1 n3 (vr_D (n2.trans z)) m1 m2 n4 n5 o.gd (o.gl h0) c2 (n6 _ _ _ h4) h5 o.tk ha hl0 hk h6 h7 h3 hb hn hline⟩
theorem st_ok {W : WX} {X : Cx} {c : SC} (o : OkX k W pg cl g X c) {q : StK} {cn f : Nat} {oc : CE} {p1 pos : Pos} {eo : Expr} (h1 : isBlt g c q.fn = true) (h2 : g.mth.lookup (cn, q.me) = some f) (h3 : g.frs.contains f = false) (h4 : (f, 1, [], [.a 0]) ∈ g.shp) (hs : noStar eo = true) (he : PE X eo (tE k W pg cl oc)) : PE X (.Call (.Name q.fn p1) [eo] [] pos) (tE k W pg cl (.st q cn f oc)) := by
  obtain ⟨fa, m1, m2, m3, ⟨kk, fd, ps, sg, dvs, n1, n2, n3, n4, n5, n6⟩⟩ := o.mth cn q.me f h2
  have C : Cls X.K (k.ca cn) := by rw [o.K]; exact m1.cls
  exact se_st n1 (n2.trans h3) n3 C m3 n4 n5 o.gd (n6 _ _ _ h4) (o.bl h1).1 (o.bl h1).2 he hs
/-! ### targets -/
mutual
theorem chkG_ok : ∀ (t : CT) {W : WX} {X : Cx} {c : SC} {e : Expr}, OkX k W pg cl g X c → chkG c t e = true → PG X e (tG k t.sl (putT t))
  | .nm i, W, X, c, e, o, h => by
    unfold chkG at h
    split at h
    · obtain ⟨h, h3⟩ := and3 h
      obtain ⟨h1, h2⟩ := and3 h
      have e1 : CT.sl (.nm i) = [i] := by simp only [CT.sl]
      rw [e1]
      refine sg_nm (pg_name o.nd (by rw [o.N]; exact of_decide_eq_true h1) ?_ ?_)
      · rw [o.sc]
        unfold isLoc at h2
        unfold L2.Loc
        split at h2
        · exact .inl (by assumption)
        · exact .inr (by assumption)
        · cases h2
      · rw [o.sc, o.fn]
        rw [Bool.or_eq_true] at h3
        rcases h3 with z | z
        · exact .inl z
        · exact .inr (of_decide_eq_true z)
    · cases h
  | .tp ts, W, X, c, e, o, h => by
    unfold chkG at h
    split at h
    · obtain ⟨h, h3⟩ := and3 h
      obtain ⟨h1, h2⟩ := and3 h
      exact sg_tp o.K o.calm h1 (of_decide_eq_true h2) (chkGs_ok ts o h3)
    · cases h
theorem chkGs_ok : ∀ (ts : List CT) {W : WX} {X : Cx} {c : SC} {es : List Expr}, OkX k W pg cl g X c → chkGs c ts es = true → PGs X es (tGs k (ctsSl ts) (putTs ts))
  | [], W, X, c, es, o, h => by
    have e1 : ctsSl [] = [] := by simp only [ctsSl]
    rw [e1]
    cases es with
    | nil => exact sgs_nil
    | cons e es => simp only [chkGs] at h; cases h
  | t :: ts, W, X, c, es, o, h => by
    cases es with
    | nil => simp only [chkGs] at h; cases h
    | cons e es =>
      simp only [chkGs] at h
      obtain ⟨h, h3⟩ := and3 h
      obtain ⟨h1, h2⟩ := and3 h
      exact sgs_cons h1 (chkG_ok t o h2) (chkGs_ok ts o h3)
end
theorem ownN_ok {N : List Str} : ∀ {own : List Nat} {l : List (Str × Nat)}, ownN N own = some l → l.map (·.2) = own
  | [], l, h => by cases h; rfl
  | i :: r, l, h => by
    simp only [ownN] at h
    split at h
    · cases h
      rw [List.map_cons, ownN_ok (by assumption)]
    · cases h
theorem subL_ok {a b : List Nat} (h : subL a b = true) : ∀ i ∈ a, i ∈ b := fun i hi => by
  unfold subL at h
  rw [List.all_eq_true] at h
  simpa using h i hi
theorem noSet_ok {e : Expr} (h : noSet e = true) (env : Env) (x : Value) : foldedSetIterable e env x = pure x := by
  cases e <;> first | rfl | cases h
theorem tail_and {W : WX} {X : Cx} {eb : Expr} {rest : List Expr} {pos : Pos} {b : CE} (op : BoolOp) (h : PE X (tailB op eb rest pos) (tE k W pg cl b)) : PE X (.BoolOp op (eb :: rest) pos) (tE k W pg cl b) := by
  cases rest with
  | nil => exact pe_one h
  | cons r rs => exact h
theorem tail_andW {W : WX} {X : Cx} {eb : Expr} {rest : List Expr} {pos : Pos} {b : CE} (h : SndT k W pg cl X b (tailB .And eb rest pos)) : PW X (.BoolOp .And (eb :: rest) pos) (tT k W pg cl b) := by
  cases rest with
  | nil => exact pw_and1 h.1
  | cons r rs => exact h.2 rfl
theorem tail_orW {W : WX} {X : Cx} {eb : Expr} {rest : List Expr} {pos : Pos} {b : CE} (h : SndT k W pg cl X b (tailB .Or eb rest pos)) : PW X (.BoolOp .Or (eb :: rest) pos) (tT k W pg cl b) := by
  cases rest with
  | nil => exact pw_or1 h.1
  | cons r rs => exact h.2 rfl
theorem flat1 {l : CL} (h : l.flat2 = 1) : ∃ c, l = .cons c .nil := by
  cases l with
  | nil => cases h
  | star c r => cases h
  | cons c r =>
    cases r with
    | nil => exact ⟨c, rfl⟩
    | cons c2 r => simp only [CL.flat2] at h; omega
    | star c2 r => simp only [CL.flat2] at h; omega
theorem flat2' {l : CL} (h : l.flat2 = 2) : ∃ c c2, l = .cons c (.cons c2 .nil) := by
  cases l with
  | nil => cases h
  | star c r => cases h
  | cons c r =>
    obtain ⟨c2, rfl⟩ := flat1 (l := r) (by simp only [CL.flat2] at h; omega)
    exact ⟨c, c2, rfl⟩
theorem isTup_ok {e : Expr} (h : isTup e = true) : ∃ es n p, e = .Tuple es n p := by
  cases e <;> first | (cases h; done) | exact ⟨_, _, _, rfl⟩
theorem optB_ok {α : Type} {o : Option α} {f : α → Bool} (h : optB o f = true) : ∃ a, o = some a ∧ f a = true := by
  cases o with
  | none => cases h
  | some a => exact ⟨a, rfl, h⟩
theorem ifsB_ok {b : Bool} {ifs : List Expr} {f : Expr → Bool} (h : ifsB b ifs f = true) : (b = true ∧ ifs = []) ∨ ∃ i1, ifs = [i1] ∧ f i1 = true := by
  unfold ifsB at h
  split at h
  · exact .inl ⟨h, rfl⟩
  · exact .inr ⟨_, rfl, h⟩
  · cases h
theorem isYes_ok {y : CE} (h : isYes y = true) : y = .cst (.bl true) := by
  unfold isYes at h
  split at h
  · rfl
  · cases h
theorem view1_ok {e : Expr} {v : V1} (h : view1 e = some v) : ∃ p, e = .ListComp v.elt [⟨v.tg, v.iter, v.ifs, 0⟩] v.scope p := by
  unfold view1 at h
  split at h
  · split at h
    · rename_i h0
      subst h0
      cases h
      exact ⟨_, rfl⟩
    · cases h
  · cases h
theorem view2_ok {e : Expr} {v : V2} (h : view2 e = some v) : ∃ p, e = .ListComp v.elt [⟨v.tg, v.iter, v.ifs, 0⟩, ⟨v.tg1, v.iter1, v.ifs1, 0⟩] v.scope p := by
  unfold view2 at h
  split at h
  · split at h
    · rename_i h0
      obtain ⟨h0, h1⟩ := h0
      subst h0 h1
      cases h
      exact ⟨_, rfl⟩
    · cases h
  · cases h
theorem rng_ok {W : WX} {X : Cx} {c : SC} {tg : Expr} (o : OkX k W pg cl g X c) {l : CL} {es : List Expr} {p pos : Pos} (hb : isBlt g c "range" = true) (hs : es.all noStar = true) (hf : l.flat2 = 1 ∨ l.flat2 = 2) (hc : es.length = l.flat2) (pa : PA X es (tL k W pg cl l)) : PI X tg (.Call (.Name "range" p) es [] pos) (tI k W pg cl (.rng l)) := by
  rcases hf with hf | hf
  · obtain ⟨c1, rfl⟩ := flat1 hf
    rw [hf] at hc
    match es, hc with
    | [a], _ =>
      rw [List.all_cons, Bool.and_eq_true] at hs
      exact si_rng1 (o.bl hb).1 (o.bl hb).2 hs.1 pa
  · obtain ⟨c1, c2, rfl⟩ := flat2' hf
    rw [hf] at hc
    match es, hc with
    | [a, b], _ =>
      rw [List.all_cons, List.all_cons, Bool.and_eq_true, Bool.and_eq_true] at hs
      exact si_rng2 (o.bl hb).1 (o.bl hb).2 hs.1 hs.2.1 pa
theorem prim_noB {c : SC} {p : Pr} {e : Expr} {es : List Expr} (h : view g c p e = some es) : isBoolE e = false := by
  cases e <;> first | rfl | skip
  exfalso
  unfold view at h
  split at h <;> first | (cases h; done) | (split at h <;> cases h)
theorem chkL_len {c : SC} : ∀ {l : CL} {es : List Expr}, chkL g c l es = true → l.flat2 ≤ 2 → es.length = l.flat2
  | .nil, es, h, _ => by
    cases es with
    | nil => rfl
    | cons e es => simp only [chkL] at h; cases h
  | .cons x r, es, h, hf => by
    cases es with
    | nil => simp only [chkL] at h; cases h
    | cons e es =>
      simp only [chkL] at h
      simp only [CL.flat2] at hf ⊢
      rw [List.length_cons, chkL_len (and3 h).2 (by omega)]
  | .star x r, es, h, hf => by simp only [CL.flat2] at hf; omega
mutual
theorem chk_ok : ∀ (c0 : CE) {W : WX} {X : Cx} {c : SC} {fr : Bool} {e : Expr}, OkX k W pg cl g X c → chk g c fr c0 e = true → Snd k W pg cl X fr c0 e
  | .var i, W, X, c, fr, e, o, h => by
    simp only [chk] at h
    obtain ⟨hf, h⟩ := and3 h
    split at h
    · exact .e hf (se_var (o.var h))
    · cases h
  | .fz i, W, X, c, fr, e, o, h => by
    simp only [chk] at h
    obtain ⟨hf, h⟩ := and3 h
    split at h
    · exact .e hf (se_fz (o.var h))
    · cases h
  | .cst d, W, X, c, fr, e, o, h => by
    simp only [chk] at h
    obtain ⟨hf, h⟩ := and3 h
    split at h
    · obtain ⟨w, h1, h2⟩ := flatE (X := X) h
      exact .e hf (se_cst h1 h2)
    · cases h
  | .glb n, W, X, c, fr, e, o, h => by
    simp only [chk] at h
    obtain ⟨hf, h⟩ := and3 h
    split at h
    · obtain ⟨h, h3⟩ := and3 h
      obtain ⟨h1, h2⟩ := and3 h
      obtain ⟨d, v, u, m1, m2, m3, m4⟩ := o.glb _ _ (of_decide_eq_true h2)
      exact .e hf (se_glb m1 m4 (pe_glob (o.gl h1) m2 m3 (no_of h3)))
    · cases h
  | .tup l, W, X, c, fr, e, o, h => by
    simp only [chk] at h
    obtain ⟨hf, h⟩ := and3 h
    split at h
    · exact .e hf (se_tup (chkL_ok l o h))
    · cases h
  | .lst l, W, X, c, fr, e, o, h => by
    simp only [chk] at h
    split at h
    · exact .f (sf_lst (chkL_ok l o h))
    · cases h
  | .prim p l, W, X, c, fr, e, o, h => by
    simp only [chk] at h
    obtain ⟨h, h3⟩ := and3 h
    obtain ⟨h1, h2⟩ := and3 h
    split at h3
    · have ps := prim_ok o h2 (by assumption) (chkOs_ok l o h3)
      cases hp : freshP p with
      | true => exact .f (ps.2 hp)
      | false =>
        rw [hp] at h1
        exact .e h1 (ps.1 hp).1
    · cases h3
  | .chain p q x y z, W, X, c, fr, e, o, h => by
    simp only [chk] at h
    obtain ⟨hf, h⟩ := and3 h
    split at h
    · obtain ⟨h, h6⟩ := and3 h
      obtain ⟨h, h5⟩ := and3 h
      obtain ⟨h, h4⟩ := and3 h
      obtain ⟨h, h3⟩ := and3 h
      obtain ⟨h1, h2⟩ := and3 h
      exact .e hf (se_chain (cmp_ok o.K o.un (of_decide_eq_true h1)) (cmp_ok o.K o.un (of_decide_eq_true h2)) (no_of h3) (chk_ok x o h4).E (chk_ok y o h5).E (chk_ok z o h6).E)
    · cases h
  | .and x y, W, X, c, fr, e, o, h => by
    simp only [chk] at h
    obtain ⟨hf, h⟩ := and3 h
    split at h
    · obtain ⟨h1, h2⟩ := and3 h
      exact .e hf (se_and (chk_ok x o h1).E (tail_and .And (chk_ok y o h2).E))
    · cases h
  | .or x y, W, X, c, fr, e, o, h => by
    simp only [chk] at h
    obtain ⟨hf, h⟩ := and3 h
    split at h
    · obtain ⟨h1, h2⟩ := and3 h
      exact .e hf (se_or (chk_ok x o h1).E (tail_and .Or (chk_ok y o h2).E))
    · cases h
  | .not x, W, X, c, fr, e, o, h => by
    simp only [chk] at h
    obtain ⟨hf, h⟩ := and3 h
    split at h
    · exact .e hf (se_not (chk_ok x o h).E)
    · cases h
  | .ite t x y, W, X, c, fr, e, o, h => by
    simp only [chk] at h
    obtain ⟨hf, h⟩ := and3 h
    split at h
    · obtain ⟨h, h3⟩ := and3 h
      obtain ⟨h1, h2⟩ := and3 h
      exact .e hf (se_ite (chkT_ok t o h1).1 (chk_ok x o h2).E (chk_ok y o h3).E)
    · cases h
  | .call f pm l lk, W, X, c, fr, e, o, h => by
    simp only [chk] at h
    obtain ⟨hf, h⟩ := and3 h
    split at h
    · obtain ⟨h, h9⟩ := and3 h
      obtain ⟨h, h8⟩ := and3 h
      obtain ⟨h, h7⟩ := and3 h
      obtain ⟨h, h6⟩ := and3 h
      obtain ⟨h, h5⟩ := and3 h
      obtain ⟨h, h4⟩ := and3 h
      obtain ⟨h, h3⟩ := and3 h
      obtain ⟨h1, h2⟩ := and3 h
      obtain ⟨ha, hl0⟩ := chkA_ok l o h8
      have cc := fun p pos => call_ok (p := p) (pos := pos) o h1 (of_decide_eq_true h2) (no_of h3) (by simpa using h4) (of_decide_eq_true h5) h6 h7 ha hl0 (chkK_ok lk o h9)
      cases hp : g.frs.contains f with
      | true => exact .f ((cc _ _).1 hp)
      | false =>
        rw [hp, Bool.or_false] at hf
        exact .e hf ((cc _ _).2 hp)
    · cases h
  | .new cn f pm l lk, W, X, c, fr, e, o, h => by
    simp only [chk] at h
    split at h
    · obtain ⟨h, h9⟩ := and3 h
      obtain ⟨h, h8⟩ := and3 h
      obtain ⟨h, h7⟩ := and3 h
      obtain ⟨h, h6⟩ := and3 h
      obtain ⟨h, h5⟩ := and3 h
      obtain ⟨h, h4⟩ := and3 h
      obtain ⟨h, h3⟩ := and3 h
      obtain ⟨h1, h2⟩ := and3 h
      obtain ⟨ha, hl0⟩ := chkA_ok l o h8
      exact .f (new_ok o h1 (of_decide_eq_true h2) (no_of h3) (by simpa using h4) (of_decide_eq_true h5) h6 h7 ha hl0 (chkK_ok lk o h9))
    · cases h
  | .mc cn f pm oc l lk, W, X, c, fr, e, o, h => by
    simp only [chk] at h
    obtain ⟨hf, h⟩ := and3 h
    split at h
    · obtain ⟨h, h9⟩ := and3 h
      obtain ⟨h, h8⟩ := and3 h
      obtain ⟨h, h10⟩ := and3 h
      obtain ⟨h, h7⟩ := and3 h
      obtain ⟨h, h6⟩ := and3 h
      obtain ⟨h, h5⟩ := and3 h
      obtain ⟨h, h4⟩ := and3 h
      obtain ⟨h, h3⟩ := and3 h
      obtain ⟨h, h2⟩ := and3 h
      obtain ⟨h0, h1⟩ := and3 h
      obtain ⟨ha, hl0⟩ := chkA_ok l o h8
      have cc := mc_ok o (of_decide_eq_true h0) h1 h2 (of_decide_eq_true h3) (by simpa using h4) (of_decide_eq_true h5) h6 h7 (chk_ok oc o h10).E ha hl0 (chkK_ok lk o h9)
      cases hp : g.frs.contains f with
      | true => exact .f (cc.1 hp)
      | false =>
        rw [hp, Bool.or_false] at hf
        exact .e hf (cc.2 hp)
    · cases h
  | .pc cn f oc, W, X, c, fr, e, o, h => by
    simp only [chk] at h
    obtain ⟨hf, h⟩ := and3 h
    split at h
    · obtain ⟨h, h3⟩ := and3 h
      obtain ⟨h, h2⟩ := and3 h
      obtain ⟨h0, h1⟩ := and3 h
      have cc := fun pos => pc_ok (pos := pos) o (of_decide_eq_true h0) h1 (by simpa using h2) (chk_ok oc o h3).E
      cases hp : g.frs.contains f with
      | true => exact .f ((cc _).1 hp)
      | false =>
        rw [hp, Bool.or_false] at hf
        exact .e hf ((cc _).2 hp)
    · cases h
  | .st q cn f oc, W, X, c, fr, e, o, h => by
    simp only [chk] at h
    obtain ⟨hf, h⟩ := and3 h
    obtain ⟨hf, hp⟩ := and3 hf
    split at h
    · obtain ⟨h, h6⟩ := and3 h
      obtain ⟨h, h5⟩ := and3 h
      obtain ⟨h, h4⟩ := and3 h
      obtain ⟨h, h3⟩ := and3 h
      obtain ⟨h1, h2⟩ := and3 h
      have e := eq_of_beq h1
      subst e
      exact .e hf (st_ok o h2 (of_decide_eq_true h4) (no_of hp) (by simpa using h5) h3 (chk_ok oc o h6).E)
    · cases h
  | .cm cn f pm l lk, W, X, c, fr, e, o, h => by
    simp only [chk] at h
    obtain ⟨hf, h⟩ := and3 h
    split at h
    · obtain ⟨h, h12⟩ := and3 h
      obtain ⟨h, h11⟩ := and3 h
      obtain ⟨h, h10⟩ := and3 h
      obtain ⟨h, h9⟩ := and3 h
      obtain ⟨h, h8⟩ := and3 h
      obtain ⟨h, h7⟩ := and3 h
      obtain ⟨h, h6⟩ := and3 h
      obtain ⟨h, h5⟩ := and3 h
      obtain ⟨h, h4⟩ := and3 h
      obtain ⟨h, h3⟩ := and3 h
      obtain ⟨h, h2⟩ := and3 h
      obtain ⟨h0, h1⟩ := and3 h
      obtain ⟨ha, hl0⟩ := chkA_ok l o h11
      have cc := cm_ok o h0 (of_decide_eq_true h1) (of_decide_eq_true h2) (no_of h3) h4 h5 (of_decide_eq_true h6) (by simpa using h7) (of_decide_eq_true h8) h9 h10 ha hl0 (chkK_ok lk o h12)
      cases hp : g.frs.contains f with
      | true => exact .f (cc.1 hp)
      | false =>
        rw [hp, Bool.or_false] at hf
        exact .e hf (cc.2 hp)
    · cases h
  | .newV i cn f pm l lk, W, X, c, fr, e, o, h => by
    simp only [chk] at h
    split at h
    · obtain ⟨h, h8⟩ := and3 h
      obtain ⟨h, h7⟩ := and3 h
      obtain ⟨h, h6⟩ := and3 h
      obtain ⟨h, h5⟩ := and3 h
      obtain ⟨h, h4⟩ := and3 h
      obtain ⟨h, h3⟩ := and3 h
      obtain ⟨h1, h2⟩ := and3 h
      exact .f (newV_ok o h1 h2 (by simpa using h3) (of_decide_eq_true h4) h5 h6 (chkA_ok l o h7).1 (chkK_ok lk o h8))
    · cases h
  | .pop i x, W, X, c, fr, e, o, h => by
    simp only [chk] at h
    obtain ⟨hf, h⟩ := and3 h
    split at h
    · obtain ⟨h, h5⟩ := and3 h
      obtain ⟨h, h4⟩ := and3 h
      obtain ⟨h, h3⟩ := and3 h
      obtain ⟨h1, h2⟩ := and3 h
      have e1 := strEq h1
      subst e1
      exact .e hf (se_pop (o.var h2) h3 h4 (chk_ok x o h5).E)
    · cases h
  | .comp own x (.g t it y), W, X, c, fr, e, o, h => by
    simp only [chk] at h
    obtain ⟨v, hv, hA⟩ := optB_ok h
    obtain ⟨l, hl, hB⟩ := optB_ok hA
    clear h hA
    obtain ⟨p, rfl⟩ := view1_ok hv
    obtain ⟨h, h7⟩ := and3 hB
    obtain ⟨h, h6⟩ := and3 h
    obtain ⟨h, h5⟩ := and3 h
    obtain ⟨h, h4⟩ := and3 h
    obtain ⟨h, h3⟩ := and3 h
    obtain ⟨h1, h2⟩ := and3 h
    have ol := ownN_ok hl
    refine .f ?_
    rw [← ol]
    refine sf_comp o.calm o.nd (chkI_ok it o h3) (blkOk_by (by rw [o.N, o.sc]; exact h1)) (by rw [ol]; exact subL_ok h2) (fun s H C l fp => chkG_ok t (o.blk s H _ l C fp) h5) (fun s H C l fp => ?_) (fun s H C l fp => (chk_ok x (o.blk s H _ l C fp) h6).E) (fun x => noSet_ok h4 _ x)
    rcases ifsB_ok h7 with ⟨z1, z2⟩ | ⟨i1, z1, z2⟩
    · rw [z2, isYes_ok z1]; exact pts_yes
    · rw [z1]; exact pts_one (chkT_ok y (o.blk s H _ l C fp) z2).1
  | .comp2 own own1 x (.g t it y) (.g t1 it1 y1), W, X, c, fr, e, o, h => by
    simp only [chk] at h
    obtain ⟨v, hv, hA⟩ := optB_ok h
    obtain ⟨l, hl, hB⟩ := optB_ok hA
    clear h hA
    obtain ⟨p, rfl⟩ := view2_ok hv
    obtain ⟨h, h13⟩ := and3 hB
    obtain ⟨h, h12⟩ := and3 h
    obtain ⟨h, h11⟩ := and3 h
    obtain ⟨h, h10⟩ := and3 h
    obtain ⟨h, h9⟩ := and3 h
    obtain ⟨h, h8⟩ := and3 h
    obtain ⟨h, h7⟩ := and3 h
    obtain ⟨h, h6⟩ := and3 h
    obtain ⟨h, h5⟩ := and3 h
    obtain ⟨h, h4⟩ := and3 h
    obtain ⟨h, h3⟩ := and3 h
    obtain ⟨h1, h2⟩ := and3 h
    have ol := ownN_ok hl
    refine .f ?_
    rw [← ol]
    refine sf_comp2 o.calm o.nd (chkI_ok it o h5) (blkOk_by (by rw [o.N, o.sc]; exact h1)) (by rw [ol]; exact subL_ok h4) (by rw [ol]; exact subL_ok h2) (subL_ok h3) (fun s H C l fp => chkG_ok t (o.blk s H _ l C fp) h7) (fun s H C l fp => ?_)
      (fun s H C l fp => chkI_ok it1 (o.blk s H _ l C fp) h8) (fun s H C l fp => chkG_ok t1 (o.blk s H _ l C fp) h10) (fun s H C l fp => ?_) (fun s H C l fp => (chk_ok x (o.blk s H _ l C fp) h11).E) (fun x => noSet_ok h6 _ x) (fun env x => noSet_ok h9 env x)
    · rcases ifsB_ok h12 with ⟨z1, z2⟩ | ⟨i1, z1, z2⟩
      · rw [z2, isYes_ok z1]; exact pts_yes
      · rw [z1]; exact pts_one (chkT_ok y (o.blk s H _ l C fp) z2).1
    · rcases ifsB_ok h13 with ⟨z1, z2⟩ | ⟨i1, z1, z2⟩
      · rw [z2, isYes_ok z1]; exact pts_yes
      · rw [z1]; exact pts_one (chkT_ok y1 (o.blk s H _ l C fp) z2).1
theorem chkT_ok : ∀ (c0 : CE) {W : WX} {X : Cx} {c : SC} {e : Expr}, OkX k W pg cl g X c → chkT g c c0 e = true → SndT k W pg cl X c0 e
  | .prim p l, W, X, c, e, o, h => by
    simp only [chkT] at h
    obtain ⟨h, h3⟩ := and3 h
    obtain ⟨h1, h2⟩ := and3 h
    split at h3
    · have ps := prim_ok o h2 (by assumption) (chkOs_ok l o h3)
      have nb := prim_noB (g := g) (c := c) (p := p) (e := e) (by assumption)
      exact .p nb (ps.1 (no_of h1)).2
    · cases h3
  | .chain p q x y z, W, X, c, e, o, h => by
    simp only [chkT] at h
    split at h
    · obtain ⟨h, h6⟩ := and3 h
      obtain ⟨h, h5⟩ := and3 h
      obtain ⟨h, h4⟩ := and3 h
      obtain ⟨h, h3⟩ := and3 h
      obtain ⟨h1, h2⟩ := and3 h
      exact .p rfl (st_chain (cmp_ok o.K o.un (of_decide_eq_true h1)) (cmp_ok o.K o.un (of_decide_eq_true h2)) (no_of h3) (chk_ok x o h4).E (chk_ok y o h5).E (chk_ok z o h6).E)
    · cases h
  | .and x y, W, X, c, e, o, h => by
    simp only [chkT] at h
    split at h
    · obtain ⟨h1, h2⟩ := and3 h
      have w := sw_and (chkT_ok x o h1).1 (tail_andW (chkT_ok y o h2))
      exact ⟨w.pt, fun _ => w⟩
    · cases h
  | .or x y, W, X, c, e, o, h => by
    simp only [chkT] at h
    split at h
    · obtain ⟨h1, h2⟩ := and3 h
      have w := sw_or (chkT_ok x o h1).1 (tail_orW (chkT_ok y o h2))
      exact ⟨w.pt, fun _ => w⟩
    · cases h
  | .not x, W, X, c, e, o, h => by
    simp only [chkT] at h
    split at h
    · exact .p rfl (st_not (chkT_ok x o h).1)
    · cases h
  | .ite t x y, W, X, c, e, o, h => by
    simp only [chkT] at h
    split at h
    · obtain ⟨h, h3⟩ := and3 h
      obtain ⟨h1, h2⟩ := and3 h
      exact .p rfl (st_ite (chkT_ok t o h1).1 (chkT_ok x o h2).1 (chkT_ok y o h3).1)
    · cases h
  | .var i, W, X, c, e, o, h => by
    simp only [chkT] at h
    split at h
    · exact .v rfl (se_var (o.var h))
    · cases h
  | .mc cn f pm oc l lk, W, X, c, e, o, h => by
    simp only [chkT] at h
    obtain ⟨hf, h⟩ := and3 h
    split at h
    · obtain ⟨h, h9⟩ := and3 h
      obtain ⟨h, h8⟩ := and3 h
      obtain ⟨h, h10⟩ := and3 h
      obtain ⟨h, h7⟩ := and3 h
      obtain ⟨h, h6⟩ := and3 h
      obtain ⟨h, h5⟩ := and3 h
      obtain ⟨h, h4⟩ := and3 h
      obtain ⟨h, h3⟩ := and3 h
      obtain ⟨h, h2⟩ := and3 h
      obtain ⟨h0, h1⟩ := and3 h
      obtain ⟨ha, hl0⟩ := chkA_ok l o h8
      have cc := mc_ok o (of_decide_eq_true h0) h1 h2 (of_decide_eq_true h3) (by simpa using h4) (of_decide_eq_true h5) h6 h7 (chk_ok oc o h10).E ha hl0 (chkK_ok lk o h9)
      exact .v rfl (cc.2 (no_of hf))
    · cases h
  | .call f pm l lk, W, X, c, e, o, h => by
    simp only [chkT] at h
    split at h
    · obtain ⟨h, h9⟩ := and3 h
      obtain ⟨h, h8⟩ := and3 h
      obtain ⟨h, h7⟩ := and3 h
      obtain ⟨h, h6⟩ := and3 h
      obtain ⟨h, h5⟩ := and3 h
      obtain ⟨h, h4⟩ := and3 h
      obtain ⟨h, h3⟩ := and3 h
      obtain ⟨h1, h2⟩ := and3 h
      obtain ⟨ha, hl0⟩ := chkA_ok l o h8
      have cc := fun p pos => call_ok (p := p) (pos := pos) o h1 (of_decide_eq_true h2) (no_of h3) (by simpa using h4) (of_decide_eq_true h5) h6 h7 ha hl0 (chkK_ok lk o h9)
      cases hp : g.frs.contains f with
      | true => exact .v rfl (se_of_f ((cc _ _).1 hp))
      | false => exact .v rfl ((cc _ _).2 hp)
    · cases h
  | .cst d, W, X, c, e, o, h => by
    simp only [chkT] at h
    split at h
    · obtain ⟨w, h1, h2⟩ := flatE (X := X) h
      exact .v rfl (se_cst h1 h2)
    · cases h
  | .fz i, W, X, c, e, o, h => by simp only [chkT] at h; cases h
  | .glb i, W, X, c, e, o, h => by simp only [chkT] at h; cases h
  | .tup i, W, X, c, e, o, h => by simp only [chkT] at h; cases h
  | .lst i, W, X, c, e, o, h => by simp only [chkT] at h; cases h
  | .new _ _ _ _ _, W, X, c, e, o, h => by simp only [chkT] at h; cases h
  | .pc _ _ _, W, X, c, e, o, h => by simp only [chkT] at h; cases h
  | .cm _ _ _ _ _, W, X, c, e, o, h => by simp only [chkT] at h; cases h
  | .st _ _ _ _, W, X, c, e, o, h => by simp only [chkT] at h; cases h
  | .newV _ _ _ _ _ _, W, X, c, e, o, h => by simp only [chkT] at h; cases h
  | .pop _ _, W, X, c, e, o, h => by simp only [chkT] at h; cases h
  | .comp _ _ _, W, X, c, e, o, h => by simp only [chkT] at h; cases h
  | .comp2 _ _ _ _ _, W, X, c, e, o, h => by simp only [chkT] at h; cases h
theorem chkL_ok : ∀ (l : CL) {W : WX} {X : Cx} {c : SC} {es : List Expr}, OkX k W pg cl g X c → chkL g c l es = true → PA X es (tL k W pg cl l)
  | .nil, W, X, c, es, o, h => by
    cases es with
    | nil => exact sl_nil
    | cons e es => simp only [chkL] at h; cases h
  | .cons x r, W, X, c, es, o, h => by
    cases es with
    | nil => simp only [chkL] at h; cases h
    | cons e es =>
      simp only [chkL] at h
      obtain ⟨h, h3⟩ := and3 h
      obtain ⟨h1, h2⟩ := and3 h
      exact sl_cons h1 (chk_ok x o h2).E (chkL_ok r o h3)
  | .star x r, W, X, c, es, o, h => by
    simp only [chkL] at h
    split at h
    · obtain ⟨h1, h2⟩ := and3 h
      exact sl_star o.K (chk_ok x o h1).E (chkL_ok r o h2)
    · cases h
theorem chkO_ok : ∀ (l : CP) {W : WX} {X : Cx} {c : SC} {e : Expr}, OkX k W pg cl g X c → chkO g c l e = true → PE X e (tP k W pg cl l)
  | .val x, W, X, c, e, o, h => by simp only [chkO] at h; exact sp_val (chk_ok x o h).E
  | .ival x, W, X, c, e, o, h => by simp only [chkO] at h; exact sp_ival (chk_ok x o h).E
  | .sval x, W, X, c, e, o, h => by simp only [chkO] at h; exact sp_sval (chk_ok x o h).E
  | .pk i, W, X, c, e, o, h => by
    simp only [chkO] at h
    split at h
    · exact sp_pk (o.var h)
    · cases h
theorem chkOs_ok : ∀ (l : CO) {W : WX} {X : Cx} {c : SC} {es : List Expr}, OkX k W pg cl g X c → chkOs g c l es = true → OsP k W pg cl X l es
  | .nil, W, X, c, es, o, h => by
    cases es with
    | nil => exact .nil
    | cons e es => simp only [chkOs] at h; cases h
  | .cons x r, W, X, c, es, o, h => by
    cases es with
    | nil => simp only [chkOs] at h; cases h
    | cons e es =>
      simp only [chkOs] at h
      obtain ⟨h1, h2⟩ := and3 h
      exact .cons (chkO_ok x o h1) (chkOs_ok r o h2)
theorem chkA_ok : ∀ (l : CA) {W : WX} {X : Cx} {c : SC} {es : List Expr}, OkX k W pg cl g X c → chkA g c l es = true → PA X es (tA k W pg cl l) ∧ (es = [] → l = .nil)
  | .nil, W, X, c, es, o, h => by
    cases es with
    | nil => exact ⟨sa_nil, fun _ => rfl⟩
    | cons e es => simp only [chkA] at h; cases h
  | .val x r, W, X, c, es, o, h => by
    cases es with
    | nil => simp only [chkA] at h; cases h
    | cons e es =>
      simp only [chkA] at h
      obtain ⟨h, h3⟩ := and3 h
      obtain ⟨h1, h2⟩ := and3 h
      exact ⟨sa_val h1 (chk_ok x o h2).E (chkA_ok r o h3).1, fun z => nomatch z⟩
  | .tmp x r, W, X, c, es, o, h => by
    cases es with
    | nil => simp only [chkA] at h; cases h
    | cons e es =>
      simp only [chkA] at h
      obtain ⟨h, h3⟩ := and3 h
      obtain ⟨h1, h2⟩ := and3 h
      exact ⟨sa_tmp h1 (chk_ok x o h2).F (chkA_ok r o h3).1, fun z => nomatch z⟩
  | .bor i r, W, X, c, es, o, h => by
    simp only [chkA] at h
    split at h
    · obtain ⟨h1, h2⟩ := and3 h
      exact ⟨sa_bor (o.var h1) (chkA_ok r o h2).1, fun z => nomatch z⟩
    · cases h
theorem chkK_ok : ∀ (l : CA) {W : WX} {X : Cx} {c : SC} {kws : List Keyword}, OkX k W pg cl g X c → chkK g c l kws = true → PK X kws (tA k W pg cl l)
  | .nil, W, X, c, kws, o, h => by
    cases kws with
    | nil => exact sk_nil
    | cons e es => simp only [chkK] at h; cases h
  | .val x r, W, X, c, kws, o, h => by
    cases kws with
    | nil => simp only [chkK] at h; cases h
    | cons kw kws =>
      obtain ⟨nm, e, kp⟩ := kw
      simp only [chkK] at h
      obtain ⟨h1, h2⟩ := and3 h
      exact sk_val (chk_ok x o h1).E (chkK_ok r o h2)
  | .bor _ _, W, X, c, kws, o, h => by simp only [chkK] at h; cases h
  | .tmp _ _, W, X, c, kws, o, h => by simp only [chkK] at h; cases h
theorem chkI_ok : ∀ (it : CI) {W : WX} {X : Cx} {c : SC} {tg e : Expr}, OkX k W pg cl g X c → chkI g c (isTup tg) it e = true → PI X tg e (tI k W pg cl it)
  | .seq x, W, X, c, tg, e, o, h => by
    simp only [chkI] at h
    exact si_seq o.K (chk_ok x o h).E
  | .rng l, W, X, c, tg, e, o, h => by
    simp only [chkI] at h
    split at h
    · obtain ⟨h, h5⟩ := and3 h
      obtain ⟨h, h4⟩ := and3 h
      obtain ⟨h, h3⟩ := and3 h
      obtain ⟨h1, h2⟩ := and3 h
      have e1 := strEq h1
      subst e1
      have hf := of_decide_eq_true h4
      exact rng_ok o h2 h3 hf (chkL_len h5 (by omega)) (chkL_ok l o h5)
    · cases h
  | .enum l, W, X, c, tg, e, o, h => by
    simp only [chkI] at h
    obtain ⟨ht, hA⟩ := and3 h
    clear h
    obtain ⟨es, n, p, rfl⟩ := isTup_ok ht
    split at hA
    · obtain ⟨h, h5⟩ := and3 hA
      obtain ⟨h, h4⟩ := and3 h
      obtain ⟨h, h3⟩ := and3 h
      obtain ⟨h1, h2⟩ := and3 h
      have e1 := strEq h1
      subst e1
      have pa := chkL_ok l o h5
      obtain ⟨c1, rfl⟩ := flat1 (of_decide_eq_true h4)
      exact si_enum o.K (o.bl h2).1 (o.bl h2).2 h3 pa
    · cases hA
  | .zip l, W, X, c, tg, e, o, h => by
    simp only [chkI] at h
    obtain ⟨ht, hA⟩ := and3 h
    clear h
    obtain ⟨es, n, p, rfl⟩ := isTup_ok ht
    split at hA
    · obtain ⟨h, h6⟩ := and3 hA
      obtain ⟨h, h5⟩ := and3 h
      obtain ⟨h, h4⟩ := and3 h
      obtain ⟨h, h3⟩ := and3 h
      obtain ⟨h1, h2⟩ := and3 h
      have e1 := strEq h1
      subst e1
      have pa := chkL_ok l o h6
      obtain ⟨c1, c2, rfl⟩ := flat2' (of_decide_eq_true h5)
      exact si_zip o.K (o.bl h2).1 (o.bl h2).2 h3 h4 pa
    · cases hA
end
end
end DL

set_option Elab.async false
set_option linter.all false
set_option maxRecDepth 100000
set_option maxHeartbeats 4000000
namespace DL
open PySem L2 PyProof.Rows
def sB : Expr → Bool
  | .Starred .. => true
  | _ => false
theorem starB {a : Expr} (h : noStar a = true) : sB a = false := by
  cases a <;> first | rfl | cases h
theorem sw2 {x y : Str} {a b : Expr} {px py pt pt2 : Pos} {kt k2 : Nat} {env : Env} (hk : env.blockKind = .function) (hx : env.kindOf x = some .local) (hy : env.kindOf y = some .local) (hl : py.line = px.line) (hxy : x ≠ y) (ha : noStar a = true) (hb : noStar b = true)
    (hf : (foldedForSure 8 a && foldedForSure 8 b) = false) (hc : (constantsAlone 8 a && constantsAlone 8 b) = false) : swappedStores [.Tuple [.Name x px, .Name y py] kt pt] (.Tuple [a, b] k2 pt2) env = pure (some [x, y]) := by
  have e1 : (env.blockKind != ScopeKind.function) = false := by rw [hk]; rfl
  have e2 : (env.kindOf x == some NameKind.local) = true := by rw [hx]; rfl
  have e3 : (env.kindOf y == some NameKind.local) = true := by rw [hy]; rfl
  have e4 : (py.line == px.line) = true := by rw [hl]; exact beq_self_eq_true _
  have e5 : (y == x) = false := by simpa using fun z : y = x => hxy z.symm
  unfold swappedStores
  simp only [List.length_cons, List.length_nil, e1, List.any_cons, List.any_nil, List.head?_cons, Option.map_some, Option.getD_some, Expr.pos, List.filterMap_cons, List.filterMap_nil, e2, e3, e4, beq_self_eq_true, Bool.and_true, Bool.true_and, if_true, List.all_cons, List.all_nil, hf, hc]
  have e6 : [x, y].eraseDups.length = 2 := by
    have e : [x, y].eraseDups = [x, y] := by simp [List.eraseDups_cons, e5]
    rw [e]
    rfl
  rw [if_neg (by decide)]
  refine (if_neg fun h => ?_).trans ?_
  · have h' : (sB a || (sB b || false)) = true := h
    rw [starB ha, starB hb] at h'
    cases h'
  · rw [e6]
    rfl
theorem sw3 {x y z : Str} {a b c : Expr} {px py pz pt pt2 : Pos} {kt k2 : Nat} {env : Env} (hk : env.blockKind = .function) (hx : env.kindOf x = some .local) (hy : env.kindOf y = some .local) (hz : env.kindOf z = some .local) (hl : py.line = px.line) (hl2 : pz.line = px.line) (hxy : x ≠ y) (hxz : x ≠ z) (hyz : y ≠ z) (ha : noStar a = true) (hb : noStar b = true) (hc' : noStar c = true)
    (hf : (foldedForSure 8 a && (foldedForSure 8 b && foldedForSure 8 c)) = false) (hc : (constantsAlone 8 a && (constantsAlone 8 b && constantsAlone 8 c)) = false) : swappedStores [.Tuple [.Name x px, .Name y py, .Name z pz] kt pt] (.Tuple [a, b, c] k2 pt2) env = pure (some [x, y, z]) := by
  have e1 : (env.blockKind != ScopeKind.function) = false := by rw [hk]; rfl
  have e2 : (env.kindOf x == some NameKind.local) = true := by rw [hx]; rfl
  have e3 : (env.kindOf y == some NameKind.local) = true := by rw [hy]; rfl
  have e3' : (env.kindOf z == some NameKind.local) = true := by rw [hz]; rfl
  have e4 : (py.line == px.line) = true := by rw [hl]; exact beq_self_eq_true _
  have e4' : (pz.line == px.line) = true := by rw [hl2]; exact beq_self_eq_true _
  have e5 : (y == x) = false := by simpa using fun z : y = x => hxy z.symm
  have e5' : (z == x) = false := by simpa using fun w : z = x => hxz w.symm
  have e5'' : (z == y) = false := by simpa using fun w : z = y => hyz w.symm
  unfold swappedStores
  simp only [List.length_cons, List.length_nil, e1, List.any_cons, List.any_nil, List.head?_cons, Option.map_some, Option.getD_some, Expr.pos, List.filterMap_cons, List.filterMap_nil, e2, e3, e3', e4, e4', beq_self_eq_true, Bool.and_true, Bool.true_and, if_true, List.all_cons, List.all_nil, hf, hc]
  have e6 : [x, y, z].eraseDups.length = 3 := by
    have e : [x, y, z].eraseDups = [x, y, z] := by simp [List.eraseDups_cons, e5, e5', e5'']
    rw [e]
    rfl
  rw [if_neg (by decide)]
  refine (if_neg fun h => ?_).trans ?_
  · have h' : (sB a || (sB b || (sB c || false))) = true := h
    rw [starB ha, starB hb, starB hc'] at h'
    cases h'
  · rw [e6]
    rfl
theorem sw2no {x y : Str} {a b : Expr} {px py pt pt2 : Pos} {kt k2 : Nat} {env : Env} (hk : env.blockKind = .function) (hxy : ((env.kindOf x == some NameKind.local) && (env.kindOf y == some NameKind.local)) = false) (ha : noStar a = true) (hb : noStar b = true) : swappedStores [.Tuple [.Name x px, .Name y py] kt pt] (.Tuple [a, b] k2 pt2) env = pure none := by
  have e1 : (env.blockKind != ScopeKind.function) = false := by rw [hk]; rfl
  unfold swappedStores
  simp only [List.length_cons, List.length_nil, e1, List.any_cons, List.any_nil, List.head?_cons, Option.map_some, Option.getD_some, Expr.pos, List.filterMap_cons, List.filterMap_nil, beq_self_eq_true, Bool.and_true, List.all_cons, List.all_nil]
  rw [if_neg (by decide)]
  refine (if_neg fun h => ?_).trans ?_
  · have h' : (sB a || (sB b || false)) = true := h
    rw [starB ha, starB hb] at h'
    cases h'
  · cases e2 : (env.kindOf x == some NameKind.local) with
    | false =>
      by_cases e3 : (env.kindOf y == some NameKind.local && py.line == px.line) = true
      · simp only [e3]
        rfl
      · simp only [e3]
        rfl
    | true =>
      rw [e2] at hxy
      have e3 : (env.kindOf y == some NameKind.local) = false := by simpa using hxy
      simp [e3]
theorem ifT {α : Type} {c : Prop} [Decidable c] {p q : α} : (if c then p else if True then p else q) = p := by
  by_cases h : c <;> simp [h]
theorem sw2f {x y : Str} {a b : Expr} {px py pt pt2 : Pos} {kt k2 : Nat} {env : Env} (hk : env.blockKind = .function) (hf : (foldedForSure 8 a && foldedForSure 8 b) = true) (ha : noStar a = true) (hb : noStar b = true) : swappedStores [.Tuple [.Name x px, .Name y py] kt pt] (.Tuple [a, b] k2 pt2) env = pure none := by
  have e1 : (env.blockKind != ScopeKind.function) = false := by rw [hk]; rfl
  unfold swappedStores
  simp only [List.length_cons, List.length_nil, e1, List.any_cons, List.any_nil, List.head?_cons, Option.map_some, Option.getD_some, Expr.pos, List.filterMap_cons, List.filterMap_nil, beq_self_eq_true, Bool.and_true, List.all_cons, List.all_nil, hf]
  rw [if_neg (by decide)]
  refine (if_neg fun h => ?_).trans ?_
  · have h' : (sB a || (sB b || false)) = true := h
    rw [starB ha, starB hb] at h'
    cases h'
  · split
    · exact ifT
    · exact ifT
def isFun (sc : Scope) : Bool := match sc.kind with
  | .function => true
  | _ => false
def swC (sc : Scope) (t : Str) (tp : Pos) : Expr → Bool
  | .ListComp _ _ s p => (sc.names.lookup t == some .local) && tp.line == p.line && !(s.names.any fun (n, k) => n == t && (k == .local || k == .cell))
  | _ => false
def okC : Expr → Bool
  | .SetComp _ _ _ _ => false
  | .DictComp _ _ _ _ _ => false
  | _ => true
theorem isFun_ok {sc : Scope} (h : isFun sc = true) : sc.kind = .function := by
  unfold isFun at h
  split at h
  · assumption
  · cases h
theorem bk_ok {env : Env} (h : isFun env.scope = true) : env.blockKind = .function := by
  unfold Env.blockKind
  rw [isFun_ok h]
  rfl
theorem swC_ok {env : Env} {t : Str} {tp : Pos} {e : Expr} {n : Nat} (hf : isFun env.scope = true) (h : okC e = true) : swapsWith e (some (.Name t tp)) n env = pure (swC env.scope t tp e) := by
  cases e <;> first | rfl | (cases h; done) | skip
  show (pure (env.blockKind == .function && env.kindOf t == some .local && _ && _) : Sem Bool) = pure (swC env.scope t tp _)
  rw [bk_ok hf]
  rfl
def isCmp : CE → Bool
  | .comp _ _ _ => true
  | .comp2 _ _ _ _ _ => true
  | _ => false
def chkAs (g : GE) (c : SC) (fr : Bool) (i : Nat) (x : CE) (y : Str) (yp : Pos) (e : Expr) : Bool :=
  decide (c.N[i]? = some y) && isLoc c.sc y && (c.fnB y || decide (c.sc.names.lookup y = some .local)) && isFun c.sc && okC e && (!swC c.sc y yp e || (isCmp x && decide (c.sc.names.lookup y = some .local))) && chk g c fr x e
section
variable {k : Wk} {pg : Pg} {cl : CallH} {g : GE} {W : WX} {X : Cx} {c : SC}
theorem OkX.loc (o : OkX k W pg cl g X c) {x : Str} (h : isLoc c.sc x = true) : L2.Loc X.env.scope x := by
  rw [o.sc]
  unfold isLoc at h
  unfold L2.Loc
  split at h
  · exact .inl (by assumption)
  · exact .inr (by assumption)
  · cases h
theorem OkX.fnl (o : OkX k W pg cl g X c) {x : Str} (h : (c.fnB x || decide (c.sc.names.lookup x = some .local)) = true) : X.fn x = true ∨ X.env.scope.names.lookup x = some .local := by
  rw [o.sc, o.fn]
  rw [Bool.or_eq_true] at h
  rcases h with z | z
  · exact .inl z
  · exact .inr (of_decide_eq_true z)
/-- name = [..], swapped -/
theorem setC_ok (o : OkX k W pg cl g X c) {i : Nat} {x : CE} {y : Str} {yp pos : Pos} {e : Expr} (hi : X.N[i]? = some y) (hl : X.env.scope.names.lookup y = some .local) (hsw : swapsWith e (some (.Name y yp)) pos.line X.env = pure true) (hc : isCmp x = true) (h : chk g c true x e = true) : PS X (.Assign [.Name y yp] e pos) (tAsg (tF k W pg cl x) (gName i)) := by
  cases x with
  | comp own x gg =>
    cases gg with
    | g t it y1 =>
      simp only [chk] at h
      obtain ⟨v, hv, hA⟩ := optB_ok h
      obtain ⟨l, hl', hB⟩ := optB_ok hA
      clear h hA
      obtain ⟨p, rfl⟩ := view1_ok hv
      obtain ⟨h, h7⟩ := and3 hB
      obtain ⟨h, h6⟩ := and3 h
      obtain ⟨h, h5⟩ := and3 h
      obtain ⟨h, h4⟩ := and3 h
      obtain ⟨h, h3⟩ := and3 h
      obtain ⟨h1, h2⟩ := and3 h
      have ol := ownN_ok hl'
      rw [← ol] at h2 ⊢
      refine (ps_setLc (own := l) o.calm o.nd hi hl hsw (chkI_ok it o h3) (blkOk_by (by rw [o.N, o.sc]; exact h1)) (fun s H C l fp => chkG_ok t (o.blk s H _ l C fp) h5) (tt := tT k WN pg cl y1) (fun s H C l fp => ?_) (fun s H C l fp => (chk_ok x (o.blk s H _ l C fp) h6).E) (fun x => noSet_ok h4 _ x)).imp fun E σ H h => lc_imp (subL_ok h2) h
      rcases ifsB_ok h7 with ⟨z1, z2⟩ | ⟨i1, z1, z2⟩
      · rw [z2, isYes_ok z1]; exact pts_yes
      · rw [z1]; exact pts_one (chkT_ok y1 (o.blk s H _ l C fp) z2).1
  | comp2 own own1 x gg gg1 =>
    cases gg with
    | g t it y0 =>
      cases gg1 with
      | g t1 it1 y1 =>
        simp only [chk] at h
        obtain ⟨v, hv, hA⟩ := optB_ok h
        obtain ⟨l, hl', hB⟩ := optB_ok hA
        clear h hA
        obtain ⟨p, rfl⟩ := view2_ok hv
        obtain ⟨h, h13⟩ := and3 hB
        obtain ⟨h, h12⟩ := and3 h
        obtain ⟨h, h11⟩ := and3 h
        obtain ⟨h, h10⟩ := and3 h
        obtain ⟨h, h9⟩ := and3 h
        obtain ⟨h, h8⟩ := and3 h
        obtain ⟨h, h7⟩ := and3 h
        obtain ⟨h, h6⟩ := and3 h
        obtain ⟨h, h5⟩ := and3 h
        obtain ⟨h, h4⟩ := and3 h
        obtain ⟨h, h3⟩ := and3 h
        obtain ⟨h1, h2⟩ := and3 h
        have ol := ownN_ok hl'
        rw [← ol] at h2 h4 ⊢
        refine (ps_setLc2 (own := l) (vs1 := own1) o.calm o.nd hi hl hsw (chkI_ok it o h5) (blkOk_by (by rw [o.N, o.sc]; exact h1)) (subL_ok h4) (fun s H C l fp => chkG_ok t (o.blk s H _ l C fp) h7) (tt := tT k WN pg cl y0) (fun s H C l fp => ?_)
          (fun s H C l fp => chkI_ok it1 (o.blk s H _ l C fp) h8) (fun s H C l fp => chkG_ok t1 (o.blk s H _ l C fp) h10) (tt1 := tT k WN pg cl y1) (fun s H C l fp => ?_) (fun s H C l fp => (chk_ok x (o.blk s H _ l C fp) h11).E) (fun x => noSet_ok h6 _ x) (fun env x => noSet_ok h9 env x)).imp fun E σ H h => lc2_imp (subL_ok h4) (subL_ok h2) (subL_ok h3) h
        · rcases ifsB_ok h12 with ⟨z1, z2⟩ | ⟨i1, z1, z2⟩
          · rw [z2, isYes_ok z1]; exact pts_yes
          · rw [z1]; exact pts_one (chkT_ok y0 (o.blk s H _ l C fp) z2).1
        · rcases ifsB_ok h13 with ⟨z1, z2⟩ | ⟨i1, z1, z2⟩
          · rw [z2, isYes_ok z1]; exact pts_yes
          · rw [z1]; exact pts_one (chkT_ok y1 (o.blk s H _ l C fp) z2).1
  | _ => cases hc
theorem chk_cmp {fr : Bool} {x : CE} {e : Expr} (hc : isCmp x = true) (h : chk g c fr x e = true) : chk g c true x e = true := by
  cases x with
  | comp own x gg => cases gg; simp only [chk] at h ⊢; exact h
  | comp2 own own1 x gg gg1 => cases gg; cases gg1; simp only [chk] at h ⊢; exact h
  | _ => cases hc
theorem chkAs_ok (o : OkX k W pg cl g X c) {fr : Bool} {i : Nat} {x : CE} {y : Str} {yp pos : Pos} {e : Expr} (h : chkAs g c fr i x y yp e = true) : if fr = true then PS X (.Assign [.Name y yp] e pos) (tAsg (tF k W pg cl x) (gName i)) else PS X (.Assign [.Name y yp] e pos) (tAsg (tE k W pg cl x) (gName i)) := by
  unfold chkAs at h
  obtain ⟨h, h7⟩ := and3 h
  obtain ⟨h, h6⟩ := and3 h
  obtain ⟨h, h5⟩ := and3 h
  obtain ⟨h, h4⟩ := and3 h
  obtain ⟨h, h3⟩ := and3 h
  obtain ⟨h1, h2⟩ := and3 h
  have hi : X.N[i]? = some y := by rw [o.N]; exact of_decide_eq_true h1
  have hsw := swC_ok (env := X.env) (t := y) (tp := yp) (e := e) (n := pos.line) (by rw [o.sc]; exact h4) h5
  rw [o.sc] at hsw
  cases hs : swC c.sc y yp e with
  | false =>
    rw [hs] at hsw
    have z := chk_ok x o h7
    unfold Snd at z
    split at z
    · rename_i hf
      rw [if_pos hf]
      exact ps_set o.nd hi (o.loc h2) z hsw (o.fnl h3)
    · rename_i hf
      rw [if_neg hf]
      exact ps_set o.nd hi (o.loc h2) z hsw (o.fnl h3)
  | true =>
    rw [hs] at hsw h6
    obtain ⟨c1, c2⟩ := and3 (show (isCmp x && decide (c.sc.names.lookup y = some .local)) = true from h6)
    have z := setC_ok (pos := pos) o hi (by rw [o.sc]; exact of_decide_eq_true c2) hsw c1 (chk_cmp c1 h7)
    split
    · exact z
    · exact z.imp fun E σ H h => tE_tF h
end
end DL

set_option Elab.async false
set_option linter.all false
set_option maxRecDepth 100000
set_option maxHeartbeats 4000000
namespace DL
open PySem L2 PyProof.Rows
def chkN (c : SC) (j : Nat) (z : Str) : Bool := decide (c.N[j]? = some z) && isLoc c.sc z && (c.fnB z || decide (c.sc.names.lookup z = some .local))
def locB (c : SC) (z : Str) : Bool := decide (c.sc.names.lookup z = some .local)
/-- a, b = x, y -/
def chkPar (g : GE) (c : SC) (i j : Nat) (f f2 : Bool) (x1 x2 : CE) : Expr → Expr → Bool
  | .Tuple [.Name x px, .Name y py] _ _, .Tuple [a, b] _ _ => decide (c.N[i]? = some x) && decide (c.N[j]? = some y) && decide (i ≠ j) && locB c x && locB c y && isFun c.sc && (py.line == px.line) && decide (x ≠ y) && noStar a && noStar b && !(foldedForSure 8 a && foldedForSure 8 b) && !(constantsAlone 8 a && constantsAlone 8 b) && chk g c f x1 a && chk g c f2 x2 b
  | _, _ => false
def chkParT (g : GE) (c : SC) (i j : Nat) (f f2 : Bool) (x1 x2 : CE) : Expr → Expr → Bool
  | .Tuple [.Name x _, .Name y _] _ _, .Tuple [a, b] _ _ => chkN c i x && chkN c j y && (!((c.sc.names.lookup x == some .local) && (c.sc.names.lookup y == some .local)) || (foldedForSure 8 a && foldedForSure 8 b)) && isFun c.sc && noStar a && noStar b && chk g c f x1 a && chk g c f2 x2 b
  | _, _ => false
/-- a, b, c = x, y, z -/
def chkPar3 (g : GE) (c : SC) (i j m : Nat) (f f2 f3 : Bool) (x1 x2 x3 : CE) : Expr → Expr → Bool
  | .Tuple [.Name x px, .Name y py, .Name z pz] _ _, .Tuple [a, b, d] _ _ => (decide (c.N[i]? = some x) && (decide (c.N[j]? = some y) && decide (c.N[m]? = some z))) && (decide (i ≠ j) && (decide (i ≠ m) && decide (j ≠ m))) && (locB c x && (locB c y && locB c z)) && isFun c.sc && ((py.line == px.line) && (pz.line == px.line)) && (decide (x ≠ y) && (decide (x ≠ z) && decide (y ≠ z))) && (noStar a && (noStar b && noStar d)) && !(foldedForSure 8 a && (foldedForSure 8 b && foldedForSure 8 d)) && !(constantsAlone 8 a && (constantsAlone 8 b && constantsAlone 8 d)) && chk g c f x1 a && chk g c f2 x2 b && chk g c f3 x3 d
  | _, _ => false
mutual
def chkS (g : GE) (c : SC) (fr : Bool) : CS → Stmt → Bool
  | .asg i x, s => match s with
    | .Assign [.Name y yp] e _ => chkAs g c false i x y yp e
    | _ => false
  | .asgO i x, s => match s with
    | .Assign [.Name y yp] e _ => chkAs g c true i x y yp e
    | _ => false
  | .asgT t x, s => match s with
    | .Assign [.Tuple es n p] e _ => noTup e && chkG c t (.Tuple es n p) && chk g c false x e
    | _ => false
  | .par l x, s => match s with
    | .Assign [tg] e _ => (match l, x with
      | [(i, f), (j, f2)], .cons x1 (.cons x2 .nil) => chkPar g c i j f f2 x1 x2 tg e || chkParT g c i j f f2 x1 x2 tg e
      | [(i, f), (j, f2), (m, f3)], .cons x1 (.cons x2 (.cons x3 .nil)) => chkPar3 g c i j m f f2 f3 x1 x2 x3 tg e
      | _, _ => false)
    | _ => false
  | .setI i x v, s => match s with
    | .Assign [.Subscript (.Name y _) ix _] e _ => chkV c i y && notSlice ix && chk g c false x ix && chk g c false v e
    | _ => false
  | .setN i x j v, s => match s with
    | .Assign [.Tuple [.Subscript (.Name y _) ix _, .Name z _] _ _] e _ => chkV c i y && notSlice ix && chkN c j z && noTup e && chk g c false x ix && chk g c false v e
    | _ => false
  | .app i x, s => match s with
    | .Expr (.Call (.Attribute (.Name y _) m ap) [a] [] cp) _ => m == ("append" : Str) && chkV c i y && noStar a && (ap.endLine == cp.line) && chk g c false x a
    | _ => false
  | .ext i x, s => match s with
    | .Expr (.Call (.Attribute (.Name y _) m ap) [a] [] cp) _ => m == ("extend" : Str) && chkV c i y && noStar a && (ap.endLine == cp.line) && chk g c false x a
    | _ => false
  | .setF i n j x, s => match s with
    | .Assign [.Attribute (.Name y _) f _] e _ => chkV c i y && decide (((g.cfs.lookup n).getD [])[j]? = some f) && chk g c false x e
    | _ => false
  | .exp x, s => match s with
    | .Expr e _ => noComp e && chk g c false x e
    | _ => false
  | .ret x, s => !fr && (match s with
    | .Return (some e) _ => chk g c false x e
    | _ => false)
  | .retF x, s => fr && (match s with
    | .Return (some e) _ => chk g c true x e
    | _ => false)
  | .retM i, s => fr && (match s with
    | .Return (some (.Name y _)) _ => chkV c i y
    | _ => false)
  | .retN, s => !fr && (match s with
    | .Return none _ => true
    | _ => false)
  | .ite x a b, s => match s with
    | .If e sa sb _ => chkT g c x e && chkB g c fr a sa && chkB g c fr b sb
    | _ => false
  | .for_ t it b, s => match s with
    | .For tg iter body [] _ => noSet iter && chkG c t tg && chkI g c (isTup tg) it iter && chkB g c fr b body
    | _ => false
  | .whl x b, s => match s with
    | .While e body [] _ => chkT g c x e && chkB g c fr b body
    | _ => false
  | .pass, s => match s with
    | .Pass _ => true
    | _ => false
  | .never, _ => true
  | .tryT b, s => (match s with
    | .Try body (_ :: _) [] [] _ => chkB g c fr b body
    | _ => false)
def chkB (g : GE) (c : SC) (fr : Bool) : CB → List Stmt → Bool
  | .nil, ss => ss.isEmpty
  | .cons a b, ss => match ss with
    | s :: ss => chkS g c fr a s && chkB g c fr b ss
    | [] => false
end
section
variable {k : Wk} {pg : Pg} {cl : CallH} {g : GE} {W : WX} {X : Cx} {c : SC} {wl : Nat}
theorem chkPar_ok (o : OkX k W pg cl g X c) {fr : Bool} {i j : Nat} {f f2 : Bool} {x1 x2 : CE} {tg e : Expr} {pos : Pos} (h : chkPar g c i j f f2 x1 x2 tg e = true) : PS X (.Assign [tg] e pos) (tS k W pg cl wl fr (.par [(i, f), (j, f2)] (.cons x1 (.cons x2 .nil)))) := by
  unfold chkPar at h
  split at h
  · rename_i x px y py kt pt a b k2 pt2
    obtain ⟨h, h14⟩ := and3 h
    obtain ⟨h, h13⟩ := and3 h
    obtain ⟨h, h12⟩ := and3 h
    obtain ⟨h, h11⟩ := and3 h
    obtain ⟨h, h10⟩ := and3 h
    obtain ⟨h, h9⟩ := and3 h
    obtain ⟨h, h8⟩ := and3 h
    obtain ⟨h, h7⟩ := and3 h
    obtain ⟨h, h6⟩ := and3 h
    obtain ⟨h, h5⟩ := and3 h
    obtain ⟨h, h4⟩ := and3 h
    obtain ⟨h, h3⟩ := and3 h
    obtain ⟨h1, h2⟩ := and3 h
    have hx : X.env.scope.names.lookup x = some .local := by rw [o.sc]; exact of_decide_eq_true h4
    have hy : X.env.scope.names.lookup y = some .local := by rw [o.sc]; exact of_decide_eq_true h5
    have ha := chk_ok x1 o h13
    have hb := chk_ok x2 o h14
    have pb : PA X [b] (tV k W pg cl [f2] (.cons x2 .nil)) := by
      unfold Snd at hb
      cases f2 with
      | true => exact sv_consF h10 hb sv_nil
      | false => exact sv_cons h10 hb sv_nil
    have pab : PA X [a, b] (tV k W pg cl [f, f2] (.cons x1 (.cons x2 .nil))) := by
      unfold Snd at ha
      cases f with
      | true => exact sv_consF h9 ha pb
      | false => exact sv_cons h9 ha pb
    exact ss_par2 o.calm o.nd (by rw [o.N]; exact of_decide_eq_true h1) (by rw [o.N]; exact of_decide_eq_true h2) (of_decide_eq_true h3) hx hy pab (sw2 (bk_ok (by rw [o.sc]; exact h6)) hx hy (eq_of_beq h7) (of_decide_eq_true h8) h9 h10 (no_of h11) (no_of h12))
  · cases h
theorem chkPar3_ok (o : OkX k W pg cl g X c) {fr : Bool} {i j m : Nat} {f f2 f3 : Bool} {x1 x2 x3 : CE} {tg e : Expr} {pos : Pos} (h : chkPar3 g c i j m f f2 f3 x1 x2 x3 tg e = true) : PS X (.Assign [tg] e pos) (tS k W pg cl wl fr (.par [(i, f), (j, f2), (m, f3)] (.cons x1 (.cons x2 (.cons x3 .nil))))) := by
  unfold chkPar3 at h
  split at h
  · rename_i x px y py z pz kt pt a b d k2 pt2
    obtain ⟨h, k3⟩ := and3 h
    obtain ⟨h, k2⟩ := and3 h
    obtain ⟨h, k1⟩ := and3 h
    obtain ⟨h, hcn⟩ := and3 h
    obtain ⟨h, hfo⟩ := and3 h
    obtain ⟨h, hst⟩ := and3 h
    obtain ⟨h, hne⟩ := and3 h
    obtain ⟨h, hli⟩ := and3 h
    obtain ⟨h, hfn⟩ := and3 h
    obtain ⟨h, hlo⟩ := and3 h
    obtain ⟨hN, hij⟩ := and3 h
    obtain ⟨n1, n2⟩ := and3 hN
    obtain ⟨n2, n3⟩ := and3 n2
    obtain ⟨i1, i2⟩ := and3 hij
    obtain ⟨i2, i3⟩ := and3 i2
    obtain ⟨l1, l2⟩ := and3 hlo
    obtain ⟨l2, l3⟩ := and3 l2
    obtain ⟨p1, p2⟩ := and3 hli
    obtain ⟨m1, m2⟩ := and3 hne
    obtain ⟨m2, m3⟩ := and3 m2
    obtain ⟨s1, s2⟩ := and3 hst
    obtain ⟨s2, s3⟩ := and3 s2
    have hx : X.env.scope.names.lookup x = some .local := by rw [o.sc]; exact of_decide_eq_true l1
    have hy : X.env.scope.names.lookup y = some .local := by rw [o.sc]; exact of_decide_eq_true l2
    have hz : X.env.scope.names.lookup z = some .local := by rw [o.sc]; exact of_decide_eq_true l3
    have ha := chk_ok x1 o k1
    have hb := chk_ok x2 o k2
    have hd := chk_ok x3 o k3
    have pd : PA X [d] (tV k W pg cl [f3] (.cons x3 .nil)) := by
      unfold Snd at hd
      cases f3 with
      | true => exact sv_consF s3 hd sv_nil
      | false => exact sv_cons s3 hd sv_nil
    have pb : PA X [b, d] (tV k W pg cl [f2, f3] (.cons x2 (.cons x3 .nil))) := by
      unfold Snd at hb
      cases f2 with
      | true => exact sv_consF s2 hb pd
      | false => exact sv_cons s2 hb pd
    have pab : PA X [a, b, d] (tV k W pg cl [f, f2, f3] (.cons x1 (.cons x2 (.cons x3 .nil)))) := by
      unfold Snd at ha
      cases f with
      | true => exact sv_consF s1 ha pb
      | false => exact sv_cons s1 ha pb
    exact ss_par3 o.calm o.nd (by rw [o.N]; exact of_decide_eq_true n1) (by rw [o.N]; exact of_decide_eq_true n2) (by rw [o.N]; exact of_decide_eq_true n3) (of_decide_eq_true i1) (of_decide_eq_true i2) (of_decide_eq_true i3) hx hy hz pab (sw3 (bk_ok (by rw [o.sc]; exact hfn)) hx hy hz (eq_of_beq p1) (eq_of_beq p2) (of_decide_eq_true m1) (of_decide_eq_true m2) (of_decide_eq_true m3) s1 s2 s3 (no_of hfo) (no_of hcn))
  · cases h
theorem chkParT_ok (o : OkX k W pg cl g X c) {fr : Bool} {i j : Nat} {f f2 : Bool} {x1 x2 : CE} {tg e : Expr} {pos : Pos} (h : chkParT g c i j f f2 x1 x2 tg e = true) : PS X (.Assign [tg] e pos) (tS k W pg cl wl fr (.par [(i, f), (j, f2)] (.cons x1 (.cons x2 .nil)))) := by
  unfold chkParT at h
  split at h
  · rename_i x px y py kt pt a b k2 pt2
    obtain ⟨h, h8⟩ := and3 h
    obtain ⟨h, h7⟩ := and3 h
    obtain ⟨h, h6⟩ := and3 h
    obtain ⟨h, h5⟩ := and3 h
    obtain ⟨h, h4⟩ := and3 h
    obtain ⟨h, h3⟩ := and3 h
    obtain ⟨h1, h2⟩ := and3 h
    have nm : ∀ {i : Nat} {x : Str} {p : Pos}, chkN c i x = true → PG X (.Name x p) (gName i) := fun h => by
      unfold chkN at h
      obtain ⟨h, g3⟩ := and3 h
      obtain ⟨g1, g2⟩ := and3 h
      exact pg_name o.nd (by rw [o.N]; exact of_decide_eq_true g1) (o.loc g2) (o.fnl g3)
    have ha := chk_ok x1 o h7
    have hb := chk_ok x2 o h8
    have pb : PA X [b] (tV k W pg cl [f2] (.cons x2 .nil)) := by
      unfold Snd at hb
      cases f2 with
      | true => exact sv_consF h6 hb sv_nil
      | false => exact sv_cons h6 hb sv_nil
    have pab : PA X [a, b] (tV k W pg cl [f, f2] (.cons x1 (.cons x2 .nil))) := by
      unfold Snd at ha
      cases f with
      | true => exact sv_consF h5 ha pb
      | false => exact sv_cons h5 ha pb
    rw [Bool.or_eq_true] at h3
    rcases h3 with h3 | h3
    · refine ss_parT o.calm (nm h1) (nm h2) pab (sw2no (bk_ok (by rw [o.sc]; exact h4)) ?_ h5 h6)
      show ((X.env.scope.names.lookup x == some NameKind.local) && (X.env.scope.names.lookup y == some NameKind.local)) = false
      rw [o.sc]
      exact no_of h3
    · exact ss_parT o.calm (nm h1) (nm h2) pab (sw2f (bk_ok (by rw [o.sc]; exact h4)) h3 h5 h6)
  · cases h
theorem ss_tryT {fr : Bool} {b : CB} {body : List Stmt} {h₀ : ExceptHandler} {hs : List ExceptHandler} {pos : Pos} (h : PSs X.nox body (tB k WN pg cl wl fr b)) : PS X (.Try body (h₀ :: hs) [] [] pos) (tS k W pg cl wl fr (.tryT b)) :=
  (ps_try_thru0 h).imp fun E σ H ⟨G, st, r, x, q⟩ => by
    have er : runS pg cl wl (.tryT b) st = (match runB pg cl wl b st with
      | .exc _ _ _ => .bad
      | r => r) := by
      cases z : runB pg cl wl b st <;> simp only [runS, z]
    rw [er] at x
    refine ⟨G, st, r, ?_, fun a st' σ' G' H' e => q a st' σ' G' H' (by rw [er, e])⟩
    cases z : runB pg cl wl b st with
    | ok a s' => trivial
    | exc c fs s' => rw [z] at x; exact x.elim
    | bad => rw [z] at x; exact x.elim
mutual
theorem chkS_ok : ∀ (cs : CS) {W : WX} {X : Cx} {fr : Bool} {s : Stmt}, OkX k W pg cl g X c → PassesOwn (model X.prog X.w) X.A X.env X.xe → chkS g c fr cs s = true → PS X s (tS k W pg cl wl fr cs)
  | .asg i x, W, X, fr, s, o, hp, h => by
    simp only [chkS] at h
    split at h
    · exact as_asg (chkAs_ok o h)
    · cases h
  | .asgO i x, W, X, fr, s, o, hp, h => by
    simp only [chkS] at h
    split at h
    · exact as_asgO (chkAs_ok o h)
    · cases h
  | .asgT t x, W, X, fr, s, o, hp, h => by
    simp only [chkS] at h
    split at h
    · obtain ⟨h, h3⟩ := and3 h
      obtain ⟨h1, h2⟩ := and3 h
      exact ss_asgT sole_tup (stores_nt h1) rfl (chk_ok x o h3).E (chkG_ok t o h2)
    · cases h
  | .par l x, W, X, fr, s, o, hp, h => by
    simp only [chkS] at h
    split at h
    · split at h
      · rw [Bool.or_eq_true] at h
        rcases h with h | h
        · exact chkPar_ok o h
        · exact chkParT_ok o h
      · exact chkPar3_ok o h
      · cases h
    · cases h
  | .setI i x v, W, X, fr, s, o, hp, h => by
    simp only [chkS] at h
    split at h
    · obtain ⟨h, h4⟩ := and3 h
      obtain ⟨h, h3⟩ := and3 h
      obtain ⟨h1, h2⟩ := and3 h
      exact ss_setI (o.var h1) h2 (chk_ok x o h3).E (chk_ok v o h4).E
    · cases h
  | .setN i x j v, W, X, fr, s, o, hp, h => by
    simp only [chkS] at h
    split at h
    · obtain ⟨h, h6⟩ := and3 h
      obtain ⟨h, h5⟩ := and3 h
      obtain ⟨h, h4⟩ := and3 h
      obtain ⟨h, h3⟩ := and3 h
      obtain ⟨h1, h2⟩ := and3 h
      unfold chkN at h3
      obtain ⟨h3, g3⟩ := and3 h3
      obtain ⟨g1, g2⟩ := and3 h3
      exact ss_setN o.K o.calm (o.var h1) (pg_name o.nd (by rw [o.N]; exact of_decide_eq_true g1) (o.loc g2) (o.fnl g3)) h2 (chk_ok x o h5).E (chk_ok v o h6).E h4
    · cases h
  | .app i x, W, X, fr, s, o, hp, h => by
    simp only [chkS] at h
    split at h
    · obtain ⟨h, h5⟩ := and3 h
      obtain ⟨h, h4⟩ := and3 h
      obtain ⟨h, h3⟩ := and3 h
      obtain ⟨h1, h2⟩ := and3 h
      have e1 := strEq h1
      subst e1
      exact ss_app (o.var h2) h3 h4 (chk_ok x o h5).E
    · cases h
  | .ext i x, W, X, fr, s, o, hp, h => by
    simp only [chkS] at h
    split at h
    · obtain ⟨h, h5⟩ := and3 h
      obtain ⟨h, h4⟩ := and3 h
      obtain ⟨h, h3⟩ := and3 h
      obtain ⟨h1, h2⟩ := and3 h
      have e1 := strEq h1
      subst e1
      exact ss_ext (o.var h2) h3 h4 (chk_ok x o h5).E
    · cases h
  | .setF i n j x, W, X, fr, s, o, hp, h => by
    simp only [chkS] at h
    split at h
    · obtain ⟨h, h3⟩ := and3 h
      obtain ⟨h1, h2⟩ := and3 h
      obtain ⟨C, hf⟩ := o.cfs _ _ _ (of_decide_eq_true h2)
      exact ss_setF o.K C hf (o.var h1) (chk_ok x o h3).E
    · cases h
  | .exp x, W, X, fr, s, o, hp, h => by
    simp only [chkS] at h
    split at h
    · obtain ⟨h1, h2⟩ := and3 h
      exact ss_exp h1 (chk_ok x o h2).E
    · cases h
  | .ret x, W, X, fr, s, o, hp, h => by
    simp only [chkS] at h
    obtain ⟨hf, hA⟩ := and3 h
    have e := no_of hf
    subst e
    split at hA
    · exact ss_ret (chk_ok x o hA).E
    · cases hA
  | .retF x, W, X, fr, s, o, hp, h => by
    simp only [chkS] at h
    obtain ⟨hf, hA⟩ := and3 h
    subst hf
    split at hA
    · exact ss_retF (chk_ok x o hA).F
    · cases hA
  | .retM i, W, X, fr, s, o, hp, h => by
    simp only [chkS] at h
    obtain ⟨hf, hA⟩ := and3 h
    subst hf
    split at hA
    · exact ss_retM (o.var hA)
    · cases hA
  | .retN, W, X, fr, s, o, hp, h => by
    simp only [chkS] at h
    obtain ⟨hf, hA⟩ := and3 h
    have e := no_of hf
    subst e
    split at hA
    · exact ss_retN
    · cases hA
  | .ite x a b, W, X, fr, s, o, hp, h => by
    simp only [chkS] at h
    split at h
    · obtain ⟨h, h3⟩ := and3 h
      obtain ⟨h1, h2⟩ := and3 h
      exact ss_ite (chkT_ok x o h1).1 (chkB_ok a o hp h2) (chkB_ok b o hp h3)
    · cases h
  | .for_ t it b, W, X, fr, s, o, hp, h => by
    simp only [chkS] at h
    split at h
    · obtain ⟨h, h4⟩ := and3 h
      obtain ⟨h, h3⟩ := and3 h
      obtain ⟨h1, h2⟩ := and3 h
      exact ss_for hp o.calm (chkI_ok it o h3) (chkG_ok t o h2) (chkB_ok b o hp h4) (fun x => noSet_ok h1 _ x)
    · cases h
  | .whl x b, W, X, fr, s, o, hp, h => by
    simp only [chkS] at h
    split at h
    · obtain ⟨h1, h2⟩ := and3 h
      exact ss_while hp (chkT_ok x o h1).1 (chkB_ok b o hp h2)
    · cases h
  | .pass, W, X, fr, s, o, hp, h => by
    simp only [chkS] at h
    split at h
    · exact ss_pass
    · cases h
  | .never, W, X, fr, s, o, hp, h => ss_never
  | .tryT b, W, X, fr, s, o, hp, h => by
    simp only [chkS] at h
    split at h
    · exact ss_tryT (chkB_ok b o.nox PassesOwn.never h)
    · cases h
theorem chkB_ok : ∀ (cb : CB) {W : WX} {X : Cx} {fr : Bool} {ss : List Stmt}, OkX k W pg cl g X c → PassesOwn (model X.prog X.w) X.A X.env X.xe → chkB g c fr cb ss = true → PSs X ss (tB k W pg cl wl fr cb)
  | .nil, W, X, fr, ss, o, hp, h => by
    cases ss with
    | nil => exact sb_nil
    | cons s ss => simp only [chkB] at h; cases h
  | .cons a b, W, X, fr, ss, o, hp, h => by
    cases ss with
    | nil => simp only [chkB] at h; cases h
    | cons s ss =>
      simp only [chkB] at h
      obtain ⟨h1, h2⟩ := and3 h
      exact sb_cons (chkS_ok a o hp h1) (chkB_ok b o hp h2)
end
end
end DL

set_option Elab.async false
set_option linter.all false
set_option maxRecDepth 100000
set_option maxHeartbeats 4000000
namespace DL
open PySem L2 PyProof.Rows
/-- where a def stands: a global, a method, a property's getter, a classmethod's def -/
inductive Ad where
  | glo (x : Str) | met (x m : Str) | prp (x m : Str) | cm (x m : Str)
def recG (K : PySem.W.Frag) (p : Addr) (ty : String) : Addr := match PySem.W.recIn K p ty with
  | some (.ref g :: _) => g
  | _ => 0
def Ad.at_ (K : PySem.W.Frag) : Ad → Addr
  | .glo x => He.ga K x
  | .met x m => He.ma K (He.ga K x) m
  | .prp x m => recG K (He.ma K (He.ga K x) m) "property"
  | .cm x m => recG K (He.ma K (He.ga K x) m) "classmethod"
/-- a def of the program: its number, its text, the names of its slots, its core -/
structure Ent where
  ad : Ad
  f : Nat
  d : He.DefD
  N : List Str
  ps : List Str
  df : Df
structure Setup (k : Wk) (mg : Str → Option Value) (T : Tab) (g : GE) (es : List Ent) (fdOf : Nat → FuncData) : Prop where
  fd : ∀ e ∈ es, FunD k.K e.d.name e.d.qual e.d.params e.d.body e.d.scope (e.d.dvs k.K) (e.d.kws k.K) (e.ad.at_ k.K) (fdOf e.f)
  sc : ∀ e ∈ es, FnScope e.N e.ps e.d.scope
  df : ∀ e ∈ es, T.df e.f = some e.df ∧ e.df.ns = e.N.length ∧ e.ps.length = e.df.sg.np
  ck : ∀ e ∈ es, chkB g ⟨e.N, e.d.scope, none⟩ e.df.sg.fresh e.df.body e.d.body = true
  fr : ∀ e ∈ es, e.df.sg.fresh = g.frs.contains e.f
  dv : ∀ e ∈ es, ∀ G, DRs k G e.df.sg.dfl (e.d.dvs k.K)
  sh : ∀ e ∈ es, ∀ (n : Nat) (ks : List Str) (pm : List PM), (e.f, n, ks, pm) ∈ g.shp → Shp k.K (fdOf e.f) e.ps n ks pm (e.d.dvs k.K)
  nm : ∀ (x : Str) (f : Nat), g.fns.lookup x = some f → ∃ e ∈ es, e.f = f ∧ mg x = some (.ref (e.ad.at_ k.K)) ∧ PySem.W.keepIn k.K (.ref (e.ad.at_ k.K)) = true
  blt : ∀ x ∈ g.blt, mg x = none
  glb : ∀ (x : Str) (n : Nat), g.glb.lookup x = some n → ∃ d v u, T.glb n = some d ∧ mg x = some u ∧ RelV v u ∧ ∀ G, DR k G d v
  kit : KitO k
  cls : ∀ (x : Str) (n : Nat), g.cls.lookup x = some n → n ∈ k.cs ∧ mg x = some (.ref (k.ca n))
  cfs : ∀ (n j : Nat) (f : Str), ((g.cfs.lookup n).getD [])[j]? = some f → ClsD k n ∧ (k.cf n)[j]? = some f
  mth : ∀ (n : Nat) (m : Str) (f : Nat), g.mth.lookup (n, m) = some f → ∃ e ∈ es, e.f = f ∧ ClsD k n ∧ m ∉ k.cf n ∧ Meth k.K (k.ca n) m (e.ad.at_ k.K)
  prp : ∀ (n : Nat) (m : Str) (f : Nat), g.prp.lookup (n, m) = some f → ∃ e ∈ es, e.f = f ∧ ∃ pa, ClsD k n ∧ PropOf k.K (k.ca n) m pa (e.ad.at_ k.K)
  ini : ∀ (x : Str) (n f : Nat), g.ini.lookup x = some (n, f) → ∃ e ∈ es, e.f = f ∧ n ∈ k.cs ∧ mg x = some (.ref (k.ca n)) ∧ Mk k.K (k.ca n) (e.ad.at_ k.K) ∧ g.frs.contains f = false
  cmt : ∀ (n : Nat) (m : Str) (f : Nat), g.cmt.lookup (n, m) = some f → ∃ e ∈ es, e.f = f ∧ ∃ mc pa, ClX.CRead k.K (k.ca n) mc ∧ ClX.CMet k.K (k.ca n) mc m pa (e.ad.at_ k.K)
section
variable {k : Wk} {P : Program} {w : World} {mg : Str → Option Value} {base : Heap} {T : Tab} {g : GE} {es : List Ent} {fdOf : Nat → FuncData}
/-- every def keeps its promise -/
theorem Setup.fn (S : Setup k mg T g es fdOf) : ∀ (n : Nat), ∀ e ∈ es, FnG P w k.K mg base (2 * n) (e.ad.at_ k.K) (fdOf e.f) e.ps (spD k (callN T n) e.f e.df.sg)
  | 0, e, he => ⟨fun vs H Q E ⟨G, ds, _, _, h⟩ => h.elim, fun A outer s H args us vs Q E _ _ _ _ _ ⟨G, ds, _, _, h⟩ => h.elim⟩
  | n + 1, e, he => by
    obtain ⟨d1, d2, d3⟩ := S.df e he
    show FnG P w k.K mg base (2 * n + 1 + 1) _ _ _ _
    refine fn_D (S.fd e he) (S.sc e he) d1 d2 d3 fun cdv A outer s H E hr hgd tk hp => ?_
    have fok : ∀ e2 ∈ es, ∀ m ≤ 1, FOk k T.pg (callN T n) g (cxOf (L2N.CX P w) P w k.K mg base e.N e.d.qual e.d.scope (e.ad.at_ k.K) cdv A outer s H E) e2.f m (e2.ad.at_ k.K) := fun e2 he2 m hm => by
      obtain ⟨c1, c2, c3⟩ := S.df e2 he2
      refine ⟨2 * n, fdOf e2.f, e2.ps, e2.df.sg, e2.d.dvs k.K, ?_, S.fr e2 he2, S.dv e2 he2, S.fn n e2 he2, hr.mono (by omega), S.sh e2 he2⟩
      show (T.df e2.f).map Df.sg = _
      rw [c1]
      rfl
    refine chkB_ok e.df.body (c := ⟨e.N, e.d.scope, none⟩) ⟨rfl, (S.sc e he).nd, rfl, hr.units, hgd, tk, rfl, rfl, fun _ => rfl, S.blt, S.glb, fun x f h => ?_, S.kit, S.cls, S.cfs, fun m mn f h => ?_, fun m mn f h => ?_, fun x m f h => ?_, fun m mn f h => ?_⟩ hp (S.ck e he)
    · obtain ⟨e2, he2, rfl, m1, m2⟩ := S.nm x f h
      obtain ⟨kk, fd, ps, sg, dvs, n1, n2, n3, n4, n5, n6⟩ := (fok e2 he2 0 (by omega)).ex
      exact ⟨kk, _, fd, ps, sg, dvs, m1, m2, n1, n2, n3, n4, n5, n6⟩
    · obtain ⟨e2, he2, rfl, h1, h2, h3⟩ := S.mth m mn f h
      exact ⟨_, h1, h2, h3, fok e2 he2 1 (by omega)⟩
    · obtain ⟨e2, he2, rfl, pa, h1, h2⟩ := S.prp m mn f h
      exact ⟨pa, _, h1, h2, fok e2 he2 1 (by omega)⟩
    · obtain ⟨e2, he2, rfl, h1, h2, h3, h4⟩ := S.ini x m f h
      exact ⟨_, h1, h2, h3, h4, fok e2 he2 1 (by omega)⟩
    · obtain ⟨e2, he2, rfl, mc, pa, h1, h2⟩ := S.cmt m mn f h
      exact ⟨mc, pa, _, h1, h2, fok e2 he2 0 (by omega)⟩
/-- a way to call a def without defaults -/
theorem shp_of {K : PySem.W.Frag} {x qual : Str} {params : Arguments} {body : List Stmt} {scope : Scope} {kws : List (Str × V)} {f : Addr} {fd : FuncData} {ps ks : List Str} {n : Nat} {pm : List PM} (F : FunD K x qual params body scope [] kws f fd)
    (h : ∀ (kV doc pn : Value) (an : Option Addr) (cdv ct : Value) (us ws : List Value), us.length = n → ws.length = ks.length → bindArgs (PySem.W.fnOf x qual params body scope .none kV doc pn an cdv ct) ⟨us, ks.zip ws⟩ = pure (ps.zip (gp (us ++ ws) [] pm))) : Shp K fd ps n ks pm [] := by
  obtain ⟨oc, od, dV, kV, doc, pn, an, cdv, ct, osl, rfl, lk, hcd, hD, hK⟩ := F.ex
  rcases hD with ⟨_, rfl⟩ | ⟨e, _⟩
  · exact ⟨[], .nil, fun s us ws _ l1 l2 => BindsTo.of_eq (h kV doc pn an cdv ct us ws l1 l2)⟩
  · exact absurd rfl e
/-- .. with defaults -/
theorem shp_ofD {K : PySem.W.Frag} {x qual : Str} {params : Arguments} {body : List Stmt} {scope : Scope} {kws : List (Str × V)} {dvs : List V} {f : Addr} {fd : FuncData} {ps ks : List Str} {n : Nat} {pm : List PM} (F : FunD K x qual params body scope dvs kws f fd) (hd : dvs ≠ [])
    (h : ∀ (tA : Addr) (kV doc pn : Value) (an : Option Addr) (cdv ct : Value) (us its ws : List Value), us.length = n → its.length = dvs.length → ws.length = ks.length →
      ∃ kk, bindArgs (PySem.W.fnOf x qual params body scope (.ref tA) kV doc pn an cdv ct) ⟨us, ks.zip ws⟩ = seqItems? (.ref tA) >>= kk ∧ kk (some its.toArray) = pure (ps.zip (gp (us ++ ws) its pm))) : Shp K fd ps n ks pm dvs := by
  obtain ⟨oc, od, dV, kV, doc, pn, an, cdv, ct, osl, rfl, lk, hcd, hD, hK⟩ := F.ex
  rcases hD with ⟨e, _⟩ | ⟨_, tA, o, its, m, rfl, lT, oT, rT⟩
  · exact absurd e hd
  · refine ⟨its, rT, fun s us ws X l1 l2 => ?_⟩
    obtain ⟨kk, e1, e2⟩ := h tA kV doc pn an cdv ct us its ws l1 rT.length.symm l2
    refine BindsTo.of_looks fun M => ?_
    rw [e1]
    exact looks_items X lT oT (.of_pure e2)
end
end DL

set_option Elab.async false
set_option linter.all false
set_option maxRecDepth 100000
set_option maxHeartbeats 4000000
namespace DL
open PySem L2 PyProof.Rows
section
variable {P : Program} {w : World} {K : PySem.W.Frag} {mg mb : Str → Option Value} {k : Nat} {fa a : Addr} {fd : FuncData} {x : Str} {sp : Sp} {s1 : Shared} {vs : List Value} {ns : List Int}
/-- the law's call, from an abstract heap that tracks the script alone -/
theorem lawG_core {H : Hp} (KX : K.In s1.heap) (hns : s1.heap.Ns mainGlobals mg) (hb : s1.heap.Ns builtinsNs mb) (hbb : ∀ x : Str, x ≠ "__name__" → mb x = bootBuiltins x) (hlim : s1.heap.NoLimit) (hg : s1.gens = #[])
    (ha : s1.heap.get? a = some { cls := .type "list", data := .seq vs.toArray }) (hr : Room k callerA) (F : ∀ base : Heap, FnG P w K mg base k fa fd [x] sp) (hbind : ∀ (s : Shared) (u : Value), K.In s.heap → BindsTo s fd ⟨[u], []⟩ [(x, u)])
    (hO : Only H) (hq : sp [.ref a] H (fun v _ => v = .bl true) fun _ _ _ => False) (hok : HOk P w H s1.heap) (hA : ∀ b u, H b = some u → b = a) (hK : ∀ u, H a = some u → K.lookup a = none) :
    codeAny (model P w) callerA (.call (.ref fa) ⟨[.ref a], []⟩) (fun r s' => r = .ok (.ret (.bool true)) ∧ OldK s1.heap s'.heap ∧ s'.os = s1.os ∧ AllBare s'.gens) s1 := by
  have nd : ∀ {b : Addr} {o : Obj} {es : Array DictEntry} {ep : Nat}, s1.heap.get? b = some o → o.data = .dict es ep → H b = none := fun {b o es ep} e d => by
    cases q : H b with
    | none => rfl
    | some u =>
      cases hA b u q
      rw [ha] at e
      cases e
      cases (show Data.seq vs.toArray _ = Data.dict es ep from d)
  have ns1 : ∀ {b : Addr} {m : Str → Option Value}, s1.heap.Ns b m → (hidT s1.heap H).Ns b m := fun {b m} ⟨o, es, ep, e, d, r⟩ => ⟨o, es, ep, hidT_get e (nd e d), d, r⟩
  have kb : K.In (hidT s1.heap H) := fun b o e => hidT_get (KX b o e) (by
    cases q : H b with
    | none => rfl
    | some u =>
      cases hA b u q
      rw [hK u q] at e
      cases e)
  obtain ⟨mc, l1, l2⟩ := hlim
  have env : Env0 P w K mg (hidT s1.heap H) callerA [] s1 H := ⟨rfl, ⟨kb, ns1 hns, ⟨mb, ns1 hb, hbb⟩, mc, ns1 l1, l2⟩, fun b o e => of_hidT e, Nat.le_of_eq (hidT_size _ _), trivial, (fun b z => nomatch z), hok, .of_eq hg⟩
  refine codeAny_mono ((F _).run callerA [] s1 H ⟨[.ref a], []⟩ [.ref a] [.ref a] _ _ hr rfl env (hbind s1 (.ref a) KX) (.cons rfl .nil) hq) fun r s' h => ?_
  cases r with
  | error e =>
    obtain ⟨_, _, _, _, _, _, _, _, _, _, _, _, z⟩ := h
    exact z.elim
  | ok fl =>
    cases fl with
    | ret u =>
      obtain ⟨v, H', os, bare, un, ok2, rv, rfl⟩ := h
      cases rv
      refine ⟨rfl, OldK.of_keep fun b o e => ?_, os, bare⟩
      cases q : H b with
      | none => exact un.keep b o e q (fun z => nomatch z) (fun z => nomatch z)
      | some u =>
        rcases hO b with z | ⟨ob, xs, z⟩
        · rw [q] at z; cases z
        · obtain ⟨f1, _⟩ := hok b _ z
          obtain ⟨f2, _⟩ := ok2 b _ (un.frzs b ob _ z)
          rw [e] at f1
          cases f1
          exact f2
    | next => exact False.elim h
    | brk => exact False.elim h
    | cont => exact False.elim h
/-- the script's own abstract heap -/
def scH (a : Addr) (vs : List Value) (ns : List Int) : Hp := fun b => if b = a then some (.frz { cls := .type "list", data := .seq vs.toArray } (.lst (ns.map V.int))) else none
theorem scH_at : scH a vs ns a = some (.frz { cls := .type "list", data := .seq vs.toArray } (.lst (ns.map V.int))) := if_pos rfl
theorem scH_inv {b : Addr} {u : HO} (h : scH a vs ns b = some u) : b = a ∧ u = .frz { cls := .type "list", data := .seq vs.toArray } (.lst (ns.map V.int)) := by
  unfold scH at h
  split at h
  · cases h; exact ⟨by assumption, rfl⟩
  · cases h
theorem lawG (KX : K.In s1.heap) (hns : s1.heap.Ns mainGlobals mg) (hb : s1.heap.Ns builtinsNs mb) (hbb : ∀ x : Str, x ≠ "__name__" → mb x = bootBuiltins x) (hlim : s1.heap.NoLimit) (hg : s1.gens = #[])
    (ha : s1.heap.get? a = some { cls := .type "list", data := .seq vs.toArray }) (hi : IntsAre vs ns) (hl : ns.length ≤ sizeLine) (hr : Room k callerA) (F : ∀ base : Heap, FnG P w K mg base k fa fd [x] sp) (hbind : ∀ (s : Shared) (u : Value), K.In s.heap → BindsTo s fd ⟨[u], []⟩ [(x, u)])
    (hsp : ∀ H : Hp, Only H → SqL K H a (ns.map V.int) → sp [.ref a] H (fun v _ => v = .bl true) fun _ _ _ => False) :
    codeAny (model P w) callerA (.call (.ref fa) ⟨[.ref a], []⟩) (fun r s' => r = .ok (.ret (.bool true)) ∧ OldK s1.heap s'.heap ∧ s'.os = s1.os ∧ AllBare s'.gens) s1 := by
  have rv := vals_ints hi
  cases hk : K.lookup a with
  | some o =>
    have e := KX a o hk
    rw [ha] at e
    cases e
    have hO : Only (fun _ => none) := fun _ => .inl rfl
    exact lawG_core (H := fun _ => none) KX hns hb hbb hlim hg ha hr F hbind hO (hsp _ hO (.inr ⟨_, vs.toArray, _, hk, rfl, rfl, rfl, by rw [List.size_toArray, hi.length]; exact hl, by simpa using rv⟩)) (fun b u z => nomatch z) (fun b u z => nomatch z) (fun u z => nomatch z)
  | none =>
    have hO : Only (scH a vs ns) := fun b => by
      unfold scH
      split
      · exact .inr ⟨_, _, rfl⟩
      · exact .inl rfl
    refine lawG_core (H := scH a vs ns) KX hns hb hbb hlim hg ha hr F hbind hO (hsp _ hO (.inl (.inr ⟨_, scH_at⟩))) (fun b u z => ?_) (fun b u z => (scH_inv z).1) (fun u z => hk)
    obtain ⟨rfl, rfl⟩ := scH_inv z
    exact ⟨ha, by rw [List.length_map]; exact hl, vs, _, rv, ha⟩
end
/-- the row's walk -/
theorem walkX {l : PySem.W.OpenLaw} {n k : Nat} {q : Program} {loose : List Str} {XP : (Str → Option Value) → Heap → Prop} {YP : World → Heap → Prop} {d : DefRec} {x : Str}
    (hn : l.most = some n) (hn2 : n ≤ sizeLine) (hdf : d.params.defaults = []) (hr : Room k callerA)
    (F : ∀ (w : World) (mg : Str → Option Value) (fa : Addr) (h : Heap), YP w h → h.Ns mainGlobals mg → mg d.name = some (.ref fa) →
      ∃ (K : PySem.W.Frag) (fd : FuncData) (sp : Sp), K.In h ∧ (∀ (s : Shared) (u : Value), K.In s.heap → BindsTo s fd ⟨[u], []⟩ [(x, u)]) ∧
        (∀ (H : Hp) (a : Addr) (ns : List Int), ns.length ≤ n → (∀ z ∈ ns, Builtin.Int.intBits z ≤ 1048576) → Only H → SqL K H a (ns.map V.int) → sp [.ref a] H (fun v _ => v = .bl true) fun _ _ _ => False) ∧
        ∀ base : Heap, FnG l.prog w K mg base k fa fd [x] sp) :
    PySem.W.WalkO q loose XP YP l.row.toRowW d [] (fun f vs => PySem.call f vs) := by
  refine Att.attach_callB hn hdf fun w s₀ s₁ mg mb fa o pm cd doc a vs ns G Y ho hd hcd hmg hobj hints hlen hbits hg => ?_
  obtain ⟨K, fd, sp, KX, hb, hsp, hF⟩ := F w mg fa _ Y G.T.g hmg
  exact lawG KX G.T.g G.T.b G.T.builtins G.T.nolimit hg hobj hints (Nat.le_trans hlen hn2) hr hF hb (fun H hO hS => hsp H a ns hlen hbits hO hS)
end DL

set_option Elab.async false
set_option linter.all false
set_option maxRecDepth 100000
set_option maxHeartbeats 4000000
namespace DL
open PySem L2 PyProof.Rows
/-- the law's call by the core -/
theorem law_sp {k : Wk} {cl : CallH} {f : Nat} {sg : Sig} {H : Hp} {a : Addr} {ns : List Int} {outs : List D} (h1 : sg.np = 1) (h2 : sg.bor = []) (h3 : sg.fresh = false) (hS : SqL k.K H a (ns.map V.int)) (hc : cl f [.scr ns] = .ok (.bl true) outs) : spD k cl f sg [.ref a] H (fun v _ => v = .bl true) fun _ _ _ => False := by
  have e : initA sg [.scr ns] = [.fr (.scr ns)] := by
    show [argS sg 0 (.scr ns)] = _
    unfold argS
    rw [h2]
    rfl
  refine ⟨H, [.scr ns], ?_, by rw [h1]; rfl, ?_⟩
  · rw [e]
    refine ⟨Sub.refl H, rfl, fun i d z => ?_, fun i d z => ?_, fun i j d d' b z => ?_⟩
    · obtain ⟨rfl, z⟩ := one_get z
      cases z
      exact ⟨.ref a, rfl, a, rfl, hS⟩
    · exfalso
      unfold ownAt at z
      cases q : ([Sl.fr (.scr ns)] : Slots)[i]? with
      | none => rw [q] at z; cases z
      | some s => rw [q, (one_get q).2] at z; cases z
    · exfalso
      unfold ownAt at z
      cases q : ([Sl.fr (.scr ns)] : Slots)[i]? with
      | none => rw [q] at z; cases z
      | some s => rw [q, (one_get q).2] at z; cases z
  · rw [hc]
    intro v G' H' p r
    unfold RFr at r
    rw [h3, if_neg (by simp)] at r
    exact r
/-- one FuncData for each number -/
theorem pickFd {Pr : Ent → FuncData → Prop} : ∀ {es : List Ent}, (es.map (·.f)).Nodup → (∀ e ∈ es, ∃ fd, Pr e fd) → ∃ fdOf : Nat → FuncData, ∀ e ∈ es, Pr e (fdOf e.f)
  | [], _, _ => ⟨fun _ => default, fun e he => by cases he⟩
  | e :: es, nd, h => by
    rw [List.map_cons] at nd
    obtain ⟨n1, n2⟩ := List.nodup_cons.mp nd
    obtain ⟨f1, h1⟩ := pickFd n2 fun e he => h e (List.mem_cons_of_mem _ he)
    obtain ⟨fd, h2⟩ := h e (List.mem_cons_self ..)
    refine ⟨fun n => if n = e.f then fd else f1 n, fun e' he => ?_⟩
    rcases List.mem_cons.mp he with rfl | he
    · show Pr e' (if e'.f = e'.f then fd else f1 e'.f)
      rw [if_pos rfl]; exact h2
    · show Pr e' (if e'.f = e.f then fd else f1 e'.f)
      rw [if_neg (fun z => n1 (by rw [← z]; exact List.mem_map_of_mem (f := (·.f)) he))]
      exact h1 e' he
/-- nothing is asked of classes where there are none -/
theorem kit_none {K : PySem.W.Frag} : KitO ⟨K, fun _ => 0, fun _ => [], []⟩ := ⟨(fun _ _ _ _ _ h => nomatch h), (fun _ h => nomatch h), (fun _ h => nomatch h), (fun _ h => nomatch h)⟩
/-- names and slots of a def, as a test -/
def scopeB (N ps : List Str) (sc : Scope) : Bool := isFun sc && !sc.isCoroutine && !sc.isGenerator && decide N.Nodup && decide (N.take ps.length = ps) && ps.all (fun x => isLoc sc x) && sc.names.all (fun y => match y.2 with
  | .free => false
  | _ => true)
theorem scopeB_ok {N ps : List Str} {sc : Scope} (h : scopeB N ps sc = true) : FnScope N ps sc := by
  unfold scopeB at h
  obtain ⟨h, h7⟩ := and3 h
  obtain ⟨h, h6⟩ := and3 h
  obtain ⟨h, h5⟩ := and3 h
  obtain ⟨h, h4⟩ := and3 h
  obtain ⟨h, h3⟩ := and3 h
  obtain ⟨h1, h2⟩ := and3 h
  refine ⟨isFun_ok h1, no_of h2, no_of h3, of_decide_eq_true h4, of_decide_eq_true h5, fun x hx => ?_, fun y hy z => ?_⟩
  · have q := List.all_eq_true.mp h6 x hx
    unfold isLoc at q
    split at q
    · exact .inl (by assumption)
    · exact .inr (by assumption)
    · cases q
  · have q := List.all_eq_true.mp h7 y hy
    rw [z] at q
    cases q
end DL

set_option Elab.async false
set_option linter.all false
set_option maxRecDepth 100000
set_option maxHeartbeats 4000000
namespace DL
open PySem L2 PyProof.Rows
/-! ### what the head shows -/
/-- a class whose instances are data: its name, its fields, methods, properties -/
structure Cs where
  x : Str
  fs : List Str
  ms : List Str
  ps : List Str
  /-- class methods -/
  cms : List Str := []
def wkC (cl : List Cs) (K : PySem.W.Frag) : Wk := ⟨K, fun n => match cl[n]? with
  | some c => He.ga K c.x
  | none => 0, fun n => match cl[n]? with
  | some c => c.fs
  | none => [], List.range cl.length⟩
def propB (K : PySem.W.Frag) (x m : Str) : Bool := He.eqO (PySem.W.findIn K (.ref (He.ga K x)) m) (some (some (.ref (He.ma K (He.ga K x) m)))) && (He.eqO (PySem.W.specialIn K (.ref (He.ma K (He.ga K x) m)) "__get__") (some (some (.builtin "property.__get__"))) &&
  (decide (PySem.W.takesIn K (.ref (He.ma K (He.ga K x) m)) = some true) && (match PySem.W.recIn K (He.ma K (He.ga K x) m) "property" with
    | some (.ref _ :: _) => true
    | _ => false)))
theorem propB_ok {K : PySem.W.Frag} {x m : Str} (h : propB K x m = true) : PropOf K (He.ga K x) m (He.ma K (He.ga K x) m) ((Ad.prp x m).at_ K) := by
  unfold propB at h
  obtain ⟨h1, h⟩ := and3 h
  obtain ⟨h2, h⟩ := and3 h
  obtain ⟨h3, h4⟩ := and3 h
  refine ⟨He.eqO_ok h1, He.eqO_ok h2, of_decide_eq_true h3, ?_⟩
  show ∃ rest, PySem.W.recIn K _ "property" = some (.ref (recG K _ "property") :: rest)
  unfold recG
  split at h4
  · rename_i g r e
    rw [e]
    exact ⟨r, rfl⟩
  · cases h4
def cmB (K : PySem.W.Frag) (x m : Str) : Bool := PySem.W.readsIn K (He.ga K x) (.type "type") && (He5.wrapB K (He.ga K x) "classmethod" "classmethod.__get__" m && PySem.W.fnIn K (recG K (He.ma K (He.ga K x) m) "classmethod"))
theorem cmB_ok {K : PySem.W.Frag} {x m : Str} (h : cmB K x m = true) : ClX.CRead K (He.ga K x) (.type "type") ∧ ClX.CMet K (He.ga K x) (.type "type") m (He.ma K (He.ga K x) m) ((Ad.cm x m).at_ K) := by
  unfold cmB at h
  obtain ⟨h1, h⟩ := and3 h
  obtain ⟨h2, h3⟩ := and3 h
  obtain ⟨w1, rest, w2⟩ := He5.wrapB_ok h2
  refine ⟨⟨h1, ?_⟩, ⟨w1, ⟨rest, ?_⟩, h3⟩⟩
  · unfold PySem.W.readsIn at h1
    obtain ⟨h, _⟩ := and3 h1
    obtain ⟨h, _⟩ := and3 h
    obtain ⟨h, h3⟩ := and3 h
    obtain ⟨_, h2⟩ := and3 h
    unfold PySem.W.specialIn
    rw [beq_iff_eq.mp h2, Option.bind_some]
    exact beq_iff_eq.mp h3
  · show PySem.W.recIn K _ "classmethod" = some (.ref (recG K _ "classmethod") :: rest)
    unfold recG
    rw [w2]
def instB (K : PySem.W.Frag) (C : Addr) : Bool := He.eqO (PySem.W.findIn K (.ref C) "__class__") (some (some (.builtin "object.__class__"))) && (He.eqO (PySem.W.specialIn K (.builtin "object.__class__") "__get__") (some (some (.builtin "getset_descriptor.__get__"))) &&
  (decide (PySem.W.takesIn K (.builtin "object.__class__") = some true) && decide (PySem.W.mroIn K C (.type "object") = some true)))
def csB (cl : List Cs) (K : PySem.W.Frag) (c : Cs) : Bool := (He.Fa.glo c.x).ok K && ((He.Fa.cls c.x).ok K && (c.fs.all (fun f => (He.Fa.noat c.x f).ok K) && (decide c.fs.Nodup && (decide (c.fs.length < 1000) && ((He.Fa.mkr c.x).ok K && (instB K (He.ga K c.x) &&
  (tyNames.all (fun T => decide (PySem.W.kitOne K (.ref (He.ga K c.x)) (.type T) = some false) && decide (PySem.W.kitOne K (.type T) (.ref (He.ga K c.x)) = some false)) &&
  (cl.all (fun d => decide (PySem.W.kitOne K (.ref (He.ga K c.x)) (.ref (He.ga K d.x)) = some (d.x == c.x))) && (c.ms.all (fun m => (He.Fa.meth c.x m).ok K && !c.fs.contains m) && (c.ps.all (fun m => propB K c.x m) && c.cms.all (fun m => cmB K c.x m)))))))))))
/-- a constant of the module -/
def dvOf : D → He.Dv
  | .int i => .int i
  | .str x => .str x
  | .bl b => .bl b
  | _ => .non
def D.flat3 : D → Bool
  | .int _ => true
  | .str _ => true
  | .bl _ => true
  | .non => true
  | _ => false
def glB (K : PySem.W.Frag) (p : Str × D) : Bool := match p.2 with
  | .int i => (He.Fa.int p.1 i).ok K
  | .str z => (He.Fa.str p.1 z).ok K
  | .tup l => (He.Fa.glo p.1).ok K && (l.all D.flat3 && He.tupB K p.1 (l.map dvOf))
  | _ => false
theorem flat3_dr {k : Wk} {G : Hp} {K : PySem.W.Frag} : ∀ {l : List D}, l.all D.flat3 = true → DRs k G l ((l.map dvOf).map (He.Dv.v K))
  | [], _ => rfl
  | d :: r, h => by
    rw [List.all_cons, Bool.and_eq_true] at h
    refine ⟨_, _, rfl, ?_, flat3_dr h.2⟩
    cases d <;> first | rfl | (cases h.1; done)
theorem glB_ok {K : PySem.W.Frag} {mg : Str → Option Value} {h : Heap} {cl : List Cs} (X : K.In h) (G : h.Ns mainGlobals mg) {p : Str × D} (c : glB K p = true) : ∃ v u, mg p.1 = some u ∧ RelV v u ∧ ∀ G, DR (wkC cl K) G p.2 v := by
  obtain ⟨x, d⟩ := p
  unfold glB at c
  cases d with
  | int i =>
    obtain ⟨t, hm⟩ := He.int_ok X G c
    exact ⟨.int i, _, hm, ⟨t, rfl⟩, fun _ => rfl⟩
  | str z =>
    obtain ⟨t, hm⟩ := He.str_ok X G c
    exact ⟨.str z, _, hm, ⟨t, rfl⟩, fun _ => rfl⟩
  | tup l =>
    obtain ⟨c1, c2⟩ := and3 (show ((He.Fa.glo x).ok K && (l.all D.flat3 && He.tupB K x (l.map dvOf))) = true from c)
    obtain ⟨c2, c3⟩ := and3 c2
    exact ⟨.ref (He.ga K x), _, He.glo_ok X G c1, rfl, fun H => ⟨_, _, rfl, He.tupB_ok c3 H, flat3_dr c2⟩⟩
  | _ => cases c
/-- a def's default: data, as the text has it -/
inductive Dd where
  | fl (d : D) | tup0 (f : Str × Option Str) (i : Nat)
def Dd.dv : Dd → He.Dv
  | .fl d => dvOf d
  | .tup0 f i => .adr (He.dflAt f i)
def Dd.d : Dd → D
  | .fl d => d
  | .tup0 _ _ => .tup []
def Dd.ok (K : PySem.W.Frag) : Dd → Bool
  | .fl d => d.flat3
  | .tup0 f i => (match K.lookup (He.dflAt f i K) with
    | some ⟨.type c, _, .seq its _, _⟩ => decide (c = "tuple") && its.isEmpty
    | _ => false)
theorem dd_dr {k : Wk} {K : PySem.W.Frag} (hk : k.K = K) (G : Hp) : ∀ {l : List Dd}, l.all (Dd.ok K) = true → DRs k G (l.map Dd.d) ((l.map Dd.dv).map (He.Dv.v K))
  | [], _ => rfl
  | d :: r, h => by
    rw [List.all_cons, Bool.and_eq_true] at h
    refine ⟨_, _, rfl, ?_, dd_dr hk G h.2⟩
    cases d with
    | fl d => obtain ⟨v, vr, e, z, _⟩ := flat3_dr (k := k) (G := G) (K := K) (l := [d]) (by rw [List.all_cons]; exact Bool.and_eq_true_iff.mpr ⟨h.1, rfl⟩); cases e; exact z
    | tup0 f i =>
      have h1 : (match K.lookup (He.dflAt f i K) with
        | some ⟨.type c, _, .seq its _, _⟩ => decide (c = "tuple") && its.isEmpty
        | _ => false) = true := h.1
      split at h1
      · rename_i c od its m sl e
        obtain ⟨z1, z2⟩ := and3 h1
        have z3 := of_decide_eq_true z1
        subst z3
        refine ⟨He.dflAt f i K, [], rfl, .inr ⟨_, its, m, by rw [hk]; exact e, rfl, rfl, ?_, ?_⟩, rfl⟩
        · rw [Array.isEmpty_iff.mp z2]; decide
        · rw [Array.isEmpty_iff.mp z2]; exact .nil
      · cases h1
/-- the def's object at a -/
def seenF (K : PySem.W.Frag) (a : Addr) : He.FnW := match K.lookup a with
  | some ob => (match ob.data with
    | .func q => some (q.name, q.qualname, q.params, q.body, q.scope, q.globals, q.closure, q.builtins)
    | _ => none)
  | none => none
def goodF (K : PySem.W.Frag) (d : He.DefD) (a : Addr) : Bool := PySem.W.keepIn K (.ref a) && (match K.lookup a with
  | some ob => (match ob.data with
    | .func q => PySem.W.codeIn K q.code d.qual && (He.dflB K q.defaults (d.dvs K) && He.kwdB K q.kwdefaults (d.kws K))
    | _ => false)
  | none => false)
theorem goodF_ok {K : PySem.W.Frag} {d : He.DefD} {a : Addr} (e : seenF K a = d.val) (h : goodF K d a = true) : ∃ fd, FunD K d.name d.qual d.params d.body d.scope (d.dvs K) (d.kws K) a fd := by
  unfold goodF at h
  unfold seenF at e
  obtain ⟨kp, h⟩ := and3 h
  cases q : K.lookup a with
  | none => rw [q] at h; cases h
  | some ob =>
    obtain ⟨oc, od, dt, osl⟩ := ob
    simp only [q] at h e
    cases dt with
    | func fd =>
      obtain ⟨y1, h⟩ := and3 h
      obtain ⟨y2, y3⟩ := and3 h
      refine ⟨fd, ⟨oc, od, fd.defaults, fd.kwdefaults, fd.doc, fd.pyModule, fd.annotations, fd.code, fd.closureTuple, osl, ?_, q, y1, He.dflB_ok y2, He.kwdB_ok y3⟩, kp⟩
      cases fd
      simp only [He.DefD.val, Option.some.injEq, Prod.mk.injEq] at e
      obtain ⟨rfl, rfl, rfl, rfl, rfl, rfl, rfl, rfl⟩ := e
      rfl
    | _ => cases h
/-- the j-th statement of the i-th class -/
def clsDef (p : Program) (i j : Nat) : PySem.DefRec := match p.main.body[i]? with
  | some (.ClassDef _ _ _ cb _ _ _ _ _ _ _) => (match cb[j]? with
    | some (.FunctionDef fn ar fb _ _ _ fs _ _ fp) => ⟨fn, ar, fb, fs, fp⟩
    | _ => HandSHeadRun.topDef p 1000000)
  | _ => HandSHeadRun.topDef p 1000000
/-! ### the hook -/
/-- the program's text, as it is held against the head -/
structure Txt0 where
  cl : List Cs
  gl : List (Str × D)
  blt : List Str
  es : List Ent
  dd : List (List Dd)
def Txt0.b (t : Txt0) (K : PySem.W.Frag) : Bool := t.cl.all (csB t.cl K) && (t.gl.all (glB K) && (t.blt.all (fun x => (He.Fa.free x).ok K) && (t.es.all (fun e => goodF K e.d (e.ad.at_ K)) && (t.es.all (fun e => match e.ad with
  | .glo x => (He.Fa.glo x).ok K
  | _ => true) && t.dd.all (fun l => l.all (Dd.ok K))))))
abbrev AlC : Type := Bool × List He.FnW
def Txt0.obs (t : Txt0) (K : PySem.W.Frag) : AlC := (t.b K, t.es.map fun e => seenF K (e.ad.at_ K))
def Txt0.val (t : Txt0) : AlC := (true, t.es.map fun e => e.d.val)
def Txt0.says (t : Txt0) (K : PySem.W.Frag) : Prop := t.obs K = t.val
def Txt0.obsG (t : Txt0) (n : Nat) (g : Addr → Option Obj) : AlC := t.obs (He.frG g (He.asD g n))
def Txt0.hook (t : Txt0) (n : Nat) : PySem.W.Hook where
  α := AlC
  obs := fun s => t.obsG n s.heap.get?
  val := fun _ => t.val
  says := fun _ h => ∃ K : PySem.W.Frag, K.In h ∧ t.says K
  of := fun _ _ e => ⟨_, He.frG_in, e⟩
  keeps := fun _ _ _ ⟨K, hK, c⟩ k => ⟨K, PySem.W.Frag.In.keeps hK k, c⟩
/-- the same, the objects told by their places -/
def Txt0.obsL (t : Txt0) (as : List Addr) (g : Addr → Option Obj) : AlC := t.obs (He.frG g as)
def Txt0.hookL (t : Txt0) (as : List Addr) : PySem.W.Hook where
  α := AlC
  obs := fun s => t.obsL as s.heap.get?
  val := fun _ => t.val
  says := fun _ h => ∃ K : PySem.W.Frag, K.In h ∧ t.says K
  of := fun _ _ e => ⟨_, He.frG_in, e⟩
  keeps := fun _ _ _ ⟨K, hK, c⟩ k => ⟨K, PySem.W.Frag.In.keeps hK k, c⟩
theorem Txt0.obsL_eq {t : Txt0} {as : List Addr} {g : Addr → Option Obj} {s : Shared} (h : ∀ a, g a = s.heap.get? a) : t.obsL as g = (t.hookL as).obs s := by
  have e : g = s.heap.get? := funext h
  subst e
  rfl
theorem Txt0.obsG_eq {t : Txt0} {n : Nat} {g : Addr → Option Obj} {s : Shared} (h : ∀ a, g a = s.heap.get? a) : t.obsG n g = (t.hook n).obs s := by
  have e : g = s.heap.get? := funext h
  subst e
  rfl
section
variable {t : Txt0} {K : PySem.W.Frag}
theorem Txt0.says.parts (c : t.says K) : t.cl.all (csB t.cl K) = true ∧ t.gl.all (glB K) = true ∧ t.blt.all (fun x => (He.Fa.free x).ok K) = true ∧ t.es.all (fun e => goodF K e.d (e.ad.at_ K)) = true ∧ t.es.all (fun e => match e.ad with
  | .glo x => (He.Fa.glo x).ok K
  | _ => true) = true ∧ t.dd.all (fun l => l.all (Dd.ok K)) = true := by
  have h : t.b K = true := congrArg (fun z : AlC => z.1) c
  unfold Txt0.b at h
  obtain ⟨h1, h⟩ := and3 h
  obtain ⟨h2, h⟩ := and3 h
  obtain ⟨h3, h⟩ := and3 h
  obtain ⟨h4, h⟩ := and3 h
  obtain ⟨h5, h6⟩ := and3 h
  exact ⟨h1, h2, h3, h4, h5, h6⟩
theorem Txt0.says.def_ (c : t.says K) {e : Ent} (he : e ∈ t.es) : ∃ fd, FunD K e.d.name e.d.qual e.d.params e.d.body e.d.scope (e.d.dvs K) (e.d.kws K) (e.ad.at_ K) fd := by
  have h : (t.es.map fun e => seenF K (e.ad.at_ K)) = t.es.map fun e => e.d.val := congrArg (fun z : AlC => z.2) c
  obtain ⟨i, hi⟩ := List.mem_iff_getElem?.mp he
  have h2 : (t.es.map fun e => seenF K (e.ad.at_ K))[i]? = (t.es.map fun e => e.d.val)[i]? := by rw [h]
  rw [List.getElem?_map, List.getElem?_map, hi] at h2
  exact goodF_ok (Option.some.inj h2) (List.all_eq_true.mp c.parts.2.2.2.1 e he)
end
theorem lookup_mem {α β : Type} [BEq α] [LawfulBEq α] {x : α} {n : β} : ∀ {l : List (α × β)}, l.lookup x = some n → (x, n) ∈ l
  | [], h => by cases h
  | (y, m) :: r, h => by
    rw [List.lookup_cons] at h
    split at h
    · rename_i c
      cases h
      rw [eq_of_beq c]
      exact .head _
    · exact .tail _ (lookup_mem h)
/-- the class facts -/
structure CsOk (cl : List Cs) (K : PySem.W.Frag) (c : Cs) : Prop where
  glo : (He.Fa.glo c.x).ok K = true
  cls : Cls K (He.ga K c.x)
  no : ∀ f ∈ c.fs, NoAttr K (He.ga K c.x) f
  nd : c.fs.Nodup
  few : c.fs.length < 1000
  mkr : Mk K (He.ga K c.x) (He.ma K (He.ga K c.x) "__init__")
  ty : ∀ (H : Hp) (a dx : Addr) (fs : List (Str × V)), H a = some (.ins (He.ga K c.x) dx fs) → TyX K H (.ref a) (.ref (He.ga K c.x))
  n1 : ∀ T ∈ tyNames, PySem.W.kitOne K (.ref (He.ga K c.x)) (.type T) = some false
  n2 : ∀ T ∈ tyNames, PySem.W.kitOne K (.type T) (.ref (He.ga K c.x)) = some false
  own : ∀ d ∈ cl, PySem.W.kitOne K (.ref (He.ga K c.x)) (.ref (He.ga K d.x)) = some (d.x == c.x)
  ms : ∀ m ∈ c.ms, Meth K (He.ga K c.x) m (He.ma K (He.ga K c.x) m) ∧ m ∉ c.fs
  ps : ∀ m ∈ c.ps, PropOf K (He.ga K c.x) m (He.ma K (He.ga K c.x) m) ((Ad.prp c.x m).at_ K)
  cms : ∀ m ∈ c.cms, ClX.CRead K (He.ga K c.x) (.type "type") ∧ ClX.CMet K (He.ga K c.x) (.type "type") m (He.ma K (He.ga K c.x) m) ((Ad.cm c.x m).at_ K)
theorem csB_ok {cl : List Cs} {K : PySem.W.Frag} {c : Cs} (h : csB cl K c = true) : CsOk cl K c := by
  unfold csB at h
  obtain ⟨h1, h⟩ := and3 h
  obtain ⟨h2, h⟩ := and3 h
  obtain ⟨h3, h⟩ := and3 h
  obtain ⟨h4, h⟩ := and3 h
  obtain ⟨h5, h⟩ := and3 h
  obtain ⟨h6, h⟩ := and3 h
  obtain ⟨h7, h⟩ := and3 h
  obtain ⟨h8, h⟩ := and3 h
  obtain ⟨h9, h⟩ := and3 h
  obtain ⟨h10, h⟩ := and3 h
  obtain ⟨h11, h12⟩ := and3 h
  unfold instB at h7
  obtain ⟨i1, i⟩ := and3 h7
  obtain ⟨i2, i⟩ := and3 i
  obtain ⟨i3, i4⟩ := and3 i
  have cc := He.cls_ok h2
  refine ⟨h1, cc, fun f hf => He.noat_ok (List.all_eq_true.mp h3 f hf), of_decide_eq_true h4, of_decide_eq_true h5, He.mkr_ok h6, fun H a dx fs e => .base (.ins e cc (He.eqO_ok i1) (He.eqO_ok i2) (of_decide_eq_true i3) (of_decide_eq_true i4)), fun T hT => ?_, fun T hT => ?_, fun d hd => of_decide_eq_true (List.all_eq_true.mp h9 d hd), fun m hm => ?_, fun m hm => propB_ok (List.all_eq_true.mp h11 m hm), fun m hm => cmB_ok (List.all_eq_true.mp h12 m hm)⟩
  · exact of_decide_eq_true (and3 (List.all_eq_true.mp h8 T hT)).1
  · exact of_decide_eq_true (and3 (List.all_eq_true.mp h8 T hT)).2
  · obtain ⟨z1, z2⟩ := and3 (List.all_eq_true.mp h10 m hm)
    exact ⟨He.meth_ok z1, by simpa using no_of z2⟩
theorem wkC_at {cl : List Cs} {K : PySem.W.Frag} {n : Nat} (h : n ∈ (wkC cl K).cs) : ∃ c, cl[n]? = some c ∧ c ∈ cl ∧ (wkC cl K).ca n = He.ga K c.x ∧ (wkC cl K).cf n = c.fs := by
  have hn : n < cl.length := List.mem_range.mp h
  have e : cl[n]? = some cl[n] := List.getElem?_eq_getElem hn
  refine ⟨cl[n], e, List.getElem_mem hn, ?_, ?_⟩
  · show (match cl[n]? with | some c => He.ga K c.x | none => 0) = _
    rw [e]
  · show (match cl[n]? with | some c => c.fs | none => []) = _
    rw [e]
theorem clsD_of {cl : List Cs} {K : PySem.W.Frag} {n : Nat} {c : Cs} (h : cl[n]? = some c) (ok : CsOk cl K c) : ClsD (wkC cl K) n := by
  have hn : n ∈ (wkC cl K).cs := List.mem_range.mpr (lt_of_get h)
  obtain ⟨c', e1, _, e2, e3⟩ := wkC_at (K := K) hn
  rw [h] at e1
  cases e1
  exact ⟨hn, by rw [e2]; exact ok.cls, fun f hf => by rw [e2]; rw [e3] at hf; exact ok.no f hf, by rw [e3]; exact ok.nd, by rw [e3]; exact ok.few⟩
theorem kit_of_cs {cl : List Cs} {K : PySem.W.Frag} (ok : ∀ c ∈ cl, CsOk cl K c) (nd : (cl.map (·.x)).Nodup) : KitO (wkC cl K) := by
  refine ⟨fun H a dx n fs hn e => ?_, fun n hn T hT => ?_, fun n hn T hT => ?_, fun n hn m hm => ?_⟩
  · obtain ⟨c, _, h1, h2, _⟩ := wkC_at hn
    rw [h2] at e ⊢
    exact (ok c h1).ty H a dx fs e
  · obtain ⟨c, _, h1, h2, _⟩ := wkC_at hn
    rw [h2]
    exact (ok c h1).n1 T hT
  · obtain ⟨c, _, h1, h2, _⟩ := wkC_at hn
    rw [h2]
    exact (ok c h1).n2 T hT
  · obtain ⟨c, e1, h1, h2, _⟩ := wkC_at hn
    obtain ⟨d, e2, g1, g2, _⟩ := wkC_at hm
    rw [h2, g2]
    refine ((ok c h1).own d g1).trans ?_
    congr 1
    have i1 : (cl.map (·.x))[n]? = some c.x := by rw [List.getElem?_map, e1]; rfl
    have i2 : (cl.map (·.x))[m]? = some d.x := by rw [List.getElem?_map, e2]; rfl
    by_cases c1 : m = n
    · subst c1
      rw [e1] at e2
      cases e2
      simp
    · have : d.x ≠ c.x := fun z => c1 (by
        obtain ⟨a1, a2⟩ := List.getElem?_eq_some_iff.mp i1
        obtain ⟨b1, b2⟩ := List.getElem?_eq_some_iff.mp i2
        exact (List.getElem_inj nd).mp (b2.trans (z.trans a2.symm)))
      rw [beq_eq_false_iff_ne.mpr this, beq_eq_false_iff_ne.mpr c1]
/-- the Setup of a program -/
theorem setup_of {K : PySem.W.Frag} {mg : Str → Option Value} {h : Heap} {T : Tab} {g : GE} {t : Txt0} (X : K.In h) (G : h.Ns mainGlobals mg) (c : t.says K) (nd : (t.es.map (·.f)).Nodup) (ndc : (t.cl.map (·.x)).Nodup)
    (hfns : ∀ p ∈ g.fns, ∃ e ∈ t.es, e.f = p.2 ∧ e.ad = .glo p.1) (hblt : g.blt = t.blt) (hglb : ∀ p ∈ g.glb, ∃ d, T.glb p.2 = some d ∧ (p.1, d) ∈ t.gl)
    (hfd : ∀ e ∈ t.es, ∀ K, (∃ fd, FunD K e.d.name e.d.qual e.d.params e.d.body e.d.scope (e.d.dvs K) (e.d.kws K) (e.ad.at_ K) fd) → ∃ fd, FunD K e.d.name e.d.qual e.d.params e.d.body e.d.scope (e.d.dvs K) (e.d.kws K) (e.ad.at_ K) fd ∧ ∀ (n : Nat) (ks : List Str) (pm : List PM), (e.f, n, ks, pm) ∈ g.shp → Shp K fd e.ps n ks pm (e.d.dvs K))
    (hsc : ∀ e ∈ t.es, scopeB e.N e.ps e.d.scope = true) (hdf : ∀ e ∈ t.es, T.df e.f = some e.df ∧ e.df.ns = e.N.length ∧ e.ps.length = e.df.sg.np) (hck : ∀ e ∈ t.es, chkB g ⟨e.N, e.d.scope, none⟩ e.df.sg.fresh e.df.body e.d.body = true)
    (hfr : ∀ e ∈ t.es, e.df.sg.fresh = g.frs.contains e.f) (hdv : ∀ e ∈ t.es, ∃ l ∈ [] :: t.dd, e.df.sg.dfl = l.map Dd.d ∧ e.d.dfl = l.map Dd.dv)
    (hcls : ∀ p ∈ g.cls, ∃ c, t.cl[p.2]? = some c ∧ c.x = p.1) (hcfs : ∀ p ∈ g.cfs, ∃ c, t.cl[p.1]? = some c ∧ c.fs = p.2) (hcfn : (g.cfs.map (·.1)).Nodup)
    (hmth : ∀ p ∈ g.mth, ∃ e ∈ t.es, e.f = p.2 ∧ ∃ c, t.cl[p.1.1]? = some c ∧ p.1.2 ∈ c.ms ∧ e.ad = .met c.x p.1.2)
    (hprp : ∀ p ∈ g.prp, ∃ e ∈ t.es, e.f = p.2 ∧ ∃ c, t.cl[p.1.1]? = some c ∧ p.1.2 ∈ c.ps ∧ e.ad = .prp c.x p.1.2)
    (hini : ∀ p ∈ g.ini, ∃ e ∈ t.es, e.f = p.2.2 ∧ g.frs.contains e.f = false ∧ ∃ c, t.cl[p.2.1]? = some c ∧ c.x = p.1 ∧ e.ad = .met c.x "__init__")
    (hcmt : ∀ p ∈ g.cmt, ∃ e ∈ t.es, e.f = p.2 ∧ ∃ c, t.cl[p.1.1]? = some c ∧ p.1.2 ∈ c.cms ∧ e.ad = .cm c.x p.1.2) : ∃ fdOf, Setup (wkC t.cl K) mg T g t.es fdOf := by
  obtain ⟨c1, c2, c3, c4, c5, c6⟩ := c.parts
  have ok : ∀ cc ∈ t.cl, CsOk t.cl K cc := fun cc hc => csB_ok (List.all_eq_true.mp c1 cc hc)
  have cn : ∀ {n : Nat} {cc : Cs}, t.cl[n]? = some cc → n ∈ (wkC t.cl K).cs ∧ (wkC t.cl K).ca n = He.ga K cc.x ∧ (wkC t.cl K).cf n = cc.fs ∧ CsOk t.cl K cc := fun {n cc} e => by
    have hn : n ∈ (wkC t.cl K).cs := List.mem_range.mpr (lt_of_get e)
    obtain ⟨c', e1, e4, e2, e3⟩ := wkC_at (K := K) hn
    rw [e] at e1
    cases e1
    exact ⟨hn, e2, e3, ok _ e4⟩
  obtain ⟨fdOf, hp⟩ := pickFd (Pr := fun e fd => FunD K e.d.name e.d.qual e.d.params e.d.body e.d.scope (e.d.dvs K) (e.d.kws K) (e.ad.at_ K) fd ∧ ∀ (n : Nat) (ks : List Str) (pm : List PM), (e.f, n, ks, pm) ∈ g.shp → Shp K fd e.ps n ks pm (e.d.dvs K)) nd fun e he => hfd e he K (c.def_ he)
  refine ⟨fdOf, fun e he => (hp e he).1, fun e he => scopeB_ok (hsc e he), hdf, hck, hfr, fun e he G => ?_, fun e he => (hp e he).2, fun x f hx => ?_, fun x hx => ?_, fun x n hx => ?_, kit_of_cs ok ndc, fun x n hx => ?_, fun n j f hx => ?_, fun n m f hx => ?_, fun n m f hx => ?_, fun x n f hx => ?_, fun n m f hx => ?_⟩
  · obtain ⟨l, hl, z1, z2⟩ := hdv e he
    have hl2 : l.all (Dd.ok K) = true := by
      rcases List.mem_cons.mp hl with rfl | hl
      · rfl
      · exact List.all_eq_true.mp c6 l hl
    rw [z1]
    show DRs _ G _ (He.DefD.dvs K e.d)
    unfold He.DefD.dvs
    rw [z2]
    exact dd_dr rfl G hl2
  · obtain ⟨e, he, e1, e2⟩ := hfns _ (lookup_mem hx)
    refine ⟨e, he, e1, ?_, (hp e he).1.kp⟩
    have z := List.all_eq_true.mp c5 e he
    rw [e2] at z
    have z2 := He.glo_ok X G z
    show mg x = some (.ref (e.ad.at_ K))
    rw [e2]
    exact z2
  · rw [hblt] at hx
    exact He.free_ok X G (List.all_eq_true.mp c3 x hx)
  · obtain ⟨d, e1, e2⟩ := hglb _ (lookup_mem hx)
    obtain ⟨v, u, h1, h2, h3⟩ := glB_ok (cl := t.cl) X G (List.all_eq_true.mp c2 _ e2)
    exact ⟨d, v, u, e1, h1, h2, h3⟩
  · obtain ⟨cc, e1, e2⟩ := hcls _ (lookup_mem hx)
    obtain ⟨h1, h2, _, h4⟩ := cn e1
    refine ⟨h1, ?_⟩
    rw [h2]
    have z := He.glo_ok X G h4.glo
    rw [e2] at z ⊢
    exact z
  · cases q : g.cfs.lookup n with
    | none => rw [q] at hx; cases hx
    | some fs =>
      rw [q] at hx
      obtain ⟨cc, e1, e2⟩ := hcfs _ (lookup_mem q)
      obtain ⟨h1, h2, h3, h4⟩ := cn e1
      refine ⟨clsD_of e1 h4, ?_⟩
      rw [h3, e2]
      exact hx
  · obtain ⟨e, he, e1, cc, e2, e3, e4⟩ := hmth _ (lookup_mem hx)
    obtain ⟨h1, h2, h3, h4⟩ := cn e2
    refine ⟨e, he, e1, clsD_of e2 h4, by rw [h3]; exact (h4.ms m e3).2, ?_⟩
    rw [h2, e4]
    exact (h4.ms m e3).1
  · obtain ⟨e, he, e1, cc, e2, e3, e4⟩ := hprp _ (lookup_mem hx)
    obtain ⟨h1, h2, h3, h4⟩ := cn e2
    refine ⟨e, he, e1, He.ma K (He.ga K cc.x) m, clsD_of e2 h4, ?_⟩
    rw [h2, e4]
    exact h4.ps m e3
  · obtain ⟨e, he, e1, e5, cc, e2, e3, e4⟩ := hini _ (lookup_mem hx)
    obtain ⟨h1, h2, h3, h4⟩ := cn e2
    have z := He.glo_ok X G h4.glo
    refine ⟨e, he, e1, h1, ?_, ?_, by rw [← (show e.f = f from e1)]; exact e5⟩
    · rw [h2]
      rw [e3] at z ⊢
      exact z
    · rw [h2, e4]
      exact h4.mkr
  · obtain ⟨e, he, e1, cc, e2, e3, e4⟩ := hcmt _ (lookup_mem hx)
    obtain ⟨h1, h2, h3, h4⟩ := cn e2
    refine ⟨e, he, e1, .type "type", He.ma K (He.ga K cc.x) m, ?_, ?_⟩
    · rw [h2]
      exact (h4.cms m e3).1
    · rw [h2, e4]
      exact (h4.cms m e3).2
/-- the law by the core -/
theorem law_of {P : Program} {w : World} {k : Wk} {mg : Str → Option Value} {T : Tab} {g : GE} {es : List Ent} {fdOf : Nat → FuncData} {e : Ent} {fa : Addr} {x : Str} {N m : Nat} (S : Setup k mg T g es fdOf) (he : e ∈ es) (hps : e.ps = [x]) (hat : mg e.d.name = some (.ref fa)) (hfn : g.fns.lookup e.d.name = some e.f) (hu : ∀ e' ∈ es, e'.f = e.f → e' = e)
    (hsh : (e.f, 1, [], [PM.a 0]) ∈ g.shp) (hsg : e.df.sg.np = 1 ∧ e.df.sg.bor = [] ∧ e.df.sg.fresh = false)
    (plain : ∀ ns : List Int, ns.length ≤ m → (∀ z ∈ ns, Builtin.Int.intBits z ≤ 1048576) → ∃ outs, callN T N e.f [.scr ns] = .ok (.bl true) outs) :
    ∃ (fd : FuncData) (sp : Sp), (∀ (s : Shared) (u : Value), k.K.In s.heap → BindsTo s fd ⟨[u], []⟩ [(x, u)]) ∧
        (∀ (H : Hp) (a : Addr) (ns : List Int), ns.length ≤ m → (∀ z ∈ ns, Builtin.Int.intBits z ≤ 1048576) → Only H → SqL k.K H a (ns.map V.int) → sp [.ref a] H (fun v _ => v = .bl true) fun _ _ _ => False) ∧
        ∀ base : Heap, FnG P w k.K mg base (2 * N) fa fd [x] sp := by
  refine ⟨fdOf e.f, spD k (callN T N) e.f e.df.sg, fun s u hK => ?_, fun H a ns h1 h2 _ hS => ?_, fun base => ?_⟩
  · obtain ⟨its, _, hb⟩ := (S.sh e he 1 [] [.a 0] hsh).ex
    have z := hb s [u] [] hK rfl rfl
    rw [hps] at z
    exact z
  · obtain ⟨outs, hc⟩ := plain ns h1 h2
    exact law_sp hsg.1 hsg.2.1 hsg.2.2 hS hc
  · obtain ⟨e2, he2, ef, m1, m2⟩ := S.nm _ _ hfn
    have z := hu e2 he2 ef
    subst z
    rw [hat] at m1
    cases m1
    have z := S.fn (P := P) (w := w) (base := base) N e2 he
    rw [hps] at z
    exact z
end DL

set_option Elab.async false
set_option linter.all false
set_option maxRecDepth 100000
set_option maxHeartbeats 4000000
namespace DL.Pl
open PySem L2
/-! ## Plain runs: what a run ends with -/
def W0 {α : Type} (r : R α) (Q : α → Slots → Prop) : Prop := match r with
  | .ok a s => Q a s
  | _ => False
def O0 {α : Type} (x : Option α) (Q : α → Prop) : Prop := match x with
  | some a => Q a
  | none => False
def WF0 (r : RF) (Q : D → List D → Prop) : Prop := match r with
  | .ok a s => Q a s
  | _ => False
def Br0 (b : Bool) (P Q : Prop) : Prop := if b then P else Q
@[reducible] def Tag {α : Sort u} (Q : α) : Type := Unit
/-- the same, the rest hidden from simp -/
@[irreducible] def W {α : Type} (r : R α) (Q : α → Slots → Prop) (t : Tag Q := ()) : Prop := W0 r Q
@[irreducible] def O {α : Type} (x : Option α) (Q : α → Prop) (t : Tag Q := ()) : Prop := O0 x Q
@[irreducible] def WF (r : RF) (Q : D → List D → Prop) (t : Tag Q := ()) : Prop := WF0 r Q
@[irreducible] def Br (b : Bool) (P Q : Prop) (t : Tag P := ()) (t2 : Tag Q := ()) : Prop := Br0 b P Q
section
variable {α β : Type}
theorem W0_ok {a : α} {s : Slots} {Q : α → Slots → Prop} : W0 (.ok a s) Q = Q a s := rfl
theorem W0_bad {Q : α → Slots → Prop} : W0 .bad Q = False := rfl
theorem O0_some {a : α} {Q : α → Prop} : O0 (some a) Q = Q a := rfl
theorem O0_none {Q : α → Prop} : O0 none Q = False := rfl
theorem O0_if {c : Prop} [Decidable c] {x : Option α} {Q : α → Prop} : O0 (if c then x else none) Q = (c ∧ O0 x Q) := by
  by_cases h : c <;> simp [h, W0, O0]
theorem O0_map {f : α → β} {x : Option α} {Q : β → Prop} : O0 (x.map f) Q = O0 x fun a => Q (f a) := by cases x <;> rfl
theorem WF0_ok {a : D} {s : List D} {Q : D → List D → Prop} : WF0 (.ok a s) Q = Q a s := rfl
theorem Br0_t {P Q : Prop} : Br0 true P Q = P := rfl
theorem Br0_f {P Q : Prop} : Br0 false P Q = Q := rfl
theorem Br0.mk {b : Bool} {P Q : Prop} (h1 : b = true → P) (h2 : b = false → Q) : Br0 b P Q := by
  cases b
  · exact h2 rfl
  · exact h1 rfl
theorem O0.ex {x : Option α} {Q : α → Prop} (h : O0 x Q) : ∃ a, x = some a ∧ Q a := by
  cases x with
  | none => exact h.elim
  | some a => exact ⟨a, rfl, h⟩
theorem W0.ex {x : R α} {Q : α → Slots → Prop} (h : W0 x Q) : ∃ a s, x = .ok a s ∧ Q a s := by
  cases x with
  | ok a s => exact ⟨a, s, rfl, h⟩
  | exc => exact h.elim
  | bad => exact h.elim
theorem WF0.ex {x : RF} {Q : D → List D → Prop} (h : WF0 x Q) : ∃ a s, x = .ok a s ∧ Q a s := by
  cases x with
  | ok a s => exact ⟨a, s, rfl, h⟩
  | exc => exact h.elim
  | bad => exact h.elim
theorem W0.mono {x : R α} {Q Q' : α → Slots → Prop} (h : W0 x Q) (m : ∀ a s, Q a s → Q' a s) : W0 x Q' := by
  cases x with
  | ok a s => exact m a s h
  | exc => exact h.elim
  | bad => exact h.elim
theorem WF0.mono {x : RF} {Q Q' : D → List D → Prop} (h : WF0 x Q) (m : ∀ a s, Q a s → Q' a s) : WF0 x Q' := by
  cases x with
  | ok a s => exact m a s h
  | exc => exact h.elim
  | bad => exact h.elim
theorem W0_bind {r : R α} {f : α → Slots → R β} {Q : β → Slots → Prop} : W0 (r.bind f) Q = W0 r fun a s => W0 (f a s) Q := by
  cases r <;> rfl
theorem W0_optR {x : Option α} {f : α → R β} {Q : β → Slots → Prop} : W0 (optR x f) Q = O0 x fun a => W0 (f a) Q := by
  cases x <;> rfl
theorem W0_opt {x : Option Slots} {f : Slots → R α} {Q : α → Slots → Prop} : W0 (opt x f) Q = O0 x fun a => W0 (f a) Q := by
  cases x <;> rfl
theorem W0_if {c : Prop} [Decidable c] {x : R α} {Q : α → Slots → Prop} : W0 (if c then x else .bad) Q = (c ∧ W0 x Q) := by
  by_cases h : c <;> simp [h, W0, O0]
theorem W0_toB {r : R D} {Q : Bool → Slots → Prop} : W0 (toB r) Q = W0 r fun d s => (match d with | .bl b => Q b s | _ => False) := by
  cases r with
  | ok d s => cases d <;> rfl
  | exc => rfl
  | bad => rfl
end
def frAt (s : Slots) (i : Nat) : Option D := match s[i]? with
  | some (.fr d) => some d
  | _ => none
def fzAt (s : Slots) (i : Nat) : Option (D × Slots) := match s[i]? with
  | some (.fr d) => some (d, s)
  | some (.ow d) => some (d, s.set i (.fr d))
  | _ => none
section
variable {pg : Pg} {cl : CallH} {s : Slots} {Q : D → Slots → Prop}
theorem W0_var {i : Nat} : W0 (runE pg cl (.var i) s) Q = O0 (frAt s i) fun d => Q d s := by
  simp only [runE, frAt]
  cases s[i]? with
  | none => rfl
  | some x => cases x <;> rfl
theorem W0_fz {i : Nat} : W0 (runE pg cl (.fz i) s) Q = O0 (fzAt s i) fun d => Q d.1 d.2 := by
  simp only [runE, fzAt]
  cases s[i]? with
  | none => rfl
  | some x => cases x <;> rfl
theorem W0_cst {d : D} : W0 (runE pg cl (.cst d) s) Q = Q d s := by simp only [runE, W0_ok]
theorem W0_glb {k : Nat} : W0 (runE pg cl (.glb k) s) Q = O0 (pg.glb k) fun d => Q d s := by
  simp only [runE]
  cases pg.glb k <;> rfl
theorem W0_tup {l : CL} : W0 (runE pg cl (.tup l) s) Q = W0 (runL pg cl l s) fun ds s1 => ds.length ≤ szl ∧ Q (.tup ds) s1 := by
  simp only [runE, W0_bind, W0_if, W0_ok]
theorem W0_lst {l : CL} : W0 (runE pg cl (.lst l) s) Q = W0 (runL pg cl l s) fun ds s1 => ds.length ≤ szl ∧ Q (.lst ds) s1 := by
  simp only [runE, W0_bind, W0_if, W0_ok]
theorem W0_prim {p : Pr} {l : CO} : W0 (runE pg cl (.prim p l) s) Q = W0 (runO pg cl l s) fun os s1 => O0 (solve s1 os) fun ds => O0 (runP p ds) fun d => Q d s1 := by
  simp only [runE, W0_bind]
  congr
  funext os s1
  cases solve s1 os with
  | none => rfl
  | some ds =>
    show W0 (match runP p ds with | some d => R.ok d s1 | none => .bad) Q = O0 (runP p ds) _
    cases runP p ds <;> rfl
def ch (x : Option D) (P : Bool → Prop) : Prop := O0 x fun d => match d with
  | .bl b => P b
  | _ => False
theorem W0_chain {p q : Pr} {a b c : CE} : W0 (runE pg cl (.chain p q a b c) s) Q = W0 (runE pg cl a s) fun x s1 => W0 (runE pg cl b s1) fun y s2 => O0 (runP p [x, y]) fun d => match d with | .bl t => Br0 t (W0 (runE pg cl c s2) fun z s3 => O0 (runP q [y, z]) fun d => Q d s3) (Q (.bl false) s2) | _ => False := by
  simp only [runE, W0_bind]
  congr
  funext x s1
  congr
  funext y s2
  cases e : runP p [x, y] with
  | none => rfl
  | some d =>
    cases d with
    | bl t =>
      cases t with
      | true =>
        simp only [W0_bind, O0_some, Br0_t]
        congr
        funext z s3
        cases runP q [y, z] <;> rfl
      | false => rfl
    | _ => rfl
theorem W0_and {a b : CE} : W0 (runE pg cl (.and a b) s) Q = W0 (toB (runE pg cl a s)) fun x s1 => Br0 x (W0 (runE pg cl b s1) Q) (Q (.bl false) s1) := by
  simp only [runE, W0_bind]
  congr
  funext x s1
  cases x <;> rfl
theorem W0_or {a b : CE} : W0 (runE pg cl (.or a b) s) Q = W0 (toB (runE pg cl a s)) fun x s1 => Br0 x (Q (.bl true) s1) (W0 (runE pg cl b s1) Q) := by
  simp only [runE, W0_bind]
  congr
  funext x s1
  cases x <;> rfl
theorem W0_not {a : CE} : W0 (runE pg cl (.not a) s) Q = W0 (toB (runE pg cl a s)) fun x s1 => Q (.bl (!x)) s1 := by
  simp only [runE, W0_bind, W0_ok]
theorem W0_ite {t a b : CE} : W0 (runE pg cl (.ite t a b) s) Q = W0 (toB (runE pg cl t s)) fun x s1 => Br0 x (W0 (runE pg cl a s1) Q) (W0 (runE pg cl b s1) Q) := by
  simp only [runE, W0_bind]
  congr
  funext x s1
  cases x <;> rfl
theorem W0_call {f : Nat} {pm : List PM} {l lk : CA} : W0 (runE pg cl (.call f pm l lk) s) Q = W0 (runA pg cl l s) fun xs s1 => W0 (runA pg cl lk s1) fun zs s2 => W0 (doCall cl pg.sig f pm (xs ++ zs) s2) Q := by
  simp only [runE, W0_bind]
theorem W0_doCall {g : Nat → Option Sig} {f : Nat} {pm : List PM} {xs : List AV} : W0 (doCall cl g f pm xs s) Q = O0 (g f) fun sg => lendOk sg xs pm = true ∧ O0 (argsOf s xs sg.dfl pm) fun ds => WF0 (cl f ds) fun d outs => O0 (giveBack xs pm outs s) fun s' => Q d s' := by
  unfold doCall
  cases g f with
  | none => rfl
  | some sg =>
    simp only [O0_some]
    cases h : lendOk sg xs pm with
    | false => simp [W0]
    | true =>
      simp only [if_true, true_and]
      cases argsOf s xs sg.dfl pm with
      | none => rfl
      | some ds =>
        simp only [O0_some]
        cases cl f ds with
        | ok d outs =>
          simp only [WF0_ok]
          cases giveBack xs pm outs s <;> rfl
        | exc c fs outs =>
          show W0 (match giveBack xs pm outs s with | some s' => R.exc c fs s' | none => .bad) Q = _
          cases giveBack xs pm outs s <;> rfl
        | bad => rfl
theorem W0_noX {α : Type} {r : R α} {Q : α → Slots → Prop} : W0 (noX r) Q = W0 r Q := by cases r <;> rfl
theorem W0_mc {c f : Nat} {pm : List PM} {o : CE} {l lk : CA} : W0 (runE pg cl (.mc c f pm o l lk) s) Q = W0 (runE pg cl o s) fun d s1 => isObj c d = true ∧ W0 (runA pg cl l s1) fun xs s2 => W0 (runA pg cl lk s2) fun zs s3 => W0 (doCall cl pg.sig f pm (.v d :: (xs ++ zs)) s3) Q := by
  simp only [runE, W0_bind, W0_if]
theorem W0_pc {c f : Nat} {o : CE} : W0 (runE pg cl (.pc c f o) s) Q = W0 (runE pg cl o s) fun d s1 => isObj c d = true ∧ W0 (doCall cl pg.sig f [.a 0] [.v d] s1) Q := by
  simp only [runE, W0_bind, W0_if, W0_noX]
theorem W0_new {c f : Nat} {pm : List PM} {l lk : CA} : W0 (runE pg cl (.new c f pm l lk) s) Q = W0 (runA pg cl l s) fun xs s1 => W0 (runA pg cl lk s1) fun zs s2 => W0 (doNew cl pg.sig c f pm (xs ++ zs) s2) Q := by
  simp only [runE, W0_bind]
theorem W0_toS {q : StK} {r : R D} : W0 (toS q r) Q = W0 r fun d s1 => q.ok d = true ∧ Q d s1 := by
  cases r with
  | ok d s =>
    show W0 (if q.ok d then R.ok d s else .bad) Q = (q.ok d = true ∧ Q d s)
    cases e : q.ok d <;> simp [W0]
  | exc c fs s => rfl
  | bad => rfl
theorem W0_st {q : StK} {c f : Nat} {o : CE} : W0 (runE pg cl (.st q c f o) s) Q = W0 (runE pg cl o s) fun d s1 => isObj c d = true ∧ W0 (doCall cl pg.sig f [.a 0] [.v d] s1) fun d s1 => q.ok d = true ∧ Q d s1 := by
  have e : W0 (runE pg cl (.st q c f o) s) Q = W0 (runE pg cl (.pc c f o) s) fun d s1 => q.ok d = true ∧ Q d s1 := by
    rw [← W0_toS]
    congr 1
    simp only [runE]
    cases runE pg cl o s with
    | ok d s1 =>
      simp only [R.bind]
      split <;> rfl
    | exc c fs s => rfl
    | bad => rfl
  rw [e, W0_pc]
theorem W0_cm {c f : Nat} {pm : List PM} {l lk : CA} : W0 (runE pg cl (.cm c f pm l lk) s) Q = W0 (runA pg cl l s) fun xs s1 => W0 (runA pg cl lk s1) fun zs s2 => W0 (doCall cl pg.sig f pm (.v (.cls c) :: (xs ++ zs)) s2) Q := by
  simp only [runE, W0_bind]
theorem W0_newV {i c f : Nat} {pm : List PM} {l lk : CA} : W0 (runE pg cl (.newV i c f pm l lk) s) Q = (isClsAt s i c = true ∧ W0 (runA pg cl l s) fun xs s1 => W0 (runA pg cl lk s1) fun zs s2 => W0 (doNew cl pg.sig c f pm (xs ++ zs) s2) Q) := by
  simp only [runE]
  split
  · rename_i h
    simp only [W0_bind, h, true_and]
  · rename_i h
    simp [h, W0]
theorem W0_doNew {g : Nat → Option Sig} {c f : Nat} {pm : List PM} {xs : List AV} : W0 (doNew cl g c f pm xs s) Q = O0 (g f) fun sg => lendOk sg (.t (.obj c []) :: xs) (.a 0 :: pm) = true ∧ O0 (argsOf s (.t (.obj c []) :: xs) sg.dfl (.a 0 :: pm)) fun ds => WF0 (cl f ds) fun d outs => match d, outs with | .non, x :: r => O0 (giveBack (.t (.obj c []) :: xs) (.a 0 :: pm) (x :: r) s) fun s' => Q x s' | _, _ => False := by
  unfold doNew
  cases g f with
  | none => rfl
  | some sg =>
    simp only [O0_some]
    cases h : lendOk sg (.t (.obj c []) :: xs) (.a 0 :: pm) with
    | false => simp [W0]
    | true =>
      simp only [if_true, true_and]
      cases argsOf s (.t (.obj c []) :: xs) sg.dfl (.a 0 :: pm) with
      | none => rfl
      | some ds =>
        simp only [O0_some]
        cases cl f ds with
        | ok d outs =>
          simp only [WF0_ok]
          cases outs with
          | nil => cases d <;> rfl
          | cons x r =>
            cases d with
            | non =>
              simp only []
              cases giveBack (.t (.obj c []) :: xs) (.a 0 :: pm) (x :: r) s <;> rfl
            | _ => rfl
        | exc c2 fs outs =>
          show W0 (match giveBack (.t (.obj c []) :: xs) (.a 0 :: pm) outs s with | some s' => R.exc c2 fs s' | none => .bad) Q = _
          cases giveBack (.t (.obj c []) :: xs) (.a 0 :: pm) outs s <;> rfl
        | bad => rfl
theorem W0_pop {i : Nat} {c : CE} : W0 (runE pg cl (.pop i c) s) Q = (isOL s i = true ∧ W0 (runE pg cl c s) fun d s1 => W0 (popD i d s1) Q) := by
  simp only [runE, W0_if, W0_bind]
theorem W0_compEnd {own : List Nat} {s1 : Slots} {r : R (List D)} {Q : D → Slots → Prop} : W0 (compEnd own s1 r) Q = W0 r fun acc s2 => Q (.lst acc) (back own s1 s2) := by
  cases r <;> rfl
theorem W0_comp {own : List Nat} {e c : CE} {t : CT} {it : CI} : W0 (runE pg cl (.comp own e (.g t it c)) s) Q = W0 (runI pg cl it s) fun xs s1 => O0 (wipeP own s1) fun s0 => W0 (compL (putT t) (fun s => toB (runE pg cl c s)) (runE pg cl e) own xs s0 []) fun acc s2 => Q (.lst acc) (back own s1 s2) := by
  simp only [runE, W0_bind, W0_optR, W0_compEnd]
theorem W0_comp2 {own own1 : List Nat} {e c c1 : CE} {t t1 : CT} {it it1 : CI} : W0 (runE pg cl (.comp2 own own1 e (.g t it c) (.g t1 it1 c1)) s) Q = W0 (runI pg cl it s) fun xs s1 => O0 (wipeP own s1) fun s0 => W0 (compL2 (putT t) (fun s => toB (runE pg cl c s)) (fun s2 acc => (runI pg cl it1 s2).bind fun ys s3 => optR (wipeP own1 s3) fun s4 => compL (putT t1) (fun s => toB (runE pg cl c1 s)) (runE pg cl e) own1 ys s4 acc) own xs s0 []) fun acc s2 => Q (.lst acc) (back own s1 s2) := by
  simp only [runE, W0_bind, W0_optR, W0_compEnd]
end
section
variable {pg : Pg} {cl : CallH} {s : Slots}
theorem W0_Lnil {Q : List D → Slots → Prop} : W0 (runL pg cl .nil s) Q = Q [] s := by simp only [runL, W0_ok]
theorem W0_Lcons {c : CE} {r : CL} {Q : List D → Slots → Prop} : W0 (runL pg cl (.cons c r) s) Q = W0 (runE pg cl c s) fun d s1 => W0 (runL pg cl r s1) fun ds s2 => Q (d :: ds) s2 := by simp only [runL, W0_ok, W0_bind]
theorem W0_Lstar {c : CE} {r : CL} {Q : List D → Slots → Prop} : W0 (runL pg cl (.star c r) s) Q = W0 (runE pg cl c s) fun d s1 => match d with | .lst l => W0 (runL pg cl r s1) fun ds s2 => Q (l ++ ds) s2 | .tup l => W0 (runL pg cl r s1) fun ds s2 => Q (l ++ ds) s2 | _ => False := by
  simp only [runL, W0_bind]
  congr
  funext d s1
  cases d <;> first | rfl | simp only [W0_bind, W0_ok]
theorem W0_Onil {Q : List OV → Slots → Prop} : W0 (runO pg cl .nil s) Q = Q [] s := by simp only [runO, W0_ok]
theorem W0_Ocons {c : CP} {r : CO} {Q : List OV → Slots → Prop} : W0 (runO pg cl (.cons c r) s) Q = W0 (runOV pg cl c s) fun d s1 => W0 (runO pg cl r s1) fun ds s2 => Q (d :: ds) s2 := by simp only [runO, W0_ok, W0_bind]
theorem W0_val {c : CE} {Q : OV → Slots → Prop} : W0 (runOV pg cl (.val c) s) Q = W0 (runE pg cl c s) fun d s1 => Q (.d d) s1 := by simp only [runOV, W0_ok, W0_bind]
theorem W0_pk {i : Nat} {Q : OV → Slots → Prop} : W0 (runOV pg cl (.pk i) s) Q = O0 (seen s i) fun _ => Q (.s i) s := by
  simp only [runOV]
  cases seen s i <;> rfl
theorem W0_ival {c : CE} {Q : OV → Slots → Prop} : W0 (runOV pg cl (.ival c) s) Q = W0 (runE pg cl c s) fun d s1 => match d with | .int i => Q (.d (.int i)) s1 | _ => False := by
  simp only [runOV, W0_bind]
  congr
  funext d s1
  cases d <;> rfl
theorem W0_sval {c : CE} {Q : OV → Slots → Prop} : W0 (runOV pg cl (.sval c) s) Q = W0 (runE pg cl c s) fun d s1 => match d with | .str i => Q (.d (.str i)) s1 | _ => False := by
  simp only [runOV, W0_bind]
  congr
  funext d s1
  cases d <;> rfl
theorem W0_Anil {Q : List AV → Slots → Prop} : W0 (runA pg cl .nil s) Q = Q [] s := by simp only [runA, W0_ok]
theorem W0_Aval {c : CE} {r : CA} {Q : List AV → Slots → Prop} : W0 (runA pg cl (.val c r) s) Q = W0 (runE pg cl c s) fun d s1 => W0 (runA pg cl r s1) fun ds s2 => Q (.v d :: ds) s2 := by simp only [runA, W0_ok, W0_bind]
theorem W0_Abor {i : Nat} {r : CA} {Q : List AV → Slots → Prop} : W0 (runA pg cl (.bor i r) s) Q = O0 (ownD s i) fun _ => W0 (runA pg cl r s) fun ds s2 => Q (.b i :: ds) s2 := by
  simp only [runA]
  cases ownD s i with
  | none => rfl
  | some d => simp only [W0_bind, W0_ok, O0_some]
theorem W0_Atmp {c : CE} {r : CA} {Q : List AV → Slots → Prop} : W0 (runA pg cl (.tmp c r) s) Q = W0 (runE pg cl c s) fun d s1 => W0 (runA pg cl r s1) fun ds s2 => Q (.t d :: ds) s2 := by simp only [runA, W0_ok, W0_bind]
theorem W0_Iseq {c : CE} {Q : List D → Slots → Prop} : W0 (runI pg cl (.seq c) s) Q = W0 (runE pg cl c s) fun d s1 => O0 (items d) fun xs => Q xs s1 := by simp only [runI, W0_bind, W0_optR, W0_ok]
theorem W0_Irng {l : CL} {Q : List D → Slots → Prop} : W0 (runI pg cl (.rng l) s) Q = W0 (runL pg cl l s) fun d s1 => O0 (rngI d) fun xs => Q xs s1 := by simp only [runI, W0_bind, W0_optR, W0_ok]
theorem W0_Ienum {l : CL} {Q : List D → Slots → Prop} : W0 (runI pg cl (.enum l) s) Q = W0 (runL pg cl l s) fun d s1 => O0 (enumI d) fun xs => Q xs s1 := by simp only [runI, W0_bind, W0_optR, W0_ok]
theorem W0_Izip {l : CL} {Q : List D → Slots → Prop} : W0 (runI pg cl (.zip l) s) Q = W0 (runL pg cl l s) fun d s1 => O0 (zipI d) fun xs => Q xs s1 := by simp only [runI, W0_bind, W0_optR, W0_ok]
end
section
variable {pg : Pg} {cl : CallH} {wl : Nat} {s : Slots} {Q : Flow → Slots → Prop}
theorem W0_asg {i : Nat} {c : CE} : W0 (runS pg cl wl (.asg i c) s) Q = W0 (runE pg cl c s) fun d s1 => O0 (putN i d s1) fun s2 => Q .nx s2 := by simp only [runS, W0_bind, W0_opt, W0_ok]
theorem W0_asgO {i : Nat} {c : CE} : W0 (runS pg cl wl (.asgO i c) s) Q = W0 (runE pg cl c s) fun d s1 => O0 (putO i d s1) fun s2 => Q .nx s2 := by simp only [runS, W0_bind, W0_opt, W0_ok]
theorem W0_asgT {t : CT} {c : CE} : W0 (runS pg cl wl (.asgT t c) s) Q = W0 (runE pg cl c s) fun d s1 => O0 (putT t d s1) fun s2 => Q .nx s2 := by simp only [runS, W0_bind, W0_opt, W0_ok]
theorem W0_par {l : List (Nat × Bool)} {c : CL} : W0 (runS pg cl wl (.par l c) s) Q = W0 (runL pg cl c s) fun ds s1 => O0 (putPar l ds s1) fun s2 => Q .nx s2 := by simp only [runS, W0_bind, W0_opt, W0_ok]
theorem W0_setI {i : Nat} {x v : CE} : W0 (runS pg cl wl (.setI i x v) s) Q = W0 (runE pg cl v s) fun d s1 => isOL s1 i = true ∧ W0 (runE pg cl x s1) fun k s2 => O0 (chg i (setD k d) s2) fun s3 => Q .nx s3 := by simp only [runS, W0_bind, W0_opt, W0_ok, W0_if]
theorem W0_setN {i j : Nat} {x v : CE} : W0 (runS pg cl wl (.setN i x j v) s) Q = W0 (runE pg cl v s) fun d s1 => O0 (pairD d) fun de => isOL s1 i = true ∧ W0 (runE pg cl x s1) fun k s2 => O0 (chg i (setD k de.1) s2) fun s3 => O0 (putN j de.2 s3) fun s4 => Q .nx s4 := by simp only [runS, W0_bind, W0_opt, W0_optR, W0_ok, W0_if]
theorem W0_app {i : Nat} {c : CE} : W0 (runS pg cl wl (.app i c) s) Q = (isOL s i = true ∧ W0 (runE pg cl c s) fun d s1 => O0 (chg i (appD d) s1) fun s2 => Q .nx s2) := by simp only [runS, W0_bind, W0_opt, W0_ok, W0_if]
theorem W0_ext {i : Nat} {c : CE} : W0 (runS pg cl wl (.ext i c) s) Q = (isOL s i = true ∧ W0 (runE pg cl c s) fun d s1 => O0 (chg i (extD d) s1) fun s2 => Q .nx s2) := by simp only [runS, W0_bind, W0_opt, W0_ok, W0_if]
theorem W0_setF {i n j : Nat} {c : CE} : W0 (runS pg cl wl (.setF i n j c) s) Q = W0 (runE pg cl c s) fun d s1 => O0 (chg i (setFD n j d) s1) fun s2 => Q .nx s2 := by simp only [runS, W0_bind, W0_opt, W0_ok]
theorem W0_exp {c : CE} : W0 (runS pg cl wl (.exp c) s) Q = W0 (runE pg cl c s) fun _ s1 => Q .nx s1 := by simp only [runS, W0_bind, W0_ok]
theorem W0_ret {c : CE} : W0 (runS pg cl wl (.ret c) s) Q = W0 (runE pg cl c s) fun d s1 => Q (.rt d) s1 := by simp only [runS, W0_bind, W0_ok]
theorem W0_retF {c : CE} : W0 (runS pg cl wl (.retF c) s) Q = W0 (runE pg cl c s) fun d s1 => Q (.rt d) s1 := by simp only [runS, W0_bind, W0_ok]
def owAt (s : Slots) (i : Nat) : Option D := match s[i]? with
  | some (.ow d) => some d
  | _ => none
theorem W0_retM {i : Nat} : W0 (runS pg cl wl (.retM i) s) Q = O0 (owAt s i) fun d => Q (.rt d) (s.set i .no) := by
  simp only [runS, owAt]
  cases s[i]? with
  | none => rfl
  | some x => cases x <;> rfl
theorem W0_retN : W0 (runS pg cl wl .retN s) Q = Q (.rt .non) s := by simp only [runS, W0_ok]
theorem W0_pass : W0 (runS pg cl wl .pass s) Q = Q .nx s := by simp only [runS, W0_ok]
theorem W0_tryT {b : CB} : W0 (runS pg cl wl (.tryT b) s) Q = W0 (runB pg cl wl b s) Q := by
  simp only [runS]
  cases runB pg cl wl b s <;> rfl
theorem W0_site {c : CE} {a b : CB} : W0 (runS pg cl wl (.ite c a b) s) Q = W0 (toB (runE pg cl c s)) fun x s1 => Br0 x (W0 (runB pg cl wl a s1) Q) (W0 (runB pg cl wl b s1) Q) := by
  simp only [runS, W0_bind]
  congr
  funext x s1
  cases x <;> rfl
theorem W0_for {t : CT} {it : CI} {b : CB} : W0 (runS pg cl wl (.for_ t it b) s) Q = W0 (runI pg cl it s) fun xs s1 => W0 (forL (runB pg cl wl b) (putT t) xs s1) Q := by simp only [runS, W0_bind]
theorem W0_whl {c : CE} {b : CB} : W0 (runS pg cl wl (.whl c b) s) Q = W0 (whileL (fun s => toB (runE pg cl c s)) (runB pg cl wl b) wl s) Q := by simp only [runS]
theorem W0_Bnil : W0 (runB pg cl wl .nil s) Q = Q .nx s := by simp only [runB, W0_ok]
theorem W0_Bcons {a : CS} {b : CB} : W0 (runB pg cl wl (.cons a b) s) Q = W0 (runS pg cl wl a s) fun fl s1 => match fl with | .nx => W0 (runB pg cl wl b s1) Q | fl => Q fl s1 := by
  simp only [runB]
  cases runS pg cl wl a s with
  | ok fl s1 => cases fl <;> rfl
  | exc => rfl
  | bad => rfl
end
/-! ## loops -/
theorem W0_forL {body : Slots → R Flow} {put : D → Slots → Option Slots} {Q : Flow → Slots → Prop} (Inv : List D → Slots → Prop)
    (step : ∀ x xs s, Inv (x :: xs) s → O0 (put x s) fun s1 => W0 (body s1) fun fl s2 => match fl with | .nx => Inv xs s2 | .ct => Inv xs s2 | .bk => Q .nx s2 | .rt d => Q (.rt d) s2)
    (fin : ∀ s, Inv [] s → Q .nx s) : ∀ xs s, Inv xs s → W0 (forL body put xs s) Q
  | [], s, h => fin s h
  | x :: xs, s, h => by
    obtain ⟨s1, e1, h1⟩ := (show O0 (put x s) _ from step x xs s h).ex
    obtain ⟨fl, s2, e2, h2⟩ := (show W0 (body s1) _ from h1).ex
    simp only [forL, e1, e2]
    cases fl with
    | nx => exact W0_forL Inv step fin xs s2 h2
    | ct => exact W0_forL Inv step fin xs s2 h2
    | bk => exact h2
    | rt d => exact h2
theorem W0_whileL {test : Slots → R Bool} {body : Slots → R Flow} {Q : Flow → Slots → Prop} (Inv : Nat → Slots → Prop)
    (step : ∀ m s, Inv m s → W0 (test s) fun b s1 => Br0 b (W0 (body s1) fun fl s2 => match fl with | .nx => ∃ m' < m, Inv m' s2 | .ct => ∃ m' < m, Inv m' s2 | .bk => Q .nx s2 | .rt d => Q (.rt d) s2) (Q .nx s1)) :
    ∀ n m s, m < n → Inv m s → W0 (whileL test body n s) Q
  | 0, m, s, hn, h => by omega
  | n + 1, m, s, hn, h => by
    obtain ⟨b, s1, e1, h1⟩ := (show W0 (test s) _ from step m s h).ex
    simp only [whileL, e1]
    cases b with
    | false => exact h1
    | true =>
      obtain ⟨fl, s2, e2, h2⟩ := (show W0 (body s1) _ from h1).ex
      simp only [e2]
      cases fl with
      | nx =>
        obtain ⟨m', l, h3⟩ := h2
        exact W0_whileL Inv step n m' s2 (by omega) h3
      | ct =>
        obtain ⟨m', l, h3⟩ := h2
        exact W0_whileL Inv step n m' s2 (by omega) h3
      | bk => exact h2
      | rt d => exact h2
theorem W0_compL {put : D → Slots → Option Slots} {test : Slots → R Bool} {val : Slots → R D} {own : List Nat} {Q : List D → Slots → Prop} (Inv : List D → List D → Slots → Prop)
    (step : ∀ x xs acc s, Inv (x :: xs) acc s → O0 (put x s) fun s1 => W0 (test s1) fun b s2 => Br0 b (W0 (val s2) fun d s3 => acc.length < szl ∧ O0 (wipeP own s3) fun s4 => Inv xs (acc ++ [d]) s4) (O0 (wipeP own s2) fun s4 => Inv xs acc s4))
    (fin : ∀ acc s, Inv [] acc s → Q acc s) : ∀ xs acc s, Inv xs acc s → W0 (compL put test val own xs s acc) Q
  | [], acc, s, h => fin acc s h
  | x :: xs, acc, s, h => by
    obtain ⟨s1, e1, h1⟩ := (show O0 (put x s) _ from step x xs acc s h).ex
    obtain ⟨b, s2, e2, h2⟩ := (show W0 (test s1) _ from h1).ex
    simp only [compL, e1, optR, e2, R.bind]
    cases b with
    | false =>
      obtain ⟨s4, e4, h4⟩ := (show O0 (wipeP own s2) _ from h2).ex
      simp only [e4]
      exact W0_compL Inv step fin xs acc s4 h4
    | true =>
      obtain ⟨d, s3, e3, h3, h4⟩ := (show W0 (val s2) _ from h2).ex
      obtain ⟨s4, e4, h4⟩ := (show O0 (wipeP own s3) _ from h4).ex
      simp only [e3, e4, h3, if_true]
      exact W0_compL Inv step fin xs (acc ++ [d]) s4 h4
theorem W0_compL2 {put : D → Slots → Option Slots} {test : Slots → R Bool} {inner : Slots → List D → R (List D)} {own : List Nat} {Q : List D → Slots → Prop} (Inv : List D → List D → Slots → Prop)
    (step : ∀ x xs acc s, Inv (x :: xs) acc s → O0 (put x s) fun s1 => W0 (test s1) fun b s2 => Br0 b (W0 (inner s2 acc) fun acc' s3 => O0 (wipeP own s3) fun s4 => Inv xs acc' s4) (O0 (wipeP own s2) fun s4 => Inv xs acc s4))
    (fin : ∀ acc s, Inv [] acc s → Q acc s) : ∀ xs acc s, Inv xs acc s → W0 (compL2 put test inner own xs s acc) Q
  | [], acc, s, h => fin acc s h
  | x :: xs, acc, s, h => by
    obtain ⟨s1, e1, h1⟩ := (show O0 (put x s) _ from step x xs acc s h).ex
    obtain ⟨b, s2, e2, h2⟩ := (show W0 (test s1) _ from h1).ex
    simp only [compL2, e1, optR, e2, R.bind]
    cases b with
    | false =>
      obtain ⟨s4, e4, h4⟩ := (show O0 (wipeP own s2) _ from h2).ex
      simp only [e4]
      exact W0_compL2 Inv step fin xs acc s4 h4
    | true =>
      obtain ⟨d, s3, e3, h3⟩ := (show W0 (inner s2 acc) _ from h2).ex
      obtain ⟨s4, e4, h4⟩ := (show O0 (wipeP own s3) _ from h3).ex
      simp only [e3, e4, if_true]
      exact W0_compL2 Inv step fin xs d s4 h4
/-- a def by its body -/
theorem WF0_def {T : Tab} {n f : Nat} {ds : List D} {d : Df} {Q : D → List D → Prop} (hT : T.df f = some d) (hl : ds.length = d.sg.np)
    (h : W0 (runB T.pg (callN T n) wlim d.body (init d.sg d.ns ds)) fun fl s => match fl with | .nx => d.sg.fresh = false ∧ Q .non (outsOf d.sg s ds) | .rt x => Q x (outsOf d.sg s ds) | _ => False) : WF0 (callN T (n + 1) f ds) Q := by
  simp only [callN, hT, hl, if_true]
  obtain ⟨fl, s, e, h⟩ := (show W0 (runB T.pg (callN T n) wlim d.body (init d.sg d.ns ds)) _ from h).ex
  rw [e]
  cases fl with
  | nx =>
    obtain ⟨h1, h2⟩ := h
    simp only [finish, h1]
    exact h2
  | rt x => exact h
  | bk => exact h.elim
  | ct => exact h.elim
section
variable {α β : Type}
@[simp] theorem W_ok {a : α} {s : Slots} {Q : α → Slots → Prop} : W (.ok a s) Q = Q a s := by
  delta W
  exact W0_ok
@[simp] theorem W_bad {Q : α → Slots → Prop} : W .bad Q = False := by
  delta W
  exact W0_bad
@[simp] theorem O_some {a : α} {Q : α → Prop} : O (some a) Q = Q a := by
  delta O
  exact O0_some
@[simp] theorem O_none {Q : α → Prop} : O none Q = False := by
  delta O
  exact O0_none
@[simp] theorem O_if {c : Prop} [Decidable c] {x : Option α} {Q : α → Prop} : O (if c then x else none) Q = (c ∧ O x Q) := by
  delta O
  exact O0_if
@[simp] theorem O_map {f : α → β} {x : Option α} {Q : β → Prop} : O (x.map f) Q = O x fun a => Q (f a) := by
  delta O
  exact O0_map
@[simp] theorem WF_ok {a : D} {s : List D} {Q : D → List D → Prop} : WF (.ok a s) Q = Q a s := by
  delta WF
  exact WF0_ok
@[simp] theorem Br_t {P Q : Prop} : Br true P Q = P := by
  delta Br
  exact Br0_t
@[simp] theorem Br_f {P Q : Prop} : Br false P Q = Q := by
  delta Br
  exact Br0_f
theorem Br.mk {b : Bool} {P Q : Prop} (h1 : b = true → P) (h2 : b = false → Q) : Br b P Q := by
  delta Br
  exact Br0.mk h1 h2
theorem O.ex {x : Option α} {Q : α → Prop} (h : O x Q) : ∃ a, x = some a ∧ Q a := by
  delta O at h
  exact O0.ex h
theorem W.ex {x : R α} {Q : α → Slots → Prop} (h : W x Q) : ∃ a s, x = .ok a s ∧ Q a s := by
  delta W at h
  exact W0.ex h
theorem WF.ex {x : RF} {Q : D → List D → Prop} (h : WF x Q) : ∃ a s, x = .ok a s ∧ Q a s := by
  delta WF at h
  exact WF0.ex h
theorem W.mono {x : R α} {Q Q' : α → Slots → Prop} (h : W x Q) (m : ∀ a s, Q a s → Q' a s) : W x Q' := by
  delta W at h ⊢
  exact W0.mono h m
theorem WF.mono {x : RF} {Q Q' : D → List D → Prop} (h : WF x Q) (m : ∀ a s, Q a s → Q' a s) : WF x Q' := by
  delta WF at h ⊢
  exact WF0.mono h m
@[simp] theorem W_bind {r : R α} {f : α → Slots → R β} {Q : β → Slots → Prop} : W (r.bind f) Q = W r fun a s => W (f a s) Q := by
  delta W
  exact W0_bind
@[simp] theorem W_optR {x : Option α} {f : α → R β} {Q : β → Slots → Prop} : W (optR x f) Q = O x fun a => W (f a) Q := by
  delta W O
  exact W0_optR
@[simp] theorem W_opt {x : Option Slots} {f : Slots → R α} {Q : α → Slots → Prop} : W (opt x f) Q = O x fun a => W (f a) Q := by
  delta W O
  exact W0_opt
@[simp] theorem W_if {c : Prop} [Decidable c] {x : R α} {Q : α → Slots → Prop} : W (if c then x else .bad) Q = (c ∧ W x Q) := by
  delta W
  exact W0_if
@[simp] theorem W_toB {r : R D} {Q : Bool → Slots → Prop} : W (toB r) Q = W r fun d s => (match d with | .bl b => Q b s | _ => False) := by
  delta W
  exact W0_toB
end
section
variable {pg : Pg} {cl : CallH} {s : Slots} {Q : D → Slots → Prop}
@[simp] theorem W_var {i : Nat} : W (runE pg cl (.var i) s) Q = O (frAt s i) fun d => Q d s := by
  delta W O
  exact W0_var
@[simp] theorem W_fz {i : Nat} : W (runE pg cl (.fz i) s) Q = O (fzAt s i) fun d => Q d.1 d.2 := by
  delta W O
  exact W0_fz
@[simp] theorem W_cst {d : D} : W (runE pg cl (.cst d) s) Q = Q d s := by
  delta W
  exact W0_cst
@[simp] theorem W_glb {k : Nat} : W (runE pg cl (.glb k) s) Q = O (pg.glb k) fun d => Q d s := by
  delta W O
  exact W0_glb
@[simp] theorem W_tup {l : CL} : W (runE pg cl (.tup l) s) Q = W (runL pg cl l s) fun ds s1 => ds.length ≤ szl ∧ Q (.tup ds) s1 := by
  delta W
  exact W0_tup
@[simp] theorem W_lst {l : CL} : W (runE pg cl (.lst l) s) Q = W (runL pg cl l s) fun ds s1 => ds.length ≤ szl ∧ Q (.lst ds) s1 := by
  delta W
  exact W0_lst
@[simp] theorem W_prim {p : Pr} {l : CO} : W (runE pg cl (.prim p l) s) Q = W (runO pg cl l s) fun os s1 => O (solve s1 os) fun ds => O (runP p ds) fun d => Q d s1 := by
  delta W O
  exact W0_prim
@[simp] theorem W_chain {p q : Pr} {a b c : CE} : W (runE pg cl (.chain p q a b c) s) Q = W (runE pg cl a s) fun x s1 => W (runE pg cl b s1) fun y s2 => O (runP p [x, y]) fun d => match d with | .bl t => Br t (W (runE pg cl c s2) fun z s3 => O (runP q [y, z]) fun d => Q d s3) (Q (.bl false) s2) | _ => False := by
  delta W O Br
  exact W0_chain
@[simp] theorem W_and {a b : CE} : W (runE pg cl (.and a b) s) Q = W (toB (runE pg cl a s)) fun x s1 => Br x (W (runE pg cl b s1) Q) (Q (.bl false) s1) := by
  delta W Br
  exact W0_and
@[simp] theorem W_or {a b : CE} : W (runE pg cl (.or a b) s) Q = W (toB (runE pg cl a s)) fun x s1 => Br x (Q (.bl true) s1) (W (runE pg cl b s1) Q) := by
  delta W Br
  exact W0_or
@[simp] theorem W_not {a : CE} : W (runE pg cl (.not a) s) Q = W (toB (runE pg cl a s)) fun x s1 => Q (.bl (!x)) s1 := by
  delta W
  exact W0_not
@[simp] theorem W_ite {t a b : CE} : W (runE pg cl (.ite t a b) s) Q = W (toB (runE pg cl t s)) fun x s1 => Br x (W (runE pg cl a s1) Q) (W (runE pg cl b s1) Q) := by
  delta W Br
  exact W0_ite
@[simp] theorem W_call {f : Nat} {pm : List PM} {l lk : CA} : W (runE pg cl (.call f pm l lk) s) Q = W (runA pg cl l s) fun xs s1 => W (runA pg cl lk s1) fun zs s2 => W (doCall cl pg.sig f pm (xs ++ zs) s2) Q := by
  delta W
  exact W0_call
@[simp] theorem W_doCall {g : Nat → Option Sig} {f : Nat} {pm : List PM} {xs : List AV} : W (doCall cl g f pm xs s) Q = O (g f) fun sg => lendOk sg xs pm = true ∧ O (argsOf s xs sg.dfl pm) fun ds => WF (cl f ds) fun d outs => O (giveBack xs pm outs s) fun s' => Q d s' := by
  delta WF W O
  exact W0_doCall
@[simp] theorem W_mc {c f : Nat} {pm : List PM} {o : CE} {l lk : CA} : W (runE pg cl (.mc c f pm o l lk) s) Q = W (runE pg cl o s) fun d s1 => isObj c d = true ∧ W (runA pg cl l s1) fun xs s2 => W (runA pg cl lk s2) fun zs s3 => W (doCall cl pg.sig f pm (.v d :: (xs ++ zs)) s3) Q := by
  delta W
  exact W0_mc
@[simp] theorem W_pc {c f : Nat} {o : CE} : W (runE pg cl (.pc c f o) s) Q = W (runE pg cl o s) fun d s1 => isObj c d = true ∧ W (doCall cl pg.sig f [.a 0] [.v d] s1) Q := by
  delta W
  exact W0_pc
@[simp] theorem W_new {c f : Nat} {pm : List PM} {l lk : CA} : W (runE pg cl (.new c f pm l lk) s) Q = W (runA pg cl l s) fun xs s1 => W (runA pg cl lk s1) fun zs s2 => W (doNew cl pg.sig c f pm (xs ++ zs) s2) Q := by
  delta W
  exact W0_new
@[simp] theorem W_st {q : StK} {c f : Nat} {o : CE} : W (runE pg cl (.st q c f o) s) Q = W (runE pg cl o s) fun d s1 => isObj c d = true ∧ W (doCall cl pg.sig f [.a 0] [.v d] s1) fun d s1 => q.ok d = true ∧ Q d s1 := by
  delta W
  exact W0_st
@[simp] theorem W_cm {c f : Nat} {pm : List PM} {l lk : CA} : W (runE pg cl (.cm c f pm l lk) s) Q = W (runA pg cl l s) fun xs s1 => W (runA pg cl lk s1) fun zs s2 => W (doCall cl pg.sig f pm (.v (.cls c) :: (xs ++ zs)) s2) Q := by
  delta W
  exact W0_cm
@[simp] theorem W_newV {i c f : Nat} {pm : List PM} {l lk : CA} : W (runE pg cl (.newV i c f pm l lk) s) Q = (isClsAt s i c = true ∧ W (runA pg cl l s) fun xs s1 => W (runA pg cl lk s1) fun zs s2 => W (doNew cl pg.sig c f pm (xs ++ zs) s2) Q) := by
  delta W
  exact W0_newV
@[simp] theorem W_doNew {g : Nat → Option Sig} {c f : Nat} {pm : List PM} {xs : List AV} : W (doNew cl g c f pm xs s) Q = O (g f) fun sg => lendOk sg (.t (.obj c []) :: xs) (.a 0 :: pm) = true ∧ O (argsOf s (.t (.obj c []) :: xs) sg.dfl (.a 0 :: pm)) fun ds => WF (cl f ds) fun d outs => match d, outs with | .non, x :: r => O (giveBack (.t (.obj c []) :: xs) (.a 0 :: pm) (x :: r) s) fun s' => Q x s' | _, _ => False := by
  delta WF W O
  exact W0_doNew
@[simp] theorem W_pop {i : Nat} {c : CE} : W (runE pg cl (.pop i c) s) Q = (isOL s i = true ∧ W (runE pg cl c s) fun d s1 => W (popD i d s1) Q) := by
  delta W
  exact W0_pop
@[simp] theorem W_compEnd {own : List Nat} {s1 : Slots} {r : R (List D)} {Q : D → Slots → Prop} : W (compEnd own s1 r) Q = W r fun acc s2 => Q (.lst acc) (back own s1 s2) := by
  delta W
  exact W0_compEnd
@[simp] theorem W_comp {own : List Nat} {e c : CE} {t : CT} {it : CI} : W (runE pg cl (.comp own e (.g t it c)) s) Q = W (runI pg cl it s) fun xs s1 => O (wipeP own s1) fun s0 => W (compL (putT t) (fun s => toB (runE pg cl c s)) (runE pg cl e) own xs s0 []) fun acc s2 => Q (.lst acc) (back own s1 s2) := by
  delta W O
  exact W0_comp
@[simp] theorem W_comp2 {own own1 : List Nat} {e c c1 : CE} {t t1 : CT} {it it1 : CI} : W (runE pg cl (.comp2 own own1 e (.g t it c) (.g t1 it1 c1)) s) Q = W (runI pg cl it s) fun xs s1 => O (wipeP own s1) fun s0 => W (compL2 (putT t) (fun s => toB (runE pg cl c s)) (fun s2 acc => (runI pg cl it1 s2).bind fun ys s3 => optR (wipeP own1 s3) fun s4 => compL (putT t1) (fun s => toB (runE pg cl c1 s)) (runE pg cl e) own1 ys s4 acc) own xs s0 []) fun acc s2 => Q (.lst acc) (back own s1 s2) := by
  delta W O
  exact W0_comp2
end
section
variable {pg : Pg} {cl : CallH} {s : Slots}
@[simp] theorem W_Lnil {Q : List D → Slots → Prop} : W (runL pg cl .nil s) Q = Q [] s := by
  delta W
  exact W0_Lnil
@[simp] theorem W_Lcons {c : CE} {r : CL} {Q : List D → Slots → Prop} : W (runL pg cl (.cons c r) s) Q = W (runE pg cl c s) fun d s1 => W (runL pg cl r s1) fun ds s2 => Q (d :: ds) s2 := by
  delta W
  exact W0_Lcons
@[simp] theorem W_Lstar {c : CE} {r : CL} {Q : List D → Slots → Prop} : W (runL pg cl (.star c r) s) Q = W (runE pg cl c s) fun d s1 => match d with | .lst l => W (runL pg cl r s1) fun ds s2 => Q (l ++ ds) s2 | .tup l => W (runL pg cl r s1) fun ds s2 => Q (l ++ ds) s2 | _ => False := by
  delta W
  exact W0_Lstar
@[simp] theorem W_Onil {Q : List OV → Slots → Prop} : W (runO pg cl .nil s) Q = Q [] s := by
  delta W
  exact W0_Onil
@[simp] theorem W_Ocons {c : CP} {r : CO} {Q : List OV → Slots → Prop} : W (runO pg cl (.cons c r) s) Q = W (runOV pg cl c s) fun d s1 => W (runO pg cl r s1) fun ds s2 => Q (d :: ds) s2 := by
  delta W
  exact W0_Ocons
@[simp] theorem W_val {c : CE} {Q : OV → Slots → Prop} : W (runOV pg cl (.val c) s) Q = W (runE pg cl c s) fun d s1 => Q (.d d) s1 := by
  delta W
  exact W0_val
@[simp] theorem W_pk {i : Nat} {Q : OV → Slots → Prop} : W (runOV pg cl (.pk i) s) Q = O (seen s i) fun _ => Q (.s i) s := by
  delta W O
  exact W0_pk
@[simp] theorem W_ival {c : CE} {Q : OV → Slots → Prop} : W (runOV pg cl (.ival c) s) Q = W (runE pg cl c s) fun d s1 => match d with | .int i => Q (.d (.int i)) s1 | _ => False := by
  delta W
  exact W0_ival
@[simp] theorem W_sval {c : CE} {Q : OV → Slots → Prop} : W (runOV pg cl (.sval c) s) Q = W (runE pg cl c s) fun d s1 => match d with | .str i => Q (.d (.str i)) s1 | _ => False := by
  delta W
  exact W0_sval
@[simp] theorem W_Anil {Q : List AV → Slots → Prop} : W (runA pg cl .nil s) Q = Q [] s := by
  delta W
  exact W0_Anil
@[simp] theorem W_Aval {c : CE} {r : CA} {Q : List AV → Slots → Prop} : W (runA pg cl (.val c r) s) Q = W (runE pg cl c s) fun d s1 => W (runA pg cl r s1) fun ds s2 => Q (.v d :: ds) s2 := by
  delta W
  exact W0_Aval
@[simp] theorem W_Abor {i : Nat} {r : CA} {Q : List AV → Slots → Prop} : W (runA pg cl (.bor i r) s) Q = O (ownD s i) fun _ => W (runA pg cl r s) fun ds s2 => Q (.b i :: ds) s2 := by
  delta W O
  exact W0_Abor
@[simp] theorem W_Atmp {c : CE} {r : CA} {Q : List AV → Slots → Prop} : W (runA pg cl (.tmp c r) s) Q = W (runE pg cl c s) fun d s1 => W (runA pg cl r s1) fun ds s2 => Q (.t d :: ds) s2 := by
  delta W
  exact W0_Atmp
@[simp] theorem W_Iseq {c : CE} {Q : List D → Slots → Prop} : W (runI pg cl (.seq c) s) Q = W (runE pg cl c s) fun d s1 => O (items d) fun xs => Q xs s1 := by
  delta W O
  exact W0_Iseq
@[simp] theorem W_Irng {l : CL} {Q : List D → Slots → Prop} : W (runI pg cl (.rng l) s) Q = W (runL pg cl l s) fun d s1 => O (rngI d) fun xs => Q xs s1 := by
  delta W O
  exact W0_Irng
@[simp] theorem W_Ienum {l : CL} {Q : List D → Slots → Prop} : W (runI pg cl (.enum l) s) Q = W (runL pg cl l s) fun d s1 => O (enumI d) fun xs => Q xs s1 := by
  delta W O
  exact W0_Ienum
@[simp] theorem W_Izip {l : CL} {Q : List D → Slots → Prop} : W (runI pg cl (.zip l) s) Q = W (runL pg cl l s) fun d s1 => O (zipI d) fun xs => Q xs s1 := by
  delta W O
  exact W0_Izip
end
section
variable {pg : Pg} {cl : CallH} {wl : Nat} {s : Slots} {Q : Flow → Slots → Prop}
@[simp] theorem W_asg {i : Nat} {c : CE} : W (runS pg cl wl (.asg i c) s) Q = W (runE pg cl c s) fun d s1 => O (putN i d s1) fun s2 => Q .nx s2 := by
  delta W O
  exact W0_asg
@[simp] theorem W_asgO {i : Nat} {c : CE} : W (runS pg cl wl (.asgO i c) s) Q = W (runE pg cl c s) fun d s1 => O (putO i d s1) fun s2 => Q .nx s2 := by
  delta W O
  exact W0_asgO
@[simp] theorem W_asgT {t : CT} {c : CE} : W (runS pg cl wl (.asgT t c) s) Q = W (runE pg cl c s) fun d s1 => O (putT t d s1) fun s2 => Q .nx s2 := by
  delta W O
  exact W0_asgT
@[simp] theorem W_par {l : List (Nat × Bool)} {c : CL} : W (runS pg cl wl (.par l c) s) Q = W (runL pg cl c s) fun ds s1 => O (putPar l ds s1) fun s2 => Q .nx s2 := by
  delta W O
  exact W0_par
@[simp] theorem W_setI {i : Nat} {x v : CE} : W (runS pg cl wl (.setI i x v) s) Q = W (runE pg cl v s) fun d s1 => isOL s1 i = true ∧ W (runE pg cl x s1) fun k s2 => O (chg i (setD k d) s2) fun s3 => Q .nx s3 := by
  delta W O
  exact W0_setI
@[simp] theorem W_setN {i j : Nat} {x v : CE} : W (runS pg cl wl (.setN i x j v) s) Q = W (runE pg cl v s) fun d s1 => O (pairD d) fun de => isOL s1 i = true ∧ W (runE pg cl x s1) fun k s2 => O (chg i (setD k de.1) s2) fun s3 => O (putN j de.2 s3) fun s4 => Q .nx s4 := by
  delta W O
  exact W0_setN
@[simp] theorem W_app {i : Nat} {c : CE} : W (runS pg cl wl (.app i c) s) Q = (isOL s i = true ∧ W (runE pg cl c s) fun d s1 => O (chg i (appD d) s1) fun s2 => Q .nx s2) := by
  delta W O
  exact W0_app
@[simp] theorem W_ext {i : Nat} {c : CE} : W (runS pg cl wl (.ext i c) s) Q = (isOL s i = true ∧ W (runE pg cl c s) fun d s1 => O (chg i (extD d) s1) fun s2 => Q .nx s2) := by
  delta W O
  exact W0_ext
@[simp] theorem W_setF {i n j : Nat} {c : CE} : W (runS pg cl wl (.setF i n j c) s) Q = W (runE pg cl c s) fun d s1 => O (chg i (setFD n j d) s1) fun s2 => Q .nx s2 := by
  delta W O
  exact W0_setF
@[simp] theorem W_exp {c : CE} : W (runS pg cl wl (.exp c) s) Q = W (runE pg cl c s) fun _ s1 => Q .nx s1 := by
  delta W
  exact W0_exp
@[simp] theorem W_ret {c : CE} : W (runS pg cl wl (.ret c) s) Q = W (runE pg cl c s) fun d s1 => Q (.rt d) s1 := by
  delta W
  exact W0_ret
@[simp] theorem W_retF {c : CE} : W (runS pg cl wl (.retF c) s) Q = W (runE pg cl c s) fun d s1 => Q (.rt d) s1 := by
  delta W
  exact W0_retF
@[simp] theorem W_retM {i : Nat} : W (runS pg cl wl (.retM i) s) Q = O (owAt s i) fun d => Q (.rt d) (s.set i .no) := by
  delta W O
  exact W0_retM
@[simp] theorem W_retN : W (runS pg cl wl .retN s) Q = Q (.rt .non) s := by
  delta W
  exact W0_retN
@[simp] theorem W_tryT {b : CB} : W (runS pg cl wl (.tryT b) s) Q = W (runB pg cl wl b s) Q := by
  delta W
  exact W0_tryT
@[simp] theorem W_pass : W (runS pg cl wl .pass s) Q = Q .nx s := by
  delta W
  exact W0_pass
@[simp] theorem W_site {c : CE} {a b : CB} : W (runS pg cl wl (.ite c a b) s) Q = W (toB (runE pg cl c s)) fun x s1 => Br x (W (runB pg cl wl a s1) Q) (W (runB pg cl wl b s1) Q) := by
  delta W Br
  exact W0_site
@[simp] theorem W_for {t : CT} {it : CI} {b : CB} : W (runS pg cl wl (.for_ t it b) s) Q = W (runI pg cl it s) fun xs s1 => W (forL (runB pg cl wl b) (putT t) xs s1) Q := by
  delta W
  exact W0_for
@[simp] theorem W_whl {c : CE} {b : CB} : W (runS pg cl wl (.whl c b) s) Q = W (whileL (fun s => toB (runE pg cl c s)) (runB pg cl wl b) wl s) Q := by
  delta W
  exact W0_whl
@[simp] theorem W_Bnil : W (runB pg cl wl .nil s) Q = Q .nx s := by
  delta W
  exact W0_Bnil
@[simp] theorem W_Bcons {a : CS} {b : CB} : W (runB pg cl wl (.cons a b) s) Q = W (runS pg cl wl a s) fun fl s1 => match fl with | .nx => W (runB pg cl wl b s1) Q | fl => Q fl s1 := by
  delta W
  exact W0_Bcons
end
theorem W_forL {body : Slots → R Flow} {put : D → Slots → Option Slots} {Q : Flow → Slots → Prop} (Inv : List D → Slots → Prop)
    (step : ∀ x xs s, Inv (x :: xs) s → O (put x s) fun s1 => W (body s1) fun fl s2 => match fl with | .nx => Inv xs s2 | .ct => Inv xs s2 | .bk => Q .nx s2 | .rt d => Q (.rt d) s2)
    (fin : ∀ s, Inv [] s → Q .nx s) : ∀ xs s, Inv xs s → W (forL body put xs s) Q := by
  delta W O at step
  delta W
  exact W0_forL Inv step fin
theorem W_whileL {test : Slots → R Bool} {body : Slots → R Flow} {Q : Flow → Slots → Prop} (Inv : Nat → Slots → Prop)
    (step : ∀ m s, Inv m s → W (test s) fun b s1 => Br b (W (body s1) fun fl s2 => match fl with | .nx => ∃ m' < m, Inv m' s2 | .ct => ∃ m' < m, Inv m' s2 | .bk => Q .nx s2 | .rt d => Q (.rt d) s2) (Q .nx s1)) :
    ∀ n m s, m < n → Inv m s → W (whileL test body n s) Q := by
  delta W Br at step
  delta W
  exact W0_whileL Inv step
theorem W_compL {put : D → Slots → Option Slots} {test : Slots → R Bool} {val : Slots → R D} {own : List Nat} {Q : List D → Slots → Prop} (Inv : List D → List D → Slots → Prop)
    (step : ∀ x xs acc s, Inv (x :: xs) acc s → O (put x s) fun s1 => W (test s1) fun b s2 => Br b (W (val s2) fun d s3 => acc.length < szl ∧ O (wipeP own s3) fun s4 => Inv xs (acc ++ [d]) s4) (O (wipeP own s2) fun s4 => Inv xs acc s4))
    (fin : ∀ acc s, Inv [] acc s → Q acc s) : ∀ xs acc s, Inv xs acc s → W (compL put test val own xs s acc) Q := by
  delta W O Br at step
  delta W
  exact W0_compL Inv step fin
theorem W_compL2 {put : D → Slots → Option Slots} {test : Slots → R Bool} {inner : Slots → List D → R (List D)} {own : List Nat} {Q : List D → Slots → Prop} (Inv : List D → List D → Slots → Prop)
    (step : ∀ x xs acc s, Inv (x :: xs) acc s → O (put x s) fun s1 => W (test s1) fun b s2 => Br b (W (inner s2 acc) fun acc' s3 => O (wipeP own s3) fun s4 => Inv xs acc' s4) (O (wipeP own s2) fun s4 => Inv xs acc s4))
    (fin : ∀ acc s, Inv [] acc s → Q acc s) : ∀ xs acc s, Inv xs acc s → W (compL2 put test inner own xs s acc) Q := by
  delta W O Br at step
  delta W
  exact W0_compL2 Inv step fin
theorem WF_def {T : Tab} {n f : Nat} {ds : List D} {d : Df} {Q : D → List D → Prop} (hT : T.df f = some d) (hl : ds.length = d.sg.np)
    (h : W (runB T.pg (callN T n) wlim d.body (init d.sg d.ns ds)) fun fl s => match fl with | .nx => d.sg.fresh = false ∧ Q .non (outsOf d.sg s ds) | .rt x => Q x (outsOf d.sg s ds) | _ => False) : WF (callN T (n + 1) f ds) Q := by
  delta W at h
  delta WF
  exact WF0_def hT hl h
end DL.Pl

set_option Elab.async false
set_option linter.all false
set_option maxRecDepth 100000
set_option maxHeartbeats 4000000
namespace DL.Pl
open PySem L2
/-! ## plain data: ==, repr -/
mutual
/-- small numbers, texts, tuples and lists of them -/
def nice : D → Bool
  | .non => true
  | .bl _ => true
  | .int i => decide (i.natAbs < 10 ^ 47)
  | .str s => PyData.strOk s
  | .tup l => nices l
  | .lst l => nices l
  | _ => false
def nices : List D → Bool
  | [] => true
  | d :: r => nice d && nices r
end
mutual
def bk : D → Nat
  | .str s => s.cps.size
  | .tup l => bks l
  | .lst l => bks l
  | _ => 0
def bks : List D → Nat
  | [] => 0
  | d :: r => bk d + 1 + bks r
end
mutual
def dp : D → Nat
  | .tup l => dps l + 1
  | .lst l => dps l + 1
  | _ => 0
def dps : List D → Nat
  | [] => 0
  | d :: r => max (dp d) (dps r)
end
mutual
/-- no booleans within, no dicts -/
def pl : D → Bool
  | .non => true
  | .int _ => true
  | .str s => PyData.strOk s
  | .tup l => pls l
  | .lst l => pls l
  | _ => false
def pls : List D → Bool
  | [] => true
  | d :: r => pl d && pls r
end
theorem all_lt {x : Str} (h : PyData.strOk x = true) : ∀ c ∈ x.cps.toList, c < 16 ^ 8 := fun c hc => by
  unfold PyData.strOk at h
  rw [Array.all_eq_true_iff_forall_mem] at h
  have := h c (Array.mem_toList_iff.mp hc)
  have : c < 0x110000 := by simpa using this
  omega
mutual
theorem nice_py : ∀ d : D, nice d = true → ∃ p, d.toPy = some p ∧ p.showable = true ∧ p.hasDict = false ∧ p.leavesShort 48 = true ∧ p.bulk = bk d ∧ p.depth = dp d
  | .non, _ => ⟨.none, rfl, rfl, rfl, rfl, rfl, rfl⟩
  | .bl b, _ => ⟨.bool b, rfl, rfl, rfl, rfl, rfl, rfl⟩
  | .int i, h => by
    have h' : i.natAbs < 10 ^ 47 := by simpa [nice] using h
    refine ⟨.int i, rfl, ?_, rfl, ?_, rfl, rfl⟩
    · have : i.natAbs.log2 < 1920 := by
        rcases Nat.eq_zero_or_pos i.natAbs with z | z
        · rw [z]; decide
        · exact (Nat.log2_lt (by omega)).mpr (by have : (10 : Nat) ^ 47 < 2 ^ 1920 := by decide
                                                 omega)
      simpa [PyData.showable] using this
    · have e := int_text_length_le10 (a := i) (k := 47) (by decide) h'
      have e2 : (PyData.shown (.int i)).length = (toString i).length := ofString_length _
      simp only [PyData.leavesShort, decide_eq_true_eq, e2]
      exact e
  | .str s, h => by
    have h' : PyData.strOk s = true := by simpa [nice] using h
    refine ⟨.str s, rfl, rfl, rfl, ?_, rfl, rfl⟩
    simp only [PyData.leavesShort, List.all_eq_true, decide_eq_true_eq]
    exact all_lt h'
  | .tup l, h => by
    obtain ⟨ps, e, h1, h2, h3, h4, h5⟩ := nices_py l (by simpa [nice] using h)
    exact ⟨.tuple ps, by simp [D.toPy, e], by simpa [PyData.showable] using h1, by simpa [PyData.hasDict] using h2, by simpa [PyData.leavesShort] using h3, by simpa [PyData.bulk, bk] using h4, by simpa [PyData.depth, dp] using h5⟩
  | .lst l, h => by
    obtain ⟨ps, e, h1, h2, h3, h4, h5⟩ := nices_py l (by simpa [nice] using h)
    exact ⟨.list ps, by simp [D.toPy, e], by simpa [PyData.showable] using h1, by simpa [PyData.hasDict] using h2, by simpa [PyData.leavesShort] using h3, by simpa [PyData.bulk, bk] using h4, by simpa [PyData.depth, dp] using h5⟩
  | .dct _ _, h => by simp [nice] at h
  | .obj _ _, h => by simp [nice] at h
  | .scr _, h => by simp [nice] at h
theorem nices_py : ∀ l : List D, nices l = true → ∃ ps, toPys l = some ps ∧ PyData.showableAll ps = true ∧ PyData.hasDictAll ps = false ∧ PyData.leavesShortAll 48 ps = true ∧ PyData.bulkAll ps = bks l ∧ PyData.depthAll ps = dps l
  | [], _ => ⟨[], rfl, rfl, rfl, rfl, rfl, rfl⟩
  | d :: r, h => by
    obtain ⟨g1, g2⟩ : nice d = true ∧ nices r = true := by simpa [nices] using h
    obtain ⟨p, e, h1, h2, h3, h4, h5⟩ := nice_py d g1
    obtain ⟨ps, e', h1', h2', h3', h4', h5'⟩ := nices_py r g2
    exact ⟨p :: ps, by simp [toPys, e, e'], by simp [PyData.showableAll, h1, h1'], by simp [PyData.hasDictAll, h2, h2'], by simp [PyData.leavesShortAll, h3, h3'], by simp [PyData.bulkAll, bks, h4, h4'], by simp [PyData.depthAll, dps, h5, h5']⟩
end
def rpT (d : D) : Str := match d.toPy with
  | some p => p.shown
  | none => ""
theorem repr_ok {d : D} (h : nice d = true) (hb : bk d ≤ 300000) (hd : dp d ≤ 60) : reprP [d] = some (.str (rpT d)) := by
  obtain ⟨p, e, h1, h2, h3, h4, h5⟩ := nice_py d h
  have z := PyData.shown_le_bulk 48 (by decide) p h3
  have z2 : p.shown.length ≤ szl := by unfold szl; rw [h4] at z; omega
  simp only [reprP, e, h1, h2, rpT, z2, h5, hd, decide_true, Bool.not_false, Bool.and_true, if_true]
mutual
theorem pl_py : ∀ d : D, pl d = true → ∃ p, d.toPy = some p ∧ p.canLay0 = true ∧ p.depth = dp d
  | .non, _ => ⟨.none, rfl, rfl, rfl⟩
  | .bl b, _ => ⟨.bool b, rfl, rfl, rfl⟩
  | .int i, h => ⟨.int i, rfl, rfl, rfl⟩
  | .str s, h => by
    have h' : PyData.strOk s = true := by simpa [pl] using h
    exact ⟨.str s, rfl, by simpa [PyData.canLay0] using h', rfl⟩
  | .tup l, h => by
    obtain ⟨ps, e, h1, h2⟩ := pls_py l (by simpa [pl] using h)
    exact ⟨.tuple ps, by simp [D.toPy, e], by simpa [PyData.canLay0] using h1, by simpa [PyData.depth, dp] using h2⟩
  | .lst l, h => by
    obtain ⟨ps, e, h1, h2⟩ := pls_py l (by simpa [pl] using h)
    exact ⟨.list ps, by simp [D.toPy, e], by simpa [PyData.canLay0] using h1, by simpa [PyData.depth, dp] using h2⟩
  | .dct _ _, h => by simp [pl] at h
  | .obj _ _, h => by simp [pl] at h
  | .scr _, h => by simp [pl] at h
theorem pls_py : ∀ l : List D, pls l = true → ∃ ps, toPys l = some ps ∧ PyData.canLayAll0 ps = true ∧ PyData.depthAll ps = dps l
  | [], _ => ⟨[], rfl, rfl, rfl⟩
  | d :: r, h => by
    obtain ⟨g1, g2⟩ : pl d = true ∧ pls r = true := by simpa [pls] using h
    obtain ⟨p, e, h1, h2⟩ := pl_py d g1
    obtain ⟨ps, e', h1', h2'⟩ := pls_py r g2
    exact ⟨p :: ps, by simp [toPys, e, e'], by simp [PyData.canLayAll0, h1, h1'], by simp [PyData.depthAll, dps, h2, h2']⟩
end
mutual
theorem eqv_pl : ∀ (d e : D) (p q : PyData), pl d = true → pl e = true → d.toPy = some p → e.toPy = some q → (PyData.eqv p q = true ↔ d = e)
  | .non, e, p, q, hd, he, h1, h2 => by
    cases h1
    cases e <;> simp [pl, D.toPy] at he h2
    all_goals first | (subst h2; simp [PyData.eqv]) | (obtain ⟨_, _, rfl⟩ := h2; simp [PyData.eqv])
  | .int i, e, p, q, hd, he, h1, h2 => by
    cases h1
    cases e <;> simp [pl, D.toPy] at he h2
    all_goals first | (subst h2; simp [PyData.eqv]) | (obtain ⟨_, _, rfl⟩ := h2; simp [PyData.eqv])
  | .str i, e, p, q, hd, he, h1, h2 => by
    cases h1
    cases e <;> simp [pl, D.toPy] at he h2
    all_goals first | (subst h2; simp [PyData.eqv]) | (obtain ⟨_, _, rfl⟩ := h2; simp [PyData.eqv])
  | .tup l, e, p, q, hd, he, h1, h2 => by
    simp [D.toPy] at h1
    obtain ⟨ps, e1, rfl⟩ := h1
    cases e <;> simp [pl, D.toPy] at he h2
    all_goals first | (subst h2; simp [PyData.eqv]; done) | (obtain ⟨qs, e2, rfl⟩ := h2)
    · rw [PyData.eqv, eqvs_pl l _ ps qs (by simpa [pl] using hd) he e1 e2]; simp
    · simp [PyData.eqv]
  | .lst l, e, p, q, hd, he, h1, h2 => by
    simp [D.toPy] at h1
    obtain ⟨ps, e1, rfl⟩ := h1
    cases e <;> simp [pl, D.toPy] at he h2
    all_goals first | (subst h2; simp [PyData.eqv]; done) | (obtain ⟨qs, e2, rfl⟩ := h2)
    · simp [PyData.eqv]
    · rw [PyData.eqv, eqvs_pl l _ ps qs (by simpa [pl] using hd) he e1 e2]; simp
  | .bl _, e, p, q, hd, he, h1, h2 => by simp [pl] at hd
  | .dct _ _, e, p, q, hd, he, h1, h2 => by simp [pl] at hd
  | .obj _ _, e, p, q, hd, he, h1, h2 => by simp [pl] at hd
  | .scr _, e, p, q, hd, he, h1, h2 => by simp [pl] at hd
theorem eqvs_pl : ∀ (l m : List D) (ps qs : List PyData), pls l = true → pls m = true → toPys l = some ps → toPys m = some qs → (PyData.eqvAll ps qs = true ↔ l = m)
  | [], m, ps, qs, hd, he, h1, h2 => by
    cases h1
    cases m with
    | nil => cases h2; simp [PyData.eqvAll]
    | cons a b =>
      simp only [toPys] at h2
      split at h2
      · cases h2; simp [PyData.eqvAll]
      · cases h2
  | d :: r, m, ps, qs, hd, he, h1, h2 => by
    obtain ⟨g1, g2⟩ : pl d = true ∧ pls r = true := by simpa [pls] using hd
    obtain ⟨p, e1, _⟩ := pl_py d g1
    obtain ⟨pr, e2, _⟩ := pls_py r g2
    simp only [toPys, e1, e2] at h1
    cases h1
    cases m with
    | nil => cases h2; simp [PyData.eqvAll]
    | cons a b =>
      obtain ⟨f1, f2⟩ : pl a = true ∧ pls b = true := by simpa [pls] using he
      obtain ⟨q, e3, _⟩ := pl_py a f1
      obtain ⟨qr, e4, _⟩ := pls_py b f2
      simp only [toPys, e3, e4] at h2
      cases h2
      rw [PyData.eqvAll, Bool.and_eq_true, eqv_pl d a p q g1 f1 e1 e3, eqvs_pl r b pr qr g2 f2 e2 e4]
      simp
end
open Classical in
theorem eqD_pl {d e : D} (hd : pl d = true) (he : pl e = true) (h1 : dp d ≤ 64) (h2 : dp e ≤ 64) : eqD d e = some (decide (d = e)) := by
  unfold eqD
  split
  · cases d <;> simp [D.flat, pl] at * <;> cases e <;> simp_all [D.flat, pl, eqF] <;> rfl
  · obtain ⟨p, e1, a1, a2⟩ := pl_py d hd
    obtain ⟨q, e2, b1, b2⟩ := pl_py e he
    have s1 : SeqAt.shaped p = true := by simp [SeqAt.shaped, a1, a2, h1]
    have s2 : SeqAt.shaped q = true := by simp [SeqAt.shaped, b1, b2, h2]
    simp only [e1, e2, s1, s2, Bool.and_self, if_true, Option.some.injEq]
    have z := eqv_pl d e p q hd he e1 e2
    by_cases c : d = e
    · simp [c, z.mpr c]
    · have : PyData.eqv p q = false := by
        cases y : PyData.eqv p q with
        | false => rfl
        | true => exact absurd (z.mp y) c
      simp [c, this]
      
end DL.Pl

set_option Elab.async false
set_option linter.all false
set_option maxRecDepth 100000
set_option maxHeartbeats 4000000
set_option exponentiation.threshold 5000
namespace DL.Pl
open PySem L2
theorem WF.eq {r : RF} {x : D} {y : List D} (h : WF r fun d o => d = x ∧ o = y) : r = .ok x y := by
  obtain ⟨d, o, e, h1, h2⟩ := h.ex
  rw [e, h1, h2]
theorem WF_eq {r : RF} {x : D} {y : List D} {Q : D → List D → Prop} (e : r = .ok x y) (h : Q x y) : WF r Q := by
  rw [e, WF_ok]
  exact h
theorem W0_comp_map {put : D → Slots → Option Slots} {test : Slots → R Bool} {val : Slots → R D} {own : List Nat} {Q : List D → Slots → Prop} {xs acc : List D} {s : Slots} (f : D → D)
    (step : ∀ x ∈ xs, O0 (put x s) fun s1 => W0 (test s1) fun b s2 => Br0 b (W0 (val s2) fun d s3 => d = f x ∧ wipeP own s3 = some s) False)
    (hl : acc.length + xs.length ≤ szl) (h : Q (acc ++ xs.map f) s) : W0 (compL put test val own xs s acc) Q := by
  refine W0_compL (fun ys acc' s' => s' = s ∧ (∀ x ∈ ys, x ∈ xs) ∧ acc' ++ ys.map f = acc ++ xs.map f ∧ acc'.length + ys.length ≤ szl) ?_ ?_ xs acc s ⟨rfl, fun _ h => h, rfl, hl⟩
  · rintro x ys acc' s' ⟨rfl, h1, h2, h3⟩
    obtain ⟨s1, e1, q1⟩ := (step x (h1 x (List.mem_cons_self ..))).ex
    rw [e1]
    obtain ⟨b, s2, e2, q2⟩ := W0.ex q1
    show W0 (test s1) _
    rw [e2]
    cases b with
    | false => exact (show False from q2).elim
    | true =>
      obtain ⟨d, s3, e3, q3, q4⟩ := W0.ex (show W0 (val s2) _ from q2)
      show W0 (val s2) _
      rw [e3]
      refine ⟨by rw [List.length_cons] at h3; omega, ?_⟩
      rw [q4]
      refine ⟨rfl, fun x hx => h1 x (List.mem_cons_of_mem _ hx), ?_, ?_⟩
      · rw [q3, List.append_assoc, ← h2]; rfl
      · rw [List.length_append, List.length_singleton]; rw [List.length_cons] at h3; omega
  · rintro acc' s' ⟨rfl, _, h2, _⟩
    rw [List.map_nil, List.append_nil] at h2
    rw [h2]; exact h
theorem W0_comp_filter {put : D → Slots → Option Slots} {test : Slots → R Bool} {val : Slots → R D} {own : List Nat} {Q : List D → Slots → Prop} {xs acc : List D} {s : Slots} (p : D → Bool) (f : D → D)
    (step : ∀ x ∈ xs, O0 (put x s) fun s1 => W0 (test s1) fun b s2 => b = p x ∧ Br0 b (W0 (val s2) fun d s3 => d = f x ∧ wipeP own s3 = some s) (wipeP own s2 = some s))
    (hl : acc.length + xs.length ≤ szl) (h : Q (acc ++ (xs.filter p).map f) s) : W0 (compL put test val own xs s acc) Q := by
  refine W0_compL (fun ys acc' s' => s' = s ∧ (∀ x ∈ ys, x ∈ xs) ∧ acc' ++ (ys.filter p).map f = acc ++ (xs.filter p).map f ∧ acc'.length + ys.length ≤ szl) ?_ ?_ xs acc s ⟨rfl, fun _ h => h, rfl, hl⟩
  · rintro x ys acc' s' ⟨rfl, h1, h2, h3⟩
    obtain ⟨s1, e1, q1⟩ := (step x (h1 x (List.mem_cons_self ..))).ex
    rw [e1]
    obtain ⟨b, s2, e2, q0, q2⟩ := W0.ex q1
    show W0 (test s1) _
    rw [e2]
    cases b with
    | false =>
      have q2 : wipeP own s2 = some s' := q2
      show O0 (wipeP own s2) _
      rw [q2]
      refine ⟨rfl, fun x hx => h1 x (List.mem_cons_of_mem _ hx), ?_, ?_⟩
      · rw [← h2, List.filter_cons_of_neg (by rw [← q0]; simp)]
      · rw [List.length_cons] at h3; omega
    | true =>
      obtain ⟨d, s3, e3, q3, q4⟩ := W0.ex (show W0 (val s2) _ from q2)
      show W0 (val s2) _
      rw [e3]
      refine ⟨by rw [List.length_cons] at h3; omega, ?_⟩
      rw [q4]
      refine ⟨rfl, fun x hx => h1 x (List.mem_cons_of_mem _ hx), ?_, ?_⟩
      · rw [q3, List.append_assoc, ← h2, List.filter_cons_of_pos (by rw [← q0])]; rfl
      · rw [List.length_append, List.length_singleton]; rw [List.length_cons] at h3; omega
  · rintro acc' s' ⟨rfl, _, h2, _⟩
    rw [List.filter_nil, List.map_nil, List.append_nil] at h2
    rw [h2]; exact h
theorem W_comp_map {put : D → Slots → Option Slots} {test : Slots → R Bool} {val : Slots → R D} {own : List Nat} {Q : List D → Slots → Prop} {xs acc : List D} {s : Slots} (f : D → D)
    (step : ∀ x ∈ xs, O (put x s) fun s1 => W (test s1) fun b s2 => Br b (W (val s2) fun d s3 => d = f x ∧ wipeP own s3 = some s) False)
    (hl : acc.length + xs.length ≤ szl) (h : Q (acc ++ xs.map f) s) : W (compL put test val own xs s acc) Q := by
  delta W O Br at step
  delta W
  exact W0_comp_map f step hl h
theorem W_comp_filter {put : D → Slots → Option Slots} {test : Slots → R Bool} {val : Slots → R D} {own : List Nat} {Q : List D → Slots → Prop} {xs acc : List D} {s : Slots} (p : D → Bool) (f : D → D)
    (step : ∀ x ∈ xs, O (put x s) fun s1 => W (test s1) fun b s2 => b = p x ∧ Br b (W (val s2) fun d s3 => d = f x ∧ wipeP own s3 = some s) (wipeP own s2 = some s))
    (hl : acc.length + xs.length ≤ szl) (h : Q (acc ++ (xs.filter p).map f) s) : W (compL put test val own xs s acc) Q := by
  delta W O Br at step
  delta W
  exact W0_comp_filter p f step hl h
theorem W0_comp2_flat {put : D → Slots → Option Slots} {test : Slots → R Bool} {inner : Slots → List D → R (List D)} {own : List Nat} {Q : List D → Slots → Prop} {xs acc : List D} {s : Slots} (f : D → List D)
    (step : ∀ x ∈ xs, ∀ acc' : List D, acc'.length + (f x).length ≤ szl → O0 (put x s) fun s1 => W0 (test s1) fun b s2 => Br0 b (W0 (inner s2 acc') fun r s3 => r = acc' ++ f x ∧ wipeP own s3 = some s) False)
    (hl : acc.length + (xs.flatMap f).length ≤ szl) (h : Q (acc ++ xs.flatMap f) s) : W0 (compL2 put test inner own xs s acc) Q := by
  refine W0_compL2 (fun ys acc' s' => s' = s ∧ (∀ x ∈ ys, x ∈ xs) ∧ acc' ++ ys.flatMap f = acc ++ xs.flatMap f) ?_ ?_ xs acc s ⟨rfl, fun _ h => h, rfl⟩
  · rintro x ys acc' s' ⟨rfl, h1, h2⟩
    have len : acc'.length + (f x).length ≤ szl := by
      have z := congrArg List.length h2
      rw [List.flatMap_cons, List.length_append, List.length_append, List.length_append] at z
      omega
    obtain ⟨s1, e1, q1⟩ := (step x (h1 x (List.mem_cons_self ..)) acc' len).ex
    rw [e1]
    obtain ⟨b, s2, e2, q2⟩ := W0.ex q1
    show W0 (test s1) _
    rw [e2]
    cases b with
    | false => exact (show False from q2).elim
    | true =>
      obtain ⟨r, s3, e3, q3, q4⟩ := W0.ex (show W0 (inner s2 acc') _ from q2)
      show W0 (inner s2 acc') _
      rw [e3]
      show O0 (wipeP own s3) _
      rw [q4]
      refine ⟨rfl, fun x hx => h1 x (List.mem_cons_of_mem _ hx), ?_⟩
      rw [q3, List.append_assoc, ← List.flatMap_cons]
      exact h2
  · rintro acc' s' ⟨rfl, _, h2⟩
    rw [List.flatMap_nil, List.append_nil] at h2
    rw [h2]; exact h
theorem W_comp2_flat {put : D → Slots → Option Slots} {test : Slots → R Bool} {inner : Slots → List D → R (List D)} {own : List Nat} {Q : List D → Slots → Prop} {xs acc : List D} {s : Slots} (f : D → List D)
    (step : ∀ x ∈ xs, ∀ acc' : List D, acc'.length + (f x).length ≤ szl → O (put x s) fun s1 => W (test s1) fun b s2 => Br b (W (inner s2 acc') fun r s3 => r = acc' ++ f x ∧ wipeP own s3 = some s) False)
    (hl : acc.length + (xs.flatMap f).length ≤ szl) (h : Q (acc ++ xs.flatMap f) s) : W (compL2 put test inner own xs s acc) Q := by
  delta W O Br at step
  delta W
  exact W0_comp2_flat f step hl h
/-! ### slots -/
def _root_.DL.Sl.isBo : Sl → Bool
  | .bo _ => true
  | _ => false
@[simp] theorem isBo_no : Sl.no.isBo = false := rfl
@[simp] theorem isBo_fr {d : D} : (Sl.fr d).isBo = false := rfl
@[simp] theorem isBo_ow {d : D} : (Sl.ow d).isBo = false := rfl
@[simp] theorem isBo_bo {d : D} : (Sl.bo d).isBo = true := rfl
@[simp] theorem plain_no : Sl.no.plain = true := rfl
@[simp] theorem plain_fr {d : D} : (Sl.fr d).plain = true := rfl
@[simp] theorem plain_ow {d : D} : (Sl.ow d).plain = false := rfl
@[simp] theorem plain_bo {d : D} : (Sl.bo d).plain = false := rfl
theorem isBo_plain {z : Sl} (h : z.plain = true) : z.isBo = false := by cases z <;> simp_all
theorem putN_eq {i : Nat} {d : D} {s : Slots} : putN i d s = (match s[i]? with | some z => if z.isBo then none else some (s.set i (.fr d)) | none => none) := by
  unfold putN
  cases s[i]? with
  | none => rfl
  | some z => cases z <;> rfl
theorem putO_eq {i : Nat} {d : D} {s : Slots} : putO i d s = (match s[i]? with | some z => if z.isBo then none else some (s.set i (.ow d)) | none => none) := by
  unfold putO
  cases s[i]? with
  | none => rfl
  | some z => cases z <;> rfl
theorem putT_nm {i : Nat} {d : D} {s : Slots} : putT (.nm i) d s = (match s[i]? with | some z => if z.isBo then none else some (s.set i (.fr d)) | none => none) := by
  simp only [putT]
  cases s[i]? with
  | none => rfl
  | some z => cases z <;> rfl
theorem putT_tp {l : List CT} {ds : List D} {s : Slots} : putT (.tp l) (.tup ds) s = putTs l ds s := by simp only [putT]
theorem putT_tl {l : List CT} {ds : List D} {s : Slots} : putT (.tp l) (.lst ds) s = putTs l ds s := by simp only [putT]
@[simp] theorem isNon_non : D.isNon .non = true := rfl
@[simp] theorem isNon_bl {b : Bool} : D.isNon (.bl b) = false := rfl
@[simp] theorem isNon_int {i : Int} : D.isNon (.int i) = false := rfl
@[simp] theorem isNon_str {x : Str} : D.isNon (.str x) = false := rfl
@[simp] theorem isNon_tup {l : List D} : D.isNon (.tup l) = false := rfl
@[simp] theorem isNon_lst {l : List D} : D.isNon (.lst l) = false := rfl
@[simp] theorem isNon_obj {c : Nat} {l : List D} : D.isNon (.obj c l) = false := rfl
/-! ### lists of one kind -/
@[simp] theorem boolsD_map {l : List Bool} : boolsD (l.map .bl) = some l := by
  induction l with
  | nil => rfl
  | cons a l ih => simp [boolsD, ih]
@[simp] theorem boolsD_const {α : Type} {l : List α} {b : Bool} : boolsD (l.map fun _ => .bl b) = some (l.map fun _ => b) := by
  induction l with
  | nil => rfl
  | cons a l ih => simp [boolsD, ih]
@[simp] theorem all_tt {α : Type} {l : List α} : (l.all fun _ => true) = true := by induction l <;> simp_all
@[simp] theorem any_ff {α : Type} {l : List α} : (l.any fun _ => false) = false := by induction l <;> simp_all
@[simp] theorem intsD_map {l : List Int} : intsD (l.map .int) = some l := by
  induction l with
  | nil => rfl
  | cons a l ih => simp [intsD, ih]
@[simp] theorem strsD_map {l : List Str} : strsD (l.map .str) = some l := by
  induction l with
  | nil => rfl
  | cons a l ih => simp [strsD, ih]
theorem zipD_map {α β : Type} {f : α → D} {g : β → D} : ∀ (l : List α) (m : List β), zipD (l.map f) (m.map g) = (l.zip m).map fun x => .tup [f x.1, g x.2]
  | [], m => by cases m <;> rfl
  | a :: l, [] => rfl
  | a :: l, b :: m => by simp [zipD, zipD_map l m]
theorem cutD_from {l : List D} (k : Nat) : cutD l (some (k : Int)) none = l.drop k := by
  unfold cutD
  rw [HT.sIx_nat, HT.sIx_none]
  by_cases h : k ≤ l.length
  · rw [Nat.min_eq_left h, List.take_of_length_le (by rw [List.length_drop]; omega)]
  · rw [Nat.min_eq_right (by omega), List.drop_of_length_le (by omega), List.drop_of_length_le (by omega), List.take_nil]
theorem cutD_to {l : List D} (k : Nat) : cutD l none (some (k : Int)) = l.take k := by
  unfold cutD
  rw [HT.sIx_nat, HT.sIx_none, List.drop_zero, Nat.sub_zero]
  by_cases h : k ≤ l.length
  · rw [Nat.min_eq_left h]
  · rw [Nat.min_eq_right (by omega), List.take_of_length_le (by omega), List.take_of_length_le (by omega)]
theorem cutD_1 {l : List D} : cutD l (some 1) none = l.drop 1 := cutD_from 1
theorem atI_nat {α : Type} {l : List α} {i : Int} (h0 : 0 ≤ i) : atI l i = l[i.toNat]? := by
  unfold atI ixN
  rw [if_pos h0]
  split
  · rfl
  · rw [List.getElem?_eq_none (by omega)]; rfl
theorem atI_map {α β : Type} {f : α → β} {l : List α} {i : Int} : atI (l.map f) i = (atI l i).map f := by
  unfold atI
  rw [List.length_map]
  cases ixN l.length i with
  | none => rfl
  | some j => simp
theorem atI_get {α : Type} [Inhabited α] {l : List α} {i : Int} (h0 : 0 ≤ i) (h1 : i < l.length) : atI l i = some l[i.toNat]! := by
  rw [atI_nat h0, List.getElem!_eq_getElem?_getD, List.getElem?_eq_getElem (by omega)]
  rfl
/-! ### ranges -/
def rg (a b : Int) : List Int := (List.range (b - a).toNat).map fun i => a + (i : Nat)
theorem mem_rg {a b x : Int} : x ∈ rg a b ↔ a ≤ x ∧ x < b := by
  unfold rg
  rw [List.mem_map]
  constructor
  · rintro ⟨i, hi, rfl⟩
    rw [List.mem_range] at hi
    omega
  · rintro ⟨h1, h2⟩
    exact ⟨(x - a).toNat, by rw [List.mem_range]; omega, by omega⟩
theorem rg_length {a b : Int} : (rg a b).length = (b - a).toNat := by simp [rg]
theorem rng_ok {a b : Int} (h1 : -(2 ^ 62) ≤ a) (h2 : b < 2 ^ 62) (h3 : a < 2 ^ 62) (h4 : -(2 ^ 62) ≤ b) (h : b - a ≤ 16777216) : rng a b = some ((rg a b).map .int) := by
  unfold rng rg szl
  have h' : (b - a).toNat ≤ 16777216 := by omega
  simp only [h1, h2, h3, h4, h', decide_true, Bool.and_self, if_true, List.map_map]
  rfl
theorem rg_nil {a b : Int} (h : b ≤ a) : rg a b = [] := by
  unfold rg
  rw [show (b - a).toNat = 0 by omega]; rfl
theorem rg_cons {a b : Int} (h : a < b) : rg a b = a :: rg (a + 1) b := by
  unfold rg
  obtain ⟨k, hk⟩ : ∃ k, (b - a).toNat = k + 1 := ⟨(b - a).toNat - 1, by omega⟩
  rw [hk, show (b - (a + 1)).toNat = k by omega, List.range_succ_eq_map, List.map_cons, List.map_map]
  congr 1
  · omega
  · apply List.map_congr_left
    intro i _
    show a + ((i + 1 : Nat) : Int) = _
    omega
theorem rg_append {a b c : Int} (h1 : a ≤ b) (h2 : b ≤ c) : rg a c = rg a b ++ rg b c := by
  obtain ⟨k, hk⟩ : ∃ k : Nat, b = a + k := ⟨(b - a).toNat, by omega⟩
  induction k generalizing a with
  | zero => rw [show b = a by omega, rg_nil (Int.le_refl a)]; rfl
  | succ k ih => rw [rg_cons (a := a) (b := c) (by omega), rg_cons (a := a) (b := b) (by omega), ih (by omega) (by omega)]; rfl
theorem mulOk_l {i j : Int} (h1 : -(2 ^ 64) < i) (h2 : i < 2 ^ 64) : mulOk i j = true := by simp [mulOk]; exact .inl (.inl ⟨by omega, by omega⟩)
theorem mulOk_r {i j : Int} (h1 : -(2 ^ 64) < j) (h2 : j < 2 ^ 64) : mulOk i j = true := by simp [mulOk]; exact .inl (.inr ⟨by omega, by omega⟩)
theorem log2_of {i : Int} {k : Nat} (h1 : -(2 ^ 1000) < i) (h : i < 2 ^ 1000) : i.natAbs.log2 < 9000 := by
  rcases Nat.eq_zero_or_pos i.natAbs with z | z
  · rw [z]; decide
  · refine (Nat.log2_lt (by omega)).mpr ?_
    have : (2 : Nat) ^ 1000 < 2 ^ 9000 := Nat.pow_lt_pow_right (by decide) (by decide)
    have : i.natAbs < 2 ^ 1000 := by
      have e : ((2 ^ 1000 : Nat) : Int) = 2 ^ 1000 := by norm_cast
      omega
    omega
def takeB : Nat → CB → CB
  | 0, _ => .nil
  | n + 1, .cons a b => .cons a (takeB n b)
  | _, .nil => .nil
def dropB : Nat → CB → CB
  | 0, b => b
  | n + 1, .cons _ b => dropB n b
  | _, .nil => .nil
/-- a block in two parts -/
theorem W_cut {pg : Pg} {cl : CallH} {wl : Nat} {Q : Flow → Slots → Prop} : ∀ (k : Nat) (c : CB) (s : Slots), W (runB pg cl wl c s) Q = W (runB pg cl wl (takeB k c) s) fun fl s1 => match fl with | .nx => W (runB pg cl wl (dropB k c) s1) Q | fl => Q fl s1
  | 0, c, s => by simp only [takeB, dropB, W_Bnil]
  | k + 1, .nil, s => by simp only [takeB, dropB, W_Bnil]
  | k + 1, .cons a b, s => by
    simp only [takeB, dropB, W_Bcons]
    congr 1
    funext fl s1
    cases fl with
    | nx => exact W_cut k b s1
    | _ => rfl
theorem flatMap_le {α β : Type} {f : α → List β} {k : Nat} : ∀ {l : List α}, (∀ a ∈ l, (f a).length ≤ k) → (l.flatMap f).length ≤ k * l.length
  | [], _ => by simp
  | a :: l, h => by
    have h1 := h a (List.mem_cons_self ..)
    have h2 := flatMap_le (l := l) fun b hb => h b (List.mem_cons_of_mem _ hb)
    rw [List.flatMap_cons, List.length_append, List.length_cons, Nat.mul_add]
    omega
theorem zip_tail_lt : ∀ {l : List Int}, l.Pairwise (· < ·) → ∀ p ∈ l.zip l.tail, p.1 < p.2
  | [], _, p, hp => by simp at hp
  | [a], _, p, hp => by simp at hp
  | a :: b :: r, h, p, hp => by
    rw [List.tail_cons, List.zip_cons_cons, List.mem_cons] at hp
    rcases hp with rfl | hp
    · exact (List.pairwise_cons.mp h).1 b (List.mem_cons_self ..)
    · exact zip_tail_lt (l := b :: r) (List.pairwise_cons.mp h).2 p hp
theorem eqD_int {a b : Int} : eqD (.int a) (.int b) = some (decide (a = b)) := by
  unfold eqD
  simp [D.flat, eqF]
  by_cases h : a = b <;> simp [h]
theorem eqD_bool {a b : Bool} : eqD (.bl a) (.bl b) = some (a == b) := by
  unfold eqD
  simp [D.flat, eqF]
theorem eqD_str {a b : Str} : eqD (.str a) (.str b) = some (a == b) := by
  unfold eqD
  simp [D.flat, eqF]
end DL.Pl

set_option Elab.async false
set_option linter.all false
set_option maxRecDepth 100000
set_option maxHeartbeats 4000000
set_option exponentiation.threshold 5000
namespace DL
open PySem L2 PyProof.Rows
/-- is_whole -/
def c0 : CB := (.cons (.ret (.and (.prim (.isI .int) (.cons (.val (.var 0)) .nil)) (.not (.prim (.isI .bool) (.cons (.val (.var 0)) .nil))))) .nil)
def d0 : Df := ⟨⟨1, [], [], false⟩, 1, c0⟩
/-- is_integer -/
def c1 : CB := (.cons (.ret (.and (.call 0 [.a 0] (.val (.var 0) .nil) .nil) (.chain .le .le (.var 1) (.var 0) (.var 2)))) .nil)
def d1 : Df := ⟨⟨3, [], [], false⟩, 3, c1⟩
/-- is_tuple_of -/
def c2 : CB := (.cons (.ret (.and (.prim (.isI .tup) (.cons (.val (.var 0)) .nil)) (.prim .eq (.cons (.val (.prim .len (.cons (.val (.var 0)) .nil))) (.cons (.val (.var 1)) .nil))))) .nil)
def d2 : Df := ⟨⟨2, [], [], false⟩, 2, c2⟩
/-- common -/
def c3 : CB := (.cons (.whl (.prim .gt (.cons (.val (.var 1)) (.cons (.val (.cst (.int 0))) .nil))) (.cons (.par [(0, false), (1, false)] (.cons (.var 1) (.cons (.prim .mod (.cons (.val (.var 0)) (.cons (.val (.var 1)) .nil))) .nil))) .nil)) (.cons (.ret (.var 0)) .nil))
def d3 : Df := ⟨⟨2, [], [], false⟩, 2, c3⟩
/-- lowest -/
def c4 : CB := (.cons (.asg 2 (.call 3 [.a 0, .a 1] (.val (.prim .absI (.cons (.val (.var 0)) .nil)) (.val (.var 1) .nil)) .nil)) (.cons (.ret (.tup (.cons (.prim .fdiv (.cons (.val (.var 0)) (.cons (.val (.var 2)) .nil))) (.cons (.prim .fdiv (.cons (.val (.var 1)) (.cons (.val (.var 2)) .nil))) .nil)))) .nil))
def d4 : Df := ⟨⟨2, [], [], false⟩, 3, c4⟩
/-- is_above -/
def c5 : CB := (.cons (.ret (.prim .gt (.cons (.val (.prim .mul (.cons (.val (.prim .idx (.cons (.val (.var 0)) (.cons (.val (.cst (.int 0))) .nil)))) (.cons (.val (.prim .idx (.cons (.val (.var 1)) (.cons (.val (.cst (.int 1))) .nil)))) .nil)))) (.cons (.val (.prim .mul (.cons (.val (.prim .idx (.cons (.val (.var 1)) (.cons (.val (.cst (.int 0))) .nil)))) (.cons (.val (.prim .idx (.cons (.val (.var 0)) (.cons (.val (.cst (.int 1))) .nil)))) .nil)))) .nil)))) .nil)
def d5 : Df := ⟨⟨2, [], [], false⟩, 2, c5⟩
/-- are_divisors -/
def c6 : CB := (.cons (.ite (.or (.not (.prim (.isI .tup) (.cons (.val (.var 0)) .nil))) (.not (.chain .le .le (.cst (.int 1)) (.prim .len (.cons (.val (.var 0)) .nil)) (.glb 0)))) (.cons (.ret (.cst (.bl false))) .nil) .nil) (.cons (.ite (.not (.prim .allL (.cons (.val (.comp [1] (.call 1 [.a 0, .a 1, .a 2] (.val (.var 1) (.val (.cst (.int 1)) (.val (.glb 1) .nil))) .nil) (.g (.nm 1) (.seq (.var 0)) (.cst (.bl true))))) .nil))) (.cons (.ret (.cst (.bl false))) .nil) .nil) (.cons (.ret (.prim .allL (.cons (.val (.comp [2, 3] (.prim .lt (.cons (.val (.var 2)) (.cons (.val (.var 3)) .nil))) (.g (.tp [(.nm 2), (.nm 3)]) (.zip (.cons (.var 0) (.cons (.prim (.slc true false) (.cons (.val (.var 0)) (.cons (.val (.cst (.int 1))) .nil))) .nil))) (.cst (.bl true))))) .nil))) .nil)))
def d6 : Df := ⟨⟨1, [], [], false⟩, 4, c6⟩
/-- check_divisors -/
def c7 : CB := (.cons (.ite (.not (.call 6 [.a 0] (.val (.var 0) .nil) .nil)) (.cons .never .nil) .nil) .nil)
def d7 : Df := ⟨⟨1, [], [], false⟩, 1, c7⟩
/-- price_range -/
def c8 : CB := (.cons (.par [(3, false), (4, false)] (.cons (.glb 9) (.cons (.cst .non) .nil))) (.cons (.for_ (.tp [(.nm 5), (.nm 6)]) (.zip (.cons (.var 1) (.cons (.var 2) .nil))) (.cons (.ite (.prim .lt (.cons (.val (.var 6)) (.cons (.val (.prim .len (.cons (.val (.var 0)) .nil))) .nil))) (.cons (.asg 7 (.call 4 [.a 0, .a 1] (.val (.var 5) (.val (.prim .idx (.cons (.val (.var 0)) (.cons (.val (.var 6)) .nil))) .nil)) .nil)) (.cons (.asg 3 (.ite (.call 5 [.a 0, .a 1] (.val (.var 7) (.val (.var 3) .nil)) .nil) (.var 7) (.var 3))) .nil)) .nil) (.cons (.ite (.prim .gt (.cons (.val (.var 6)) (.cons (.val (.cst (.int 0))) .nil))) (.cons (.asg 7 (.call 4 [.a 0, .a 1] (.val (.var 5) (.val (.prim .idx (.cons (.val (.var 0)) (.cons (.val (.prim .sub (.cons (.val (.var 6)) (.cons (.val (.cst (.int 1))) .nil)))) .nil))) .nil)) .nil)) (.cons (.asg 4 (.ite (.or (.prim .isN (.cons (.val (.var 4)) .nil)) (.call 5 [.a 0, .a 1] (.val (.var 4) (.val (.var 7) .nil)) .nil)) (.var 7) (.var 4))) .nil)) .nil) .nil))) (.cons (.ret (.ite (.call 5 [.a 0, .a 1] (.val (.var 3) (.val (.var 4) .nil)) .nil) (.cst .non) (.tup (.cons (.var 3) (.cons (.var 4) .nil))))) .nil)))
def d8 : Df := ⟨⟨3, [], [], false⟩, 8, c8⟩
/-- check_rows -/
def c9 : CB := (.cons (.exp (.call 7 [.a 0] (.val (.var 0) .nil) .nil)) (.cons (.exp (.call 7 [.a 0] (.val (.var 1) .nil) .nil)) (.cons (.ite (.prim .ne (.cons (.val (.prim .len (.cons (.val (.var 0)) .nil))) (.cons (.val (.prim .len (.cons (.val (.var 1)) .nil))) .nil))) (.cons .never .nil) .nil) .nil)))
def d9 : Df := ⟨⟨2, [], [], false⟩, 2, c9⟩
/-- check_question -/
def c10 : CB := (.cons (.exp (.call 7 [.a 0] (.val (.var 0) .nil) .nil)) (.cons (.exp (.call 7 [.a 0] (.val (.var 1) .nil) .nil)) (.cons (.ite (.not (.call 1 [.a 0, .a 1, .a 2] (.val (.var 2) (.val (.cst (.int 2)) (.val (.glb 2) .nil))) .nil)) (.cons .never .nil) .nil) (.cons (.exp (.call 9 [.a 0, .a 1] (.val (.var 0) (.val (.var 1) .nil)) .nil)) .nil))))
def d10 : Df := ⟨⟨3, [], [], false⟩, 3, c10⟩
/-- quotient -/
def c11 : CB := (.cons (.ret (.call 4 [.a 0, .a 1] (.val (.prim .idx (.cons (.val (.var 0)) (.cons (.val (.prim .sub (.cons (.val (.var 1)) (.cons (.val (.cst (.int 1))) .nil)))) .nil))) (.val (.prim .idx (.cons (.val (.var 0)) (.cons (.val (.prim .sub (.cons (.val (.var 2)) (.cons (.val (.cst (.int 1))) .nil)))) .nil))) .nil)) .nil)) .nil)
def d11 : Df := ⟨⟨3, [], [], false⟩, 3, c11⟩
/-- pairs_for -/
def c12 : CB := (.cons (.par [(3, false), (4, true)] (.cons (.prim .len (.cons (.val (.var 0)) .nil)) (.cons (.lst .nil) .nil))) (.cons (.for_ (.nm 5) (.rng (.cons (.cst (.int 1)) (.cons (.prim .add (.cons (.val (.var 3)) (.cons (.val (.cst (.int 1))) .nil))) .nil))) (.cons (.for_ (.nm 6) (.rng (.cons (.prim .add (.cons (.val (.var 5)) (.cons (.val (.cst (.int 1))) .nil))) (.cons (.prim .sub (.cons (.val (.prim .add (.cons (.val (.var 3)) (.cons (.val (.cst (.int 2))) .nil)))) (.cons (.val (.var 5)) .nil))) .nil))) (.cons (.ite (.and (.or (.prim .gt (.cons (.val (.var 2)) (.cons (.val (.cst (.int 2))) .nil))) (.prim .eq (.cons (.val (.prim .add (.cons (.val (.var 5)) (.cons (.val (.var 6)) .nil)))) (.cons (.val (.prim .add (.cons (.val (.var 3)) (.cons (.val (.cst (.int 1))) .nil)))) .nil)))) (.prim .ne (.cons (.val (.call 11 [.a 0, .a 1, .a 2] (.val (.var 0) (.val (.var 5) (.val (.var 6) .nil))) .nil)) (.cons (.val (.call 11 [.a 0, .a 1, .a 2] (.val (.var 1) (.val (.var 5) (.val (.var 6) .nil))) .nil)) .nil)))) (.cons (.app 4 (.tup (.cons (.var 5) (.cons (.var 6) .nil)))) .nil) .nil) .nil)) .nil)) (.cons (.ret (.prim .tupOf (.cons (.pk 4) .nil))) .nil)))
def d12 : Df := ⟨⟨3, [], [], false⟩, 7, c12⟩
/-- middle -/
def c13 : CB := (.cons (.ret (.call 4 [.a 0, .a 1] (.val (.prim .add (.cons (.val (.prim .mul (.cons (.val (.prim .idx (.cons (.val (.var 0)) (.cons (.val (.cst (.int 0))) .nil)))) (.cons (.val (.prim .idx (.cons (.val (.var 1)) (.cons (.val (.cst (.int 1))) .nil)))) .nil)))) (.cons (.val (.prim .mul (.cons (.val (.prim .idx (.cons (.val (.var 1)) (.cons (.val (.cst (.int 0))) .nil)))) (.cons (.val (.prim .idx (.cons (.val (.var 0)) (.cons (.val (.cst (.int 1))) .nil)))) .nil)))) .nil))) (.val (.prim .mul (.cons (.val (.prim .mul (.cons (.val (.cst (.int 2))) (.cons (.val (.prim .idx (.cons (.val (.var 0)) (.cons (.val (.cst (.int 1))) .nil)))) .nil)))) (.cons (.val (.prim .idx (.cons (.val (.var 1)) (.cons (.val (.cst (.int 1))) .nil)))) .nil))) .nil)) .nil)) .nil)
def d13 : Df := ⟨⟨2, [], [], false⟩, 2, c13⟩
/-- counts_for -/
def c14 : CB := (.cons (.asgT (.tp [(.nm 4), (.nm 5)]) (.var 3)) (.cons (.ite (.call 5 [.a 0, .a 1] (.val (.call 11 [.a 0, .a 1, .a 2] (.val (.var 1) (.val (.var 5) (.val (.var 4) .nil))) .nil) (.val (.call 11 [.a 0, .a 1, .a 2] (.val (.var 0) (.val (.var 5) (.val (.var 4) .nil))) .nil) .nil)) .nil) (.cons (.par [(4, false), (5, false)] (.cons (.var 5) (.cons (.var 4) .nil))) .nil) .nil) (.cons (.asg 6 (.call 11 [.a 0, .a 1, .a 2] (.val (.var 1) (.val (.var 5) (.val (.var 4) .nil))) .nil)) (.cons (.ite (.and (.prim .gt (.cons (.val (.var 5)) (.cons (.val (.cst (.int 1))) .nil))) (.call 5 [.a 0, .a 1] (.val (.call 11 [.a 0, .a 1, .a 2] (.val (.var 0) (.val (.prim .sub (.cons (.val (.var 5)) (.cons (.val (.cst (.int 1))) .nil))) (.val (.var 4) .nil))) .nil) (.val (.var 6) .nil)) .nil)) (.cons (.asg 6 (.call 11 [.a 0, .a 1, .a 2] (.val (.var 0) (.val (.prim .sub (.cons (.val (.var 5)) (.cons (.val (.cst (.int 1))) .nil))) (.val (.var 4) .nil))) .nil)) .nil) .nil) (.cons (.asg 7 (.call 13 [.a 0, .a 1] (.val (.var 6) (.val (.call 11 [.a 0, .a 1, .a 2] (.val (.var 0) (.val (.var 5) (.val (.var 4) .nil))) .nil) .nil)) .nil)) (.cons (.asg 8 (.prim .add (.cons (.val (.prim .sub (.cons (.val (.prim .sub (.cons (.val (.prim .len (.cons (.val (.var 0)) .nil))) (.cons (.val (.var 4)) .nil)))) (.cons (.val (.var 5)) .nil)))) (.cons (.val (.cst (.int 1))) .nil)))) (.cons (.asg 9 (.ite (.prim .gt (.cons (.val (.var 8)) (.cons (.val (.cst (.int 0))) .nil))) (.call 13 [.a 0, .a 1] (.val (.call 11 [.a 0, .a 1, .a 2] (.val (.var 0) (.val (.var 8) (.val (.var 4) .nil))) .nil) (.val (.call 11 [.a 0, .a 1, .a 2] (.val (.var 0) (.val (.prim .add (.cons (.val (.var 8)) (.cons (.val (.cst (.int 1))) .nil))) (.val (.var 4) .nil))) .nil) .nil)) .nil) (.tup (.cons (.cst (.int 0)) (.cons (.cst (.int 1)) .nil))))) (.cons (.asg 10 (.prim .mul (.cons (.val (.prim .idx (.cons (.val (.var 7)) (.cons (.val (.cst (.int 1))) .nil)))) (.cons (.val (.prim .idx (.cons (.val (.var 9)) (.cons (.val (.cst (.int 1))) .nil)))) .nil)))) (.cons (.asg 11 (.tup (.cons (.var 10) (.cons (.prim .mul (.cons (.val (.prim .idx (.cons (.val (.var 7)) (.cons (.val (.cst (.int 0))) .nil)))) (.cons (.val (.prim .idx (.cons (.val (.var 9)) (.cons (.val (.cst (.int 1))) .nil)))) .nil))) (.cons (.prim .mul (.cons (.val (.prim .idx (.cons (.val (.var 9)) (.cons (.val (.cst (.int 0))) .nil)))) (.cons (.val (.prim .idx (.cons (.val (.var 7)) (.cons (.val (.cst (.int 1))) .nil)))) .nil))) (.cons (.cst (.int 0)) (.cons (.cst (.int 0)) (.cons (.cst (.int 0)) .nil)))))))) (.cons (.ret (.tup (.cons (.prim (.slc false true) (.cons (.val (.var 11)) (.cons (.val (.var 2)) .nil))) (.cons (.prim (.slc false true) (.cons (.val (.tup (.cons (.var 4) (.cons (.prim .sub (.cons (.val (.var 5)) (.cons (.val (.cst (.int 1))) .nil))) (.cons (.var 8) (.cons (.cst (.int 0)) (.cons (.cst (.int 0)) (.cons (.cst (.int 0)) .nil)))))))) (.cons (.val (.var 2)) .nil))) .nil)))) .nil))))))))))
def d14 : Df := ⟨⟨4, [], [], false⟩, 12, c14⟩
/-- parted_by -/
def c15 : CB := (.cons (.asg 3 (.call 12 [.a 0, .a 1, .a 2] (.val (.var 0) (.val (.var 1) (.val (.var 2) .nil))) .nil)) (.cons (.ret (.ite (.prim .gt (.cons (.val (.prim .len (.cons (.val (.var 3)) .nil))) (.cons (.val (.cst (.int 0))) .nil))) (.call 14 [.a 0, .a 1, .a 2, .a 3] (.val (.var 0) (.val (.var 1) (.val (.var 2) (.val (.prim .idx (.cons (.val (.var 3)) (.cons (.val (.cst (.int 0))) .nil))) .nil)))) .nil) (.cst .non))) .nil))
def d15 : Df := ⟨⟨3, [], [], false⟩, 4, c15⟩
/-- certify_rules -/
def c16 : CB := (.cons (.exp (.call 10 [.a 0, .a 1, .a 2] (.val (.var 0) (.val (.var 1) (.val (.var 2) .nil))) .nil)) (.cons (.asg 3 (.call 15 [.a 0, .a 1, .a 2] (.val (.var 0) (.val (.var 1) (.val (.var 2) .nil))) .nil)) (.cons (.ite (.prim .isN (.cons (.val (.var 3)) .nil)) (.cons (.ret (.tup (.cons (.tup (.cons (.cst (.str "alike")) (.cons (.var 0) (.cons (.var 1) (.cons (.var 2) .nil))))) (.cons (.tup .nil) .nil)))) .nil) .nil) (.cons (.ret (.tup (.cons (.tup (.cons (.cst (.str "parted")) (.cons (.var 0) (.cons (.var 1) (.cons (.var 2) .nil))))) (.cons (.var 3) .nil)))) .nil))))
def d16 : Df := ⟨⟨3, [], [], false⟩, 4, c16⟩
/-- are_counts -/
def c17 : CB := (.cons (.ret (.and (.call 2 [.a 0, .a 1] (.val (.var 0) (.val (.var 1) .nil)) .nil) (.prim .allL (.cons (.val (.comp [2] (.and (.call 0 [.a 0] (.val (.var 2) .nil) .nil) (.prim .ge (.cons (.val (.var 2)) (.cons (.val (.cst (.int 0))) .nil)))) (.g (.nm 2) (.seq (.var 0)) (.cst (.bl true))))) .nil)))) .nil)
def d17 : Df := ⟨⟨2, [], [], false⟩, 3, c17⟩
/-- accepts_rules -/
def c18 : CB := (.cons (.ite (.or (.prim .ne (.cons (.val (.prim .len (.cons (.val (.var 0)) .nil))) (.cons (.val (.cst (.int 4))) .nil))) (.or (.not (.call 6 [.a 0] (.val (.prim .idx (.cons (.val (.var 0)) (.cons (.val (.cst (.int 1))) .nil))) .nil) .nil)) (.or (.not (.call 6 [.a 0] (.val (.prim .idx (.cons (.val (.var 0)) (.cons (.val (.cst (.int 2))) .nil))) .nil) .nil)) (.prim .ne (.cons (.val (.prim .len (.cons (.val (.prim .idx (.cons (.val (.var 0)) (.cons (.val (.cst (.int 1))) .nil)))) .nil))) (.cons (.val (.prim .len (.cons (.val (.prim .idx (.cons (.val (.var 0)) (.cons (.val (.cst (.int 2))) .nil)))) .nil))) .nil)))))) (.cons (.ret (.cst (.bl false))) .nil) .nil) (.cons (.ite (.not (.call 1 [.a 0, .a 1, .a 2] (.val (.prim .idx (.cons (.val (.var 0)) (.cons (.val (.cst (.int 3))) .nil))) (.val (.cst (.int 2)) (.val (.glb 2) .nil))) .nil)) (.cons (.ret (.cst (.bl false))) .nil) .nil) (.cons (.ite (.prim .eq (.cons (.val (.prim .idx (.cons (.val (.var 0)) (.cons (.val (.cst (.int 0))) .nil)))) (.cons (.val (.cst (.str "alike"))) .nil))) (.cons (.ret (.and (.call 2 [.a 0, .a 1] (.val (.var 1) (.val (.cst (.int 0)) .nil)) .nil) (.prim .eq (.cons (.val (.call 12 [.a 0, .a 1, .a 2] (.val (.prim .idx (.cons (.val (.var 0)) (.cons (.val (.cst (.int 1))) .nil))) (.val (.prim .idx (.cons (.val (.var 0)) (.cons (.val (.cst (.int 2))) .nil))) (.val (.prim .idx (.cons (.val (.var 0)) (.cons (.val (.cst (.int 3))) .nil))) .nil))) .nil)) (.cons (.val (.tup .nil)) .nil))))) .nil) .nil) (.cons (.ite (.or (.not (.call 2 [.a 0, .a 1] (.val (.var 1) (.val (.cst (.int 2)) .nil)) .nil)) (.not (.prim .allL (.cons (.val (.comp [2] (.call 17 [.a 0, .a 1] (.val (.var 2) (.val (.prim .idx (.cons (.val (.var 0)) (.cons (.val (.cst (.int 3))) .nil))) .nil)) .nil) (.g (.nm 2) (.seq (.var 1)) (.cst (.bl true))))) .nil)))) (.cons (.ret (.cst (.bl false))) .nil) .nil) (.cons (.ite (.prim .ne (.cons (.val (.prim .sumL (.cons (.val (.prim .idx (.cons (.val (.var 1)) (.cons (.val (.cst (.int 1))) .nil)))) .nil))) (.cons (.val (.prim .len (.cons (.val (.prim .idx (.cons (.val (.var 0)) (.cons (.val (.cst (.int 1))) .nil)))) .nil))) .nil))) (.cons (.ret (.cst (.bl false))) .nil) .nil) (.cons (.asg 3 (.comp [4] (.prim .isN (.cons (.val (.call 8 [.a 0, .a 1, .a 2] (.val (.var 4) (.val (.prim .idx (.cons (.val (.var 1)) (.cons (.val (.cst (.int 0))) .nil))) (.val (.prim .idx (.cons (.val (.var 1)) (.cons (.val (.cst (.int 1))) .nil))) .nil))) .nil)) .nil)) (.g (.nm 4) (.seq (.tup (.cons (.prim .idx (.cons (.val (.var 0)) (.cons (.val (.cst (.int 1))) .nil))) (.cons (.prim .idx (.cons (.val (.var 0)) (.cons (.val (.cst (.int 2))) .nil))) .nil)))) (.cst (.bl true))))) (.cons (.ret (.prim .ne (.cons (.val (.prim .idx (.cons (.val (.var 3)) (.cons (.val (.cst (.int 0))) .nil)))) (.cons (.val (.prim .idx (.cons (.val (.var 3)) (.cons (.val (.cst (.int 1))) .nil)))) .nil)))) .nil)))))))
def d18 : Df := ⟨⟨2, [], [], false⟩, 5, c18⟩
/-- accepts -/
def c19 : CB := (.cons (.ite (.or (.not (.prim (.isI .tup) (.cons (.val (.var 0)) .nil))) (.or (.prim .lt (.cons (.val (.prim .len (.cons (.val (.var 0)) .nil))) (.cons (.val (.cst (.int 3))) .nil))) (.not (.prim (.isI .str) (.cons (.val (.prim .idx (.cons (.val (.var 0)) (.cons (.val (.cst (.int 0))) .nil)))) .nil))))) (.cons (.ret (.cst (.bl false))) .nil) .nil) (.cons (.ite (.prim .isin (.cons (.val (.prim .idx (.cons (.val (.var 0)) (.cons (.val (.cst (.int 0))) .nil)))) (.cons (.val (.tup (.cons (.cst (.str "alike")) (.cons (.cst (.str "parted")) .nil)))) .nil))) (.cons (.ret (.call 18 [.a 0, .a 1] (.val (.var 0) (.val (.var 1) .nil)) .nil)) .nil) .nil) (.cons .never (.cons .never (.cons .never (.cons .never (.cons .never .nil)))))))
def d19 : Df := ⟨⟨2, [], [], false⟩, 2, c19⟩
/-- _law_urn -/
def c20 : CB := (.cons (.asg 2 (.prim .add (.cons (.val (.cst (.int 662607))) (.cons (.val (.prim .mul (.cons (.val (.cst (.int 15999193))) (.cons (.val (.var 1)) .nil)))) .nil)))) (.cons (.for_ (.nm 3) (.seq (.prim (.slc false true) (.cons (.val (.var 0)) (.cons (.val (.cst (.int 63))) .nil)))) (.cons (.asg 2 (.prim .mod (.cons (.val (.prim .intOf (.cons (.val (.prim .add (.cons (.val (.prim .add (.cons (.val (.prim .mul (.cons (.val (.var 2)) (.cons (.val (.cst (.int 44497))) .nil)))) (.cons (.val (.prim .mul (.cons (.val (.prim .intOf (.cons (.val (.var 3)) .nil))) (.cons (.val (.cst (.int 283))) .nil)))) .nil)))) (.cons (.val (.cst (.int 37))) .nil)))) .nil))) (.cons (.val (.cst (.int 2147483497))) .nil)))) .nil)) (.cons (.asg 4 (.ite (.prim .lt (.cons (.val (.var 1)) (.cons (.val (.prim .len (.cons (.val (.var 0)) .nil))) .nil))) (.prim .intOf (.cons (.val (.prim .idx (.cons (.val (.var 0)) (.cons (.val (.var 1)) .nil)))) .nil)) (.prim .add (.cons (.val (.prim .mul (.cons (.val (.cst (.int 73))) (.cons (.val (.var 1)) .nil)))) (.cons (.val (.cst (.int 17))) .nil))))) (.cons (.asg 5 (.ite (.prim .ge (.cons (.val (.prim .absI (.cons (.val (.var 4)) .nil))) (.cons (.val (.prim .pow (.cons (.val (.cst (.int 10))) (.cons (.val (.cst (.int 18))) .nil)))) .nil))) (.prim .absI (.cons (.val (.var 4)) .nil)) (.cst (.int 0)))) (.cons (.retF (.lst (.cons (.var 5) (.cons (.prim .mod (.cons (.val (.prim .intOf (.cons (.val (.prim .add (.cons (.val (.var 2)) (.cons (.val (.prim .mul (.cons (.val (.var 4)) (.cons (.val (.cst (.int 58787))) .nil)))) .nil)))) .nil))) (.cons (.val (.cst (.int 2147483497))) .nil))) (.cons (.cst (.int 0)) .nil))))) .nil)))))
def d20 : Df := ⟨⟨2, [], [], true⟩, 6, c20⟩
/-- _law_pull -/
def c21 : CB := (.cons (.setI 0 (.cst (.int 2)) (.prim .add (.cons (.val (.prim .idx (.cons (.pk 0) (.cons (.val (.cst (.int 2))) .nil)))) (.cons (.val (.cst (.int 1))) .nil)))) (.cons (.ite (.prim .gt (.cons (.val (.prim .idx (.cons (.pk 0) (.cons (.val (.cst (.int 0))) .nil)))) (.cons (.val (.cst (.int 0))) .nil))) (.cons (.asg 2 (.prim .mod (.cons (.val (.prim .intOf (.cons (.val (.prim .idx (.cons (.pk 0) (.cons (.val (.cst (.int 0))) .nil)))) .nil))) (.cons (.val (.var 1)) .nil)))) (.cons (.setI 0 (.cst (.int 0)) (.prim .fdiv (.cons (.val (.prim .idx (.cons (.pk 0) (.cons (.val (.cst (.int 0))) .nil)))) (.cons (.val (.var 1)) .nil)))) (.cons (.ret (.var 2)) .nil))) .nil) (.cons (.asg 3 (.prim .idx (.cons (.pk 0) (.cons (.val (.cst (.int 2))) .nil)))) (.cons (.setI 0 (.cst (.int 1)) (.prim .mod (.cons (.val (.prim .intOf (.cons (.val (.prim .add (.cons (.val (.prim .add (.cons (.val (.prim .mul (.cons (.val (.prim .idx (.cons (.pk 0) (.cons (.val (.cst (.int 1))) .nil)))) (.cons (.val (.cst (.int 54881))) .nil)))) (.cons (.val (.prim .mul (.cons (.val (.prim .mul (.cons (.val (.prim .mul (.cons (.val (.cst (.int 6473))) (.cons (.val (.var 3)) .nil)))) (.cons (.val (.var 3)) .nil)))) (.cons (.val (.var 3)) .nil)))) .nil)))) (.cons (.val (.cst (.int 31))) .nil)))) .nil))) (.cons (.val (.cst (.int 2147483543))) .nil)))) (.cons (.ret (.prim .mod (.cons (.val (.prim .intOf (.cons (.val (.prim .fdiv (.cons (.val (.prim .idx (.cons (.pk 0) (.cons (.val (.cst (.int 1))) .nil)))) (.cons (.val (.cst (.int 1031))) .nil)))) .nil))) (.cons (.val (.var 1)) .nil)))) .nil)))))
def d21 : Df := ⟨⟨2, [0], [], false⟩, 4, c21⟩
/-- _law_fits -/
def c22 : CB := (.cons (.for_ (.tp [(.nm 3), (.nm 4)]) (.enum (.cons (.var 2) .nil)) (.cons (.for_ (.tp [(.nm 5), (.nm 6)]) (.enum (.cons (.var 2) .nil)) (.cons (.ite (.and (.prim .gt (.cons (.val (.var 4)) (.cons (.val (.cst (.int 0))) .nil))) (.prim .lt (.cons (.val (.var 6)) (.cons (.val (.prim .len (.cons (.val (.var 0)) .nil))) .nil)))) (.cons (.par [(7, false), (8, false)] (.cons (.prim .idx (.cons (.val (.var 1)) (.cons (.val (.var 3)) .nil))) (.cons (.prim .idx (.cons (.val (.var 1)) (.cons (.val (.var 5)) .nil))) .nil))) (.cons (.ite (.prim .lt (.cons (.val (.prim .mul (.cons (.val (.var 7)) (.cons (.val (.prim .idx (.cons (.val (.var 0)) (.cons (.val (.var 6)) .nil)))) .nil)))) (.cons (.val (.prim .mul (.cons (.val (.var 8)) (.cons (.val (.prim .idx (.cons (.val (.var 0)) (.cons (.val (.prim .sub (.cons (.val (.var 4)) (.cons (.val (.cst (.int 1))) .nil)))) .nil)))) .nil)))) .nil))) (.cons (.ret (.cst (.bl false))) .nil) .nil) .nil)) .nil) .nil)) .nil)) (.cons (.ret (.cst (.bl true))) .nil))
def d22 : Df := ⟨⟨3, [], [], false⟩, 9, c22⟩
/-- _law_from -/
def c23 : CB := (.cons (.ret (.and (.prim (.isI .int) (.cons (.val (.var 0)) .nil)) (.and (.not (.prim (.isI .bool) (.cons (.val (.var 0)) .nil))) (.prim .ge (.cons (.val (.var 0)) (.cons (.val (.cst (.int 0))) .nil)))))) .nil)
def d23 : Df := ⟨⟨1, [], [], false⟩, 1, c23⟩
/-- _law_ladder -/
def c24 : CB := (.cons (.asgO 3 (.lst (.cons (.prim .add (.cons (.val (.cst (.int 1))) (.cons (.val (.call 21 [.a 0, .a 1] (.bor 0 (.val (.var 2) .nil)) .nil)) .nil))) .nil))) (.cons (.for_ (.nm 4) (.rng (.cons (.prim .sub (.cons (.val (.var 1)) (.cons (.val (.cst (.int 1))) .nil))) .nil)) (.cons (.app 3 (.prim .add (.cons (.val (.prim .add (.cons (.val (.prim .idx (.cons (.pk 3) (.cons (.val (.prim .neg (.cons (.val (.cst (.int 1))) .nil))) .nil)))) (.cons (.val (.cst (.int 1))) .nil)))) (.cons (.val (.call 21 [.a 0, .a 1] (.bor 0 (.val (.var 2) .nil)) .nil)) .nil)))) .nil)) (.cons (.ret (.prim .tupOf (.cons (.pk 3) .nil))) .nil)))
def d24 : Df := ⟨⟨3, [0], [], false⟩, 5, c24⟩
/-- _law_mate -/
def c25 : CB := (.cons (.par [(2, false), (3, false)] (.cons (.call 21 [.a 0, .a 1] (.bor 0 (.val (.cst (.int 4)) .nil)) .nil) (.cons (.prim .add (.cons (.val (.cst (.int 1))) (.cons (.val (.call 21 [.a 0, .a 1] (.bor 0 (.val (.prim .max2 (.cons (.val (.cst (.int 1))) (.cons (.val (.prim .fdiv (.cons (.val (.cst (.int 100))) (.cons (.val (.prim .idx (.cons (.val (.var 1)) (.cons (.val (.prim .neg (.cons (.val (.cst (.int 1))) .nil))) .nil)))) .nil)))) .nil))) .nil)) .nil)) .nil))) .nil))) (.cons (.ite (.prim .eq (.cons (.val (.var 2)) (.cons (.val (.cst (.int 0))) .nil))) (.cons (.ret (.call 24 [.a 0, .a 1, .a 2] (.bor 0 (.val (.prim .len (.cons (.val (.var 1)) .nil)) (.val (.cst (.int 8)) .nil))) .nil)) .nil) .nil) (.cons (.asgO 4 (.comp [5] (.prim .mul (.cons (.val (.var 5)) (.cons (.val (.var 3)) .nil))) (.g (.nm 5) (.seq (.var 1)) (.cst (.bl true))))) (.cons (.ite (.and (.prim .eq (.cons (.val (.var 2)) (.cons (.val (.cst (.int 1))) .nil))) (.prim .gt (.cons (.val (.prim .len (.cons (.pk 4) .nil))) (.cons (.val (.cst (.int 1))) .nil)))) (.cons (.asg 6 (.call 21 [.a 0, .a 1] (.bor 0 (.val (.prim .len (.cons (.pk 4) .nil)) .nil)) .nil)) (.cons (.setI 4 (.var 6) (.ite (.or (.prim .eq (.cons (.val (.prim .add (.cons (.val (.var 6)) (.cons (.val (.cst (.int 1))) .nil)))) (.cons (.val (.prim .len (.cons (.pk 4) .nil))) .nil))) (.prim .lt (.cons (.val (.prim .add (.cons (.val (.prim .idx (.cons (.pk 4) (.cons (.val (.var 6)) .nil)))) (.cons (.val (.cst (.int 1))) .nil)))) (.cons (.val (.prim .idx (.cons (.pk 4) (.cons (.val (.prim .add (.cons (.val (.var 6)) (.cons (.val (.cst (.int 1))) .nil)))) .nil)))) .nil)))) (.prim .add (.cons (.val (.prim .idx (.cons (.pk 4) (.cons (.val (.var 6)) .nil)))) (.cons (.val (.cst (.int 1))) .nil))) (.prim .idx (.cons (.pk 4) (.cons (.val (.var 6)) .nil))))) .nil)) .nil) (.cons (.ret (.prim .tupOf (.cons (.val (.ite (.prim .lt (.cons (.val (.prim .idx (.cons (.pk 4) (.cons (.val (.prim .neg (.cons (.val (.cst (.int 1))) .nil))) .nil)))) (.cons (.val (.cst (.int 101))) .nil))) (.fz 4) (.var 1))) .nil))) .nil)))))
def d25 : Df := ⟨⟨2, [0], [], false⟩, 7, c25⟩
/-- _law_are_alike -/
def c26 : CB := (.cons (.asg 3 (.prim .len (.cons (.val (.var 0)) .nil))) (.cons (.for_ (.nm 4) (.rng (.cons (.var 3) .nil)) (.cons (.for_ (.nm 5) (.rng (.cons (.var 3) .nil)) (.cons (.asg 6 (.or (.prim .eq (.cons (.val (.prim .add (.cons (.val (.prim .add (.cons (.val (.var 4)) (.cons (.val (.var 5)) .nil)))) (.cons (.val (.cst (.int 1))) .nil)))) (.cons (.val (.var 3)) .nil))) (.and (.prim .gt (.cons (.val (.var 2)) (.cons (.val (.cst (.int 2))) .nil))) (.prim .lt (.cons (.val (.prim .add (.cons (.val (.prim .add (.cons (.val (.var 4)) (.cons (.val (.var 5)) .nil)))) (.cons (.val (.cst (.int 1))) .nil)))) (.cons (.val (.var 3)) .nil)))))) (.cons (.ite (.and (.var 6) (.prim .ne (.cons (.val (.prim .mul (.cons (.val (.prim .idx (.cons (.val (.var 0)) (.cons (.val (.var 4)) .nil)))) (.cons (.val (.prim .idx (.cons (.val (.var 1)) (.cons (.val (.var 5)) .nil)))) .nil)))) (.cons (.val (.prim .mul (.cons (.val (.prim .idx (.cons (.val (.var 0)) (.cons (.val (.var 5)) .nil)))) (.cons (.val (.prim .idx (.cons (.val (.var 1)) (.cons (.val (.var 4)) .nil)))) .nil)))) .nil)))) (.cons (.ret (.cst (.bl false))) .nil) .nil) .nil))) .nil)) (.cons (.ret (.cst (.bl true))) .nil)))
def d26 : Df := ⟨⟨3, [], [], false⟩, 7, c26⟩
/-- _law_parts_them -/
def c27 : CB := (.cons (.ite (.or (.not (.prim (.isI .tup) (.cons (.val (.var 3)) .nil))) (.prim .ne (.cons (.val (.prim .len (.cons (.val (.var 3)) .nil))) (.cons (.val (.cst (.int 2))) .nil)))) (.cons (.ret (.cst (.bl false))) .nil) .nil) (.cons (.for_ (.nm 4) (.seq (.var 3)) (.cons (.ite (.or (.not (.prim (.isI .tup) (.cons (.val (.var 4)) .nil))) (.or (.prim .ne (.cons (.val (.prim .len (.cons (.val (.var 4)) .nil))) (.cons (.val (.var 2)) .nil))) (.not (.prim .allL (.cons (.val (.comp [5] (.call 23 [.a 0] (.val (.var 5) .nil) .nil) (.g (.nm 5) (.seq (.var 4)) (.cst (.bl true))))) .nil))))) (.cons (.ret (.cst (.bl false))) .nil) .nil) .nil)) (.cons (.ite (.prim .ne (.cons (.val (.prim .sumL (.cons (.val (.prim .idx (.cons (.val (.var 3)) (.cons (.val (.cst (.int 1))) .nil)))) .nil))) (.cons (.val (.prim .len (.cons (.val (.var 0)) .nil))) .nil))) (.cons (.ret (.cst (.bl false))) .nil) .nil) (.cons (.ret (.prim .ne (.cons (.val (.call 22 [.a 0, .a 1, .a 2] (.val (.var 0) (.val (.prim .idx (.cons (.val (.var 3)) (.cons (.val (.cst (.int 0))) .nil))) (.val (.prim .idx (.cons (.val (.var 3)) (.cons (.val (.cst (.int 1))) .nil))) .nil))) .nil)) (.cons (.val (.call 22 [.a 0, .a 1, .a 2] (.val (.var 1) (.val (.prim .idx (.cons (.val (.var 3)) (.cons (.val (.cst (.int 0))) .nil))) (.val (.prim .idx (.cons (.val (.var 3)) (.cons (.val (.cst (.int 1))) .nil))) .nil))) .nil)) .nil)))) .nil))))
def d27 : Df := ⟨⟨4, [], [], false⟩, 6, c27⟩
/-- _law_right -/
def c28 : CB := (.cons (.for_ (.nm 1) (.rng (.cons (.cst (.int 4)) .nil)) (.cons (.par [(5, false), (6, false)] (.cons (.call 24 [.a 0, .a 1, .a 2] (.bor 0 (.val (.prim .sub (.cons (.val (.cst (.int 12))) (.cons (.val (.call 21 [.a 0, .a 1] (.bor 0 (.val (.cst (.int 12)) .nil)) .nil)) .nil))) (.val (.prim .add (.cons (.val (.cst (.int 1))) (.cons (.val (.call 21 [.a 0, .a 1] (.bor 0 (.val (.cst (.int 8)) .nil)) .nil)) .nil))) .nil))) .nil) (.cons (.prim .add (.cons (.val (.cst (.int 2))) (.cons (.val (.call 21 [.a 0, .a 1] (.bor 0 (.val (.cst (.int 5)) .nil)) .nil)) .nil))) .nil))) (.cons (.asg 2 (.call 25 [.a 0, .a 1] (.bor 0 (.val (.var 5) .nil)) .nil)) (.cons (.asg 3 (.ite (.call 26 [.a 0, .a 1, .a 2] (.val (.var 5) (.val (.var 2) (.val (.var 6) .nil))) .nil) (.cst (.str "alike")) (.cst (.str "parted")))) (.cons (.for_ (.nm 4) (.seq (.lst (.cons (.call 16 [.a 0, .a 1, .a 2] (.val (.var 5) (.val (.var 2) (.val (.var 6) .nil))) .nil) (.cons (.call 16 [.a 2, .a 1, .a 0] .nil (.val (.var 6) (.val (.var 2) (.val (.var 5) .nil)))) .nil)))) (.cons (.ite (.or (.not (.prim (.isI .tup) (.cons (.val (.var 4)) .nil))) (.or (.prim .ne (.cons (.val (.prim .len (.cons (.val (.var 4)) .nil))) (.cons (.val (.cst (.int 2))) .nil))) (.prim .ne (.cons (.val (.prim .repr (.cons (.val (.prim .idx (.cons (.val (.var 4)) (.cons (.val (.cst (.int 0))) .nil)))) .nil))) (.cons (.val (.prim .repr (.cons (.val (.tup (.cons (.var 3) (.cons (.var 5) (.cons (.var 2) (.cons (.var 6) .nil)))))) .nil))) .nil))))) (.cons (.ret (.cst (.bl false))) .nil) .nil) (.cons (.ite (.and (.prim .eq (.cons (.val (.var 3)) (.cons (.val (.cst (.str "alike"))) .nil))) (.prim .ne (.cons (.val (.prim .repr (.cons (.val (.prim .idx (.cons (.val (.var 4)) (.cons (.val (.cst (.int 1))) .nil)))) .nil))) (.cons (.val (.cst (.str "()"))) .nil)))) (.cons (.ret (.cst (.bl false))) .nil) .nil) (.cons (.ite (.and (.prim .eq (.cons (.val (.var 3)) (.cons (.val (.cst (.str "parted"))) .nil))) (.not (.call 27 [.a 0, .a 1, .a 2, .a 3] (.val (.var 5) (.val (.var 2) (.val (.var 6) (.val (.prim .idx (.cons (.val (.var 4)) (.cons (.val (.cst (.int 1))) .nil))) .nil)))) .nil))) (.cons (.ret (.cst (.bl false))) .nil) .nil) (.cons (.ite (.prim .isnb (.cons (.val (.call 19 [.a 0, .a 1] (.val (.prim .idx (.cons (.val (.var 4)) (.cons (.val (.cst (.int 0))) .nil))) (.val (.prim .idx (.cons (.val (.var 4)) (.cons (.val (.cst (.int 1))) .nil))) .nil)) .nil)) (.cons (.val (.cst (.bl true))) .nil))) (.cons (.ret (.cst (.bl false))) .nil) .nil) .nil))))) .nil))))) (.cons (.ret (.cst (.bl true))) .nil))
def d28 : Df := ⟨⟨1, [0], [], false⟩, 7, c28⟩
/-- law -/
def c29 : CB := (.cons (.ret (.prim .allL (.cons (.val (.comp [1] (.call 28 [.a 0] (.tmp (.call 20 [.a 0, .a 1] (.val (.var 0) (.val (.var 1) .nil)) .nil) .nil) .nil) (.g (.nm 1) (.rng (.cons (.prim .max2 (.cons (.val (.cst (.int 2))) (.cons (.val (.prim .min2 (.cons (.val (.prim .len (.cons (.val (.var 0)) .nil))) (.cons (.val (.cst (.int 5))) .nil)))) .nil))) .nil)) (.cst (.bl true))))) .nil))) .nil)
def d29 : Df := ⟨⟨1, [], [], false⟩, 2, c29⟩
def glbT : List D := [(.int 12), (.int 100), (.int 6), (.int 6), (.int 1000000), (.str "abcdefghijklmnopqrstuvwxyz"), (.str "0123456789"), (.int 8), (.int 8), (.tup [(.int 0), (.int 1)])]
def dfT0 : List Df := [d0, d1, d2, d3, d4, d5, d6, d7, d8, d9]
def dfT1 : List Df := [d10, d11, d12, d13, d14, d15, d16, d17, d18, d19]
def dfT2 : List Df := [d20, d21, d22, d23, d24, d25, d26, d27, d28, d29]
def dfT : List Df := dfT0 ++ dfT1 ++ dfT2
def T : Tab := ⟨fun n => glbT[n]?, fun n => dfT[n]?⟩
@[simp] theorem sgl0 : T.pg.sig 0 = some d0.sg := rfl
@[simp] theorem dg0 : d0.sg = ⟨1, [], [], false⟩ := rfl
@[simp] theorem sgl1 : T.pg.sig 1 = some d1.sg := rfl
@[simp] theorem dg1 : d1.sg = ⟨3, [], [], false⟩ := rfl
@[simp] theorem sgl2 : T.pg.sig 2 = some d2.sg := rfl
@[simp] theorem dg2 : d2.sg = ⟨2, [], [], false⟩ := rfl
@[simp] theorem sgl3 : T.pg.sig 3 = some d3.sg := rfl
@[simp] theorem dg3 : d3.sg = ⟨2, [], [], false⟩ := rfl
@[simp] theorem sgl4 : T.pg.sig 4 = some d4.sg := rfl
@[simp] theorem dg4 : d4.sg = ⟨2, [], [], false⟩ := rfl
@[simp] theorem sgl5 : T.pg.sig 5 = some d5.sg := rfl
@[simp] theorem dg5 : d5.sg = ⟨2, [], [], false⟩ := rfl
@[simp] theorem sgl6 : T.pg.sig 6 = some d6.sg := rfl
@[simp] theorem dg6 : d6.sg = ⟨1, [], [], false⟩ := rfl
@[simp] theorem sgl7 : T.pg.sig 7 = some d7.sg := rfl
@[simp] theorem dg7 : d7.sg = ⟨1, [], [], false⟩ := rfl
@[simp] theorem sgl8 : T.pg.sig 8 = some d8.sg := rfl
@[simp] theorem dg8 : d8.sg = ⟨3, [], [], false⟩ := rfl
@[simp] theorem sgl9 : T.pg.sig 9 = some d9.sg := rfl
@[simp] theorem dg9 : d9.sg = ⟨2, [], [], false⟩ := rfl
@[simp] theorem sgl10 : T.pg.sig 10 = some d10.sg := rfl
@[simp] theorem dg10 : d10.sg = ⟨3, [], [], false⟩ := rfl
@[simp] theorem sgl11 : T.pg.sig 11 = some d11.sg := rfl
@[simp] theorem dg11 : d11.sg = ⟨3, [], [], false⟩ := rfl
@[simp] theorem sgl12 : T.pg.sig 12 = some d12.sg := rfl
@[simp] theorem dg12 : d12.sg = ⟨3, [], [], false⟩ := rfl
@[simp] theorem sgl13 : T.pg.sig 13 = some d13.sg := rfl
@[simp] theorem dg13 : d13.sg = ⟨2, [], [], false⟩ := rfl
@[simp] theorem sgl14 : T.pg.sig 14 = some d14.sg := rfl
@[simp] theorem dg14 : d14.sg = ⟨4, [], [], false⟩ := rfl
@[simp] theorem sgl15 : T.pg.sig 15 = some d15.sg := rfl
@[simp] theorem dg15 : d15.sg = ⟨3, [], [], false⟩ := rfl
@[simp] theorem sgl16 : T.pg.sig 16 = some d16.sg := rfl
@[simp] theorem dg16 : d16.sg = ⟨3, [], [], false⟩ := rfl
@[simp] theorem sgl17 : T.pg.sig 17 = some d17.sg := rfl
@[simp] theorem dg17 : d17.sg = ⟨2, [], [], false⟩ := rfl
@[simp] theorem sgl18 : T.pg.sig 18 = some d18.sg := rfl
@[simp] theorem dg18 : d18.sg = ⟨2, [], [], false⟩ := rfl
@[simp] theorem sgl19 : T.pg.sig 19 = some d19.sg := rfl
@[simp] theorem dg19 : d19.sg = ⟨2, [], [], false⟩ := rfl
@[simp] theorem sgl20 : T.pg.sig 20 = some d20.sg := rfl
@[simp] theorem dg20 : d20.sg = ⟨2, [], [], true⟩ := rfl
@[simp] theorem sgl21 : T.pg.sig 21 = some d21.sg := rfl
@[simp] theorem dg21 : d21.sg = ⟨2, [0], [], false⟩ := rfl
@[simp] theorem sgl22 : T.pg.sig 22 = some d22.sg := rfl
@[simp] theorem dg22 : d22.sg = ⟨3, [], [], false⟩ := rfl
@[simp] theorem sgl23 : T.pg.sig 23 = some d23.sg := rfl
@[simp] theorem dg23 : d23.sg = ⟨1, [], [], false⟩ := rfl
@[simp] theorem sgl24 : T.pg.sig 24 = some d24.sg := rfl
@[simp] theorem dg24 : d24.sg = ⟨3, [0], [], false⟩ := rfl
@[simp] theorem sgl25 : T.pg.sig 25 = some d25.sg := rfl
@[simp] theorem dg25 : d25.sg = ⟨2, [0], [], false⟩ := rfl
@[simp] theorem sgl26 : T.pg.sig 26 = some d26.sg := rfl
@[simp] theorem dg26 : d26.sg = ⟨3, [], [], false⟩ := rfl
@[simp] theorem sgl27 : T.pg.sig 27 = some d27.sg := rfl
@[simp] theorem dg27 : d27.sg = ⟨4, [], [], false⟩ := rfl
@[simp] theorem sgl28 : T.pg.sig 28 = some d28.sg := rfl
@[simp] theorem dg28 : d28.sg = ⟨1, [0], [], false⟩ := rfl
@[simp] theorem sgl29 : T.pg.sig 29 = some d29.sg := rfl
@[simp] theorem dg29 : d29.sg = ⟨1, [], [], false⟩ := rfl
@[simp] theorem gll0 : T.pg.glb 0 = some (.int 12) := rfl
@[simp] theorem gll1 : T.pg.glb 1 = some (.int 100) := rfl
@[simp] theorem gll2 : T.pg.glb 2 = some (.int 6) := rfl
@[simp] theorem gll3 : T.pg.glb 3 = some (.int 6) := rfl
@[simp] theorem gll4 : T.pg.glb 4 = some (.int 1000000) := rfl
@[simp] theorem gll5 : T.pg.glb 5 = some (.str "abcdefghijklmnopqrstuvwxyz") := rfl
@[simp] theorem gll6 : T.pg.glb 6 = some (.str "0123456789") := rfl
@[simp] theorem gll7 : T.pg.glb 7 = some (.int 8) := rfl
@[simp] theorem gll8 : T.pg.glb 8 = some (.int 8) := rfl
@[simp] theorem gll9 : T.pg.glb 9 = some (.tup [(.int 0), (.int 1)]) := rfl
end DL
set_option Elab.async false
set_option linter.all false
set_option maxRecDepth 100000
set_option maxHeartbeats 4000000
set_option exponentiation.threshold 5000
namespace DL.Pl
open PySem L2
/-! ### small values -/
theorem is_whole_int (n : Nat) {a : Int} : callN T (n + 1) 0 [.int a] = .ok (.bl true) [.int a] := by
  refine WF.eq (WF_def (d := d0) rfl rfl ?_)
  simp [d0, c0, init, argS, outsOf, solve, seen, frAt, fzAt, owAt, ownD, putN_eq, putO_eq, putT_nm, putT_tp, putT_tl, putTs, putPar, chg, setD, appD, isOL, wipeP, plainS, wipeS, back, argsOf, argD, avD, lendOk, lendP, pmA, avB, giveBack, pairD, runP, addP, subP, mulP, modP, negP, eqP, neP, eqD_int, eqD_bool, eqD_str, isBo_plain, allP, anyP, sumP, ltP, leP, gtP, geP, isNP, isnNP, lenP, isIP, isTy, tupOfP, min2P, max2P, minP, maxP, absP, intP, idxP, slcP, cut1, cutL, items, rngI, enumI, zipI, szl, Function.comp_def]
theorem is_integer_int (n : Nat) {a lo hi : Int} : callN T (n + 2) 1 [.int a, .int lo, .int hi] = .ok (.bl (decide (lo ≤ a ∧ a ≤ hi))) [.int a, .int lo, .int hi] := by
  refine WF.eq (WF_def (d := d1) rfl rfl ?_)
  simp [d1, c1, init, argS, outsOf, solve, seen, frAt, fzAt, owAt, ownD, putN_eq, putO_eq, putT_nm, putT_tp, putT_tl, putTs, putPar, chg, setD, appD, isOL, wipeP, plainS, wipeS, back, argsOf, argD, avD, lendOk, lendP, pmA, avB, giveBack, pairD, runP, addP, subP, mulP, modP, negP, eqP, neP, eqD_int, eqD_bool, eqD_str, isBo_plain, allP, anyP, sumP, ltP, leP, gtP, geP, isNP, isnNP, lenP, isIP, isTy, tupOfP, min2P, max2P, minP, maxP, absP, intP, idxP, slcP, cut1, cutL, items, rngI, enumI, zipI, szl, Function.comp_def, is_whole_int]
  refine Br.mk (fun c => ?_) (fun c => ?_) <;> simp at c <;> simp [init, argS, outsOf, solve, seen, frAt, fzAt, owAt, ownD, putN_eq, putO_eq, putT_nm, putT_tp, putT_tl, putTs, putPar, chg, setD, appD, isOL, wipeP, plainS, wipeS, back, argsOf, argD, avD, lendOk, lendP, pmA, avB, giveBack, pairD, runP, addP, subP, mulP, modP, negP, eqP, neP, eqD_int, eqD_bool, eqD_str, isBo_plain, allP, anyP, sumP, ltP, leP, gtP, geP, isNP, isnNP, lenP, isIP, isTy, tupOfP, min2P, max2P, minP, maxP, absP, intP, idxP, slcP, cut1, cutL, items, rngI, enumI, zipI, szl, Function.comp_def, c]
  omega
theorem gcd_step (x y : Int) : Int.gcd y (x % y) = Int.gcd x y := by
  have h := Int.gcd_add_mul_left_right y (x % y) (x / y)
  rw [Int.emod_add_mul_ediv] at h
  rw [← h, Int.gcd_comm]
theorem emod_le {x y : Int} (hx : 0 ≤ x) (hy : 0 < y) : x % y ≤ x := by
  have e := Int.emod_add_mul_ediv x y
  have : 0 ≤ y * (x / y) := Int.mul_nonneg (by omega) (Int.ediv_nonneg hx (by omega))
  omega
theorem common_ok (n : Nat) {a b : Int} (ha : 0 ≤ a) (hb : 0 ≤ b) (ha2 : a < 2 ^ 1000) (hb2 : b < 2 ^ 1000) : callN T (n + 1) 3 [.int a, .int b] = .ok (.int (Int.gcd a b)) [.int a, .int b] := by
  refine WF.eq (WF_def (d := d3) rfl rfl ?_)
  simp [d3, c3, init, argS, outsOf, solve, seen, frAt, fzAt, owAt, ownD, putN_eq, putO_eq, putT_nm, putT_tp, putT_tl, putTs, putPar, chg, setD, appD, isOL, wipeP, plainS, wipeS, back, argsOf, argD, avD, lendOk, lendP, pmA, avB, giveBack, pairD, runP, addP, subP, mulP, modP, negP, eqP, neP, eqD_int, eqD_bool, eqD_str, isBo_plain, allP, anyP, sumP, ltP, leP, gtP, geP, isNP, isnNP, lenP, isIP, isTy, tupOfP, min2P, max2P, minP, maxP, absP, intP, idxP, slcP, cut1, cutL, items, rngI, enumI, zipI, szl, Function.comp_def]
  refine W_whileL (fun m s => ∃ x y : Int, s = [.fr (.int x), .fr (.int y)] ∧ 0 ≤ x ∧ 0 ≤ y ∧ Int.gcd x y = Int.gcd a b ∧ ((y ≤ x ∧ x * y < 2 ^ m) ∨ (1 ≤ m ∧ x * y < 2 ^ (m - 1)))) ?_ wlim 2001 _ (by decide) ⟨a, b, rfl, ha, hb, rfl, .inr ⟨by decide, ?_⟩⟩
  · rintro m s ⟨x, y, rfl, hx, hy, hg, hm⟩
    simp [init, argS, outsOf, solve, seen, frAt, fzAt, owAt, ownD, putN_eq, putO_eq, putT_nm, putT_tp, putT_tl, putTs, putPar, chg, setD, appD, isOL, wipeP, plainS, wipeS, back, argsOf, argD, avD, lendOk, lendP, pmA, avB, giveBack, pairD, runP, addP, subP, mulP, modP, negP, eqP, neP, eqD_int, eqD_bool, eqD_str, isBo_plain, allP, anyP, sumP, ltP, leP, gtP, geP, isNP, isnNP, lenP, isIP, isTy, tupOfP, min2P, max2P, minP, maxP, absP, intP, idxP, slcP, cut1, cutL, items, rngI, enumI, zipI, szl, Function.comp_def]
    refine Br.mk (fun c => ?_) (fun c => ?_) <;> simp at c
    · simp [init, argS, outsOf, solve, seen, frAt, fzAt, owAt, ownD, putN_eq, putO_eq, putT_nm, putT_tp, putT_tl, putTs, putPar, chg, setD, appD, isOL, wipeP, plainS, wipeS, back, argsOf, argD, avD, lendOk, lendP, pmA, avB, giveBack, pairD, runP, addP, subP, mulP, modP, negP, eqP, neP, eqD_int, eqD_bool, eqD_str, isBo_plain, allP, anyP, sumP, ltP, leP, gtP, geP, isNP, isnNP, lenP, isIP, isTy, tupOfP, min2P, max2P, minP, maxP, absP, intP, idxP, slcP, cut1, cutL, items, rngI, enumI, zipI, szl, Function.comp_def, c]
      have hr1 := Int.emod_nonneg x (Int.ne_of_gt c)
      have hr2 := Int.emod_lt_of_pos x c
      have key : y * (x % y) < 2 ^ (m - 1) ∧ 1 ≤ m := by
        rcases hm with ⟨h1, h2⟩ | ⟨h1, h2⟩
        · cases m with
          | zero =>
            have : 0 < x * y := Int.mul_pos (by omega) c
            simp at h2
            omega
          | succ m =>
            refine ⟨?_, by omega⟩
            have e : x = y * (x / y) + x % y := (Int.mul_ediv_add_emod x y).symm
            have q : 1 ≤ x / y := by
              exact (Int.le_ediv_iff_mul_le c).mpr (by omega)
            have h3 : y + x % y ≤ x := by
              have : y * 1 ≤ y * (x / y) := Int.mul_le_mul_of_nonneg_left q (by omega)
              omega
            have h4 : (y + x % y) * y ≤ x * y := Int.mul_le_mul_of_nonneg_right h3 (by omega)
            have h5 : (y + x % y) * y = y * y + y * (x % y) := by rw [Int.add_mul, Int.mul_comm (x % y)]
            have h6 : y * (x % y) ≤ y * y := Int.mul_le_mul_of_nonneg_left (by omega) (by omega)
            have h7 : (2 : Int) ^ (m + 1) = 2 * 2 ^ m := by rw [Int.pow_succ, Int.mul_comm]
            show y * (x % y) < 2 ^ m
            omega
        · refine ⟨?_, h1⟩
          have h6 : y * (x % y) ≤ y * x := Int.mul_le_mul_of_nonneg_left (emod_le hx c) (by omega)
          rw [Int.mul_comm y x] at h6
          omega
      refine ⟨m - 1, by omega, y, x % y, ⟨rfl, rfl⟩, by omega, hr1, ?_, .inl ⟨by omega, key.1⟩⟩
      rw [gcd_step, hg]
    · simp [init, argS, outsOf, solve, seen, frAt, fzAt, owAt, ownD, putN_eq, putO_eq, putT_nm, putT_tp, putT_tl, putTs, putPar, chg, setD, appD, isOL, wipeP, plainS, wipeS, back, argsOf, argD, avD, lendOk, lendP, pmA, avB, giveBack, pairD, runP, addP, subP, mulP, modP, negP, eqP, neP, eqD_int, eqD_bool, eqD_str, isBo_plain, allP, anyP, sumP, ltP, leP, gtP, geP, isNP, isnNP, lenP, isIP, isTy, tupOfP, min2P, max2P, minP, maxP, absP, intP, idxP, slcP, cut1, cutL, items, rngI, enumI, zipI, szl, Function.comp_def]
      have : y = 0 := by omega
      subst this
      rw [← hg]
      simp
      omega
  · have : a * b ≤ (2 ^ 1000) * (2 ^ 1000) := Int.mul_le_mul (by omega) (by omega) hb (by decide)
    show a * b < 2 ^ 2000
    have h2 : (2 : Int) ^ 1000 * 2 ^ 1000 = 2 ^ 2000 := by rw [← Int.pow_add]
    have : a * b < (2 ^ 1000) * (2 ^ 1000) := by
      have h3 : a * b ≤ (2 ^ 1000 - 1) * (2 ^ 1000) := Int.mul_le_mul (by omega) (by omega) hb (by decide)
      have h4 : ((2 : Int) ^ 1000 - 1) * 2 ^ 1000 = 2 ^ 1000 * 2 ^ 1000 - 2 ^ 1000 := by rw [Int.sub_mul, Int.one_mul]
      omega
    omega

/-- the lowest terms of a fraction -/
def lo1 (t b : Int) : Int := t / (Int.gcd t b : Int)
def lo2 (t b : Int) : Int := b / (Int.gcd t b : Int)
def lowD (t b : Int) : D := .tup [.int (lo1 t b), .int (lo2 t b)]
theorem gcd_pos {t b : Int} (hb : 0 < b) : (0 : Int) < (Int.gcd t b : Int) := by
  have : 0 < Int.gcd t b := Int.gcd_pos_of_ne_zero_right _ (by omega)
  omega
theorem lo2_pos {t b : Int} (hb : 0 < b) : 0 < lo2 t b := by
  unfold lo2
  exact Int.ediv_pos_of_pos_of_dvd hb (Int.le_of_lt (gcd_pos hb)) (Int.gcd_dvd_right ..)
theorem lo2_le {t b : Int} (hb : 0 < b) : lo2 t b ≤ b := Int.ediv_le_self _ (by omega)
theorem lo1_nonneg {t b : Int} (ht : 0 ≤ t) (hb : 0 < b) : 0 ≤ lo1 t b := Int.ediv_nonneg ht (Int.le_of_lt (gcd_pos hb))
theorem lo1_le {t b : Int} (ht : 0 ≤ t) : lo1 t b ≤ t := Int.ediv_le_self _ ht
theorem lo1_mul {t b : Int} : lo1 t b * (Int.gcd t b : Int) = t := Int.ediv_mul_cancel (Int.gcd_dvd_left ..)
theorem lo2_mul {t b : Int} : lo2 t b * (Int.gcd t b : Int) = b := Int.ediv_mul_cancel (Int.gcd_dvd_right ..)
theorem lo_cross {t b : Int} (hb : 0 < b) : lo1 t b * b = t * lo2 t b := by
  have h1 := lo1_mul (t := t) (b := b)
  have h2 := lo2_mul (t := t) (b := b)
  calc lo1 t b * b = lo1 t b * (lo2 t b * (Int.gcd t b : Int)) := by rw [h2]
    _ = (lo1 t b * (Int.gcd t b : Int)) * lo2 t b := by rw [Int.mul_comm (lo2 t b), Int.mul_assoc]
    _ = t * lo2 t b := by rw [h1]
theorem lo_gcd {t b : Int} (hb : 0 < b) : Int.gcd (lo1 t b) (lo2 t b) = 1 := by
  have h := Int.gcd_ediv_gcd_ediv_gcd (i := t) (j := b) (Int.gcd_pos_of_ne_zero_right _ (by omega))
  exact h
theorem dvd_cop {a b c : Int} (h : a ∣ b * c) (g : Int.gcd a b = 1) : a ∣ c := by
  rw [← Int.natAbs_dvd_natAbs] at h ⊢
  rw [Int.natAbs_mul] at h
  exact Nat.Coprime.dvd_of_dvd_mul_left g h
/-- equal in lowest terms just if the cross products are -/
theorem low_eq {t b u c : Int} (hb : 0 < b) (hc : 0 < c) : lowD t b = lowD u c ↔ t * c = u * b := by
  unfold lowD
  rw [D.tup.injEq, List.cons.injEq, List.cons.injEq, D.int.injEq, D.int.injEq]
  constructor
  · rintro ⟨h1, h2, _⟩
    have e1 := lo_cross (t := t) hb
    have e2 := lo_cross (t := u) hc
    have p := lo2_pos (t := t) hb
    have e3 : (t * c) * lo2 t b = (u * b) * lo2 t b := by
      calc (t * c) * lo2 t b = (t * lo2 t b) * c := by rw [Int.mul_assoc, Int.mul_comm c, Int.mul_assoc]
        _ = (lo1 t b * b) * c := by rw [e1]
        _ = (lo1 u c * c) * b := by rw [h1, Int.mul_assoc, Int.mul_comm b, Int.mul_assoc]
        _ = (u * lo2 u c) * b := by rw [e2]
        _ = (u * b) * lo2 t b := by rw [← h2, Int.mul_assoc, Int.mul_comm (lo2 t b), Int.mul_assoc]
    exact Int.eq_of_mul_eq_mul_right (by omega) e3
  · intro h
    have p1 := lo2_pos (t := t) hb
    have p2 := lo2_pos (t := u) hc
    have g1 := gcd_pos (t := t) hb
    have g2 := gcd_pos (t := u) hc
    have e : lo1 t b * lo2 u c = lo1 u c * lo2 t b := by
      have k : (lo1 t b * lo2 u c) * ((Int.gcd t b : Int) * (Int.gcd u c : Int)) = (lo1 u c * lo2 t b) * ((Int.gcd t b : Int) * (Int.gcd u c : Int)) := by
        calc (lo1 t b * lo2 u c) * ((Int.gcd t b : Int) * (Int.gcd u c : Int)) = (lo1 t b * (Int.gcd t b : Int)) * (lo2 u c * (Int.gcd u c : Int)) := by ac_rfl
          _ = t * c := by rw [lo1_mul, lo2_mul]
          _ = u * b := h
          _ = (lo1 u c * (Int.gcd u c : Int)) * (lo2 t b * (Int.gcd t b : Int)) := by rw [lo1_mul, lo2_mul]
          _ = (lo1 u c * lo2 t b) * ((Int.gcd t b : Int) * (Int.gcd u c : Int)) := by ac_rfl
      exact Int.eq_of_mul_eq_mul_right (Int.ne_of_gt (Int.mul_pos g1 g2)) k
    have c1 := lo_gcd (t := t) hb
    have c2 := lo_gcd (t := u) hc
    have d1 : lo2 t b ∣ lo2 u c := by
      refine dvd_cop (b := lo1 t b) ?_ (by rw [Int.gcd_comm]; exact c1)
      exact ⟨lo1 u c, by rw [e, Int.mul_comm]⟩
    have d2 : lo2 u c ∣ lo2 t b := by
      refine dvd_cop (b := lo1 u c) ?_ (by rw [Int.gcd_comm]; exact c2)
      exact ⟨lo1 t b, by rw [← e, Int.mul_comm]⟩
    have z : lo2 t b = lo2 u c := Int.dvd_antisymm (by omega) (by omega) d1 d2
    refine ⟨?_, z, rfl⟩
    rw [← z] at e
    exact Int.eq_of_mul_eq_mul_right (by omega) e
theorem lowest_ok (n : Nat) {a b : Int} (hb : 0 < b) (ha2 : a < 2 ^ 1000) (ha3 : -(2 ^ 1000) < a) (hb2 : b < 2 ^ 1000) : callN T (n + 2) 4 [.int a, .int b] = .ok (lowD a b) [.int a, .int b] := by
  have e : Int.gcd (if a < 0 then -a else a) b = Int.gcd a b := by
    split
    · exact Int.neg_gcd
    · rfl
  have h := common_ok n (a := if a < 0 then -a else a) (b := b) (by split <;> omega) (by omega) (by split <;> omega) hb2
  have g := gcd_pos (t := a) hb
  have g2 : (Int.gcd a b : Int) ≤ b := Int.le_of_dvd hb (Int.gcd_dvd_right ..)
  have l := log2_of (i := (Int.gcd a b : Int)) (k := 0) (by omega) (by omega)
  refine WF.eq (WF_def (d := d4) rfl rfl ?_)
  simp [d4, c4, init, argS, outsOf, solve, seen, frAt, fzAt, owAt, ownD, putN_eq, putO_eq, putT_nm, putT_tp, putT_tl, putTs, putPar, chg, setD, appD, isOL, wipeP, plainS, wipeS, back, argsOf, argD, avD, lendOk, lendP, pmA, avB, giveBack, pairD, runP, addP, subP, mulP, modP, negP, eqP, neP, eqD_int, eqD_bool, eqD_str, isBo_plain, allP, anyP, sumP, ltP, leP, gtP, geP, isNP, isnNP, lenP, isIP, isTy, tupOfP, min2P, max2P, minP, maxP, absP, intP, idxP, slcP, cut1, cutL, items, rngI, enumI, zipI, szl, Function.comp_def]
  refine WF_eq h ?_
  rw [e]
  simp at l
  simp [init, argS, outsOf, solve, seen, frAt, fzAt, owAt, ownD, putN_eq, putO_eq, putT_nm, putT_tp, putT_tl, putTs, putPar, chg, setD, appD, isOL, wipeP, plainS, wipeS, back, argsOf, argD, avD, lendOk, lendP, pmA, avB, giveBack, pairD, runP, addP, subP, mulP, modP, negP, eqP, neP, eqD_int, eqD_bool, eqD_str, isBo_plain, allP, anyP, sumP, ltP, leP, gtP, geP, isNP, isnNP, lenP, isIP, isTy, tupOfP, min2P, max2P, minP, maxP, absP, intP, idxP, slcP, cut1, cutL, items, rngI, enumI, zipI, szl, Function.comp_def, fdivP, g, l, lowD, lo1, lo2]
  omega
theorem is_above_ok (n : Nat) {a b c d : Int} (hb : mulOk a d = true) (hc : mulOk c b = true) : callN T (n + 1) 5 [.tup [.int a, .int b], .tup [.int c, .int d]] = .ok (.bl (decide (c * b < a * d))) [.tup [.int a, .int b], .tup [.int c, .int d]] := by
  refine WF.eq (WF_def (d := d5) rfl rfl ?_)
  simp [d5, c5, init, argS, outsOf, solve, seen, frAt, fzAt, owAt, ownD, putN_eq, putO_eq, putT_nm, putT_tp, putT_tl, putTs, putPar, chg, setD, appD, isOL, wipeP, plainS, wipeS, back, argsOf, argD, avD, lendOk, lendP, pmA, avB, giveBack, pairD, runP, addP, subP, mulP, modP, negP, eqP, neP, eqD_int, eqD_bool, eqD_str, isBo_plain, allP, anyP, sumP, ltP, leP, gtP, geP, isNP, isnNP, lenP, isIP, isTy, tupOfP, min2P, max2P, minP, maxP, absP, intP, idxP, slcP, cut1, cutL, items, rngI, enumI, zipI, szl, Function.comp_def, atI, ixN, hb, hc]
theorem low_lt {t b u c : Int} (hb : 0 < b) (hc : 0 < c) : lo1 t b * lo2 u c < lo1 u c * lo2 t b ↔ t * c < u * b := by
  have g1 := gcd_pos (t := t) hb
  have g2 := gcd_pos (t := u) hc
  have e1 : (lo1 t b * lo2 u c) * ((Int.gcd t b : Int) * (Int.gcd u c : Int)) = t * c := by
    calc (lo1 t b * lo2 u c) * ((Int.gcd t b : Int) * (Int.gcd u c : Int)) = (lo1 t b * (Int.gcd t b : Int)) * (lo2 u c * (Int.gcd u c : Int)) := by ac_rfl
      _ = t * c := by rw [lo1_mul, lo2_mul]
  have e2 : (lo1 u c * lo2 t b) * ((Int.gcd t b : Int) * (Int.gcd u c : Int)) = u * b := by
    calc (lo1 u c * lo2 t b) * ((Int.gcd t b : Int) * (Int.gcd u c : Int)) = (lo1 u c * (Int.gcd u c : Int)) * (lo2 t b * (Int.gcd t b : Int)) := by ac_rfl
      _ = u * b := by rw [lo1_mul, lo2_mul]
  rw [← e1, ← e2]
  have g := Int.mul_pos g1 g2
  exact ⟨fun h => Int.mul_lt_mul_of_pos_right h g, fun h => Int.lt_of_mul_lt_mul_right h (Int.le_of_lt g)⟩
theorem frac_a {A B p q s t : Int} (h1 : A * q ≤ p * B) (h2 : p * t < s * q) (hq : 0 < q) (hB : 0 < B) (ht : 0 ≤ t) : A * t < s * B := by
  refine Int.lt_of_mul_lt_mul_right (a := q) ?_ (by omega)
  have e1 : A * t * q = A * q * t := by ac_rfl
  have e2 : s * B * q = s * q * B := by ac_rfl
  have e3 : p * B * t = p * t * B := by ac_rfl
  have h3 : A * q * t ≤ p * B * t := Int.mul_le_mul_of_nonneg_right h1 ht
  have h4 : p * t * B < s * q * B := Int.mul_lt_mul_of_pos_right h2 hB
  omega
theorem frac_b {B C u v s t : Int} (h1 : s * v < u * t) (h2 : u * B = C * v) (hv : 0 < v) (hB : 0 < B) : s * B < C * t := by
  refine Int.lt_of_mul_lt_mul_right (a := v) ?_ (by omega)
  have e1 : s * B * v = s * v * B := by ac_rfl
  have e2 : C * t * v = C * v * t := by ac_rfl
  have e3 : u * t * B = u * B * t := by ac_rfl
  have h4 : s * v * B < u * t * B := Int.mul_lt_mul_of_pos_right h1 hB
  rw [e1, e2, ← h2]
  omega
theorem lo_bounds {t b : Int} (ht : 0 ≤ t) (hb : 0 < b) : 0 ≤ lo1 t b ∧ lo1 t b ≤ t ∧ 0 < lo2 t b ∧ lo2 t b ≤ b := ⟨lo1_nonneg ht hb, lo1_le ht, lo2_pos hb, lo2_le hb⟩
theorem mul_bd {a b A B : Int} (a0 : 0 ≤ a) (a1 : a ≤ A) (b0 : 0 ≤ b) (b1 : b ≤ B) : 0 ≤ a * b ∧ a * b ≤ A * B := ⟨Int.mul_nonneg a0 b0, Int.mul_le_mul a1 b1 b0 (by omega)⟩
theorem lowD_eq (t b : Int) : lowD t b = .tup [.int (lo1 t b), .int (lo2 t b)] := rfl

/-! ### rows of divisors -/
abbrev tI (l : List Int) : D := .tup (l.map .int)
structure Row (l : List Int) : Prop where
  l1 : 1 ≤ l.length
  l2 : l.length ≤ 12
  asc : l.Pairwise (· < ·)
  rng : ∀ x ∈ l, 1 ≤ x ∧ x ≤ 100
theorem are_divisors_ok (n : Nat) {l : List Int} (h : Row l) : callN T (n + 3) 6 [tI l] = .ok (.bl true) [tI l] := by
  have h1 := h.l1
  have h2 := h.l2
  refine WF.eq (WF_def (d := d6) rfl rfl ?_)
  simp [d6, c6, init, argS, outsOf, solve, seen, frAt, fzAt, owAt, ownD, putN_eq, putO_eq, putT_nm, putT_tp, putT_tl, putTs, putPar, chg, setD, appD, isOL, wipeP, plainS, wipeS, back, argsOf, argD, avD, lendOk, lendP, pmA, avB, giveBack, pairD, runP, addP, subP, mulP, modP, negP, eqP, neP, eqD_int, eqD_bool, eqD_str, isBo_plain, allP, anyP, sumP, ltP, leP, gtP, geP, isNP, isnNP, lenP, isIP, isTy, tupOfP, min2P, max2P, minP, maxP, absP, intP, idxP, slcP, cut1, cutL, items, rngI, enumI, zipI, szl, Function.comp_def]
  have e1 : (1 : Int) ≤ l.length := by omega
  have e2 : (l.length : Int) ≤ 12 := by omega
  simp [init, argS, outsOf, solve, seen, frAt, fzAt, owAt, ownD, putN_eq, putO_eq, putT_nm, putT_tp, putT_tl, putTs, putPar, chg, setD, appD, isOL, wipeP, plainS, wipeS, back, argsOf, argD, avD, lendOk, lendP, pmA, avB, giveBack, pairD, runP, addP, subP, mulP, modP, negP, eqP, neP, eqD_int, eqD_bool, eqD_str, isBo_plain, allP, anyP, sumP, ltP, leP, gtP, geP, isNP, isnNP, lenP, isIP, isTy, tupOfP, min2P, max2P, minP, maxP, absP, intP, idxP, slcP, cut1, cutL, items, rngI, enumI, zipI, szl, Function.comp_def, e1, e2]
  refine W_comp_map (fun _ => .bl true) (fun x hx => ?_) (by simp [szl]; omega) ?_
  · obtain ⟨a, ha, rfl⟩ := List.mem_map.mp hx
    have := h.rng a ha
    simp [init, argS, outsOf, solve, seen, frAt, fzAt, owAt, ownD, putN_eq, putO_eq, putT_nm, putT_tp, putT_tl, putTs, putPar, chg, setD, appD, isOL, wipeP, plainS, wipeS, back, argsOf, argD, avD, lendOk, lendP, pmA, avB, giveBack, pairD, runP, addP, subP, mulP, modP, negP, eqP, neP, eqD_int, eqD_bool, eqD_str, isBo_plain, allP, anyP, sumP, ltP, leP, gtP, geP, isNP, isnNP, lenP, isIP, isTy, tupOfP, min2P, max2P, minP, maxP, absP, intP, idxP, slcP, cut1, cutL, items, rngI, enumI, zipI, szl, Function.comp_def, is_integer_int, this]
  · simp [init, argS, outsOf, solve, seen, frAt, fzAt, owAt, ownD, putN_eq, putO_eq, putT_nm, putT_tp, putT_tl, putTs, putPar, chg, setD, appD, isOL, wipeP, plainS, wipeS, back, argsOf, argD, avD, lendOk, lendP, pmA, avB, giveBack, pairD, runP, addP, subP, mulP, modP, negP, eqP, neP, eqD_int, eqD_bool, eqD_str, isBo_plain, allP, anyP, sumP, ltP, leP, gtP, geP, isNP, isnNP, lenP, isIP, isTy, tupOfP, min2P, max2P, minP, maxP, absP, intP, idxP, slcP, cut1, cutL, items, rngI, enumI, zipI, szl, Function.comp_def, cutD_1]
    rw [← List.map_tail, zipD_map]
    refine W_comp_map (fun _ => .bl true) (fun x hx => ?_) (by simp [szl]; omega) ?_
    · obtain ⟨p, hp, rfl⟩ := List.mem_map.mp hx
      have := zip_tail_lt h.asc p hp
      simp [init, argS, outsOf, solve, seen, frAt, fzAt, owAt, ownD, putN_eq, putO_eq, putT_nm, putT_tp, putT_tl, putTs, putPar, chg, setD, appD, isOL, wipeP, plainS, wipeS, back, argsOf, argD, avD, lendOk, lendP, pmA, avB, giveBack, pairD, runP, addP, subP, mulP, modP, negP, eqP, neP, eqD_int, eqD_bool, eqD_str, isBo_plain, allP, anyP, sumP, ltP, leP, gtP, geP, isNP, isnNP, lenP, isIP, isTy, tupOfP, min2P, max2P, minP, maxP, absP, intP, idxP, slcP, cut1, cutL, items, rngI, enumI, zipI, szl, Function.comp_def, this]
    · simp [init, argS, outsOf, solve, seen, frAt, fzAt, owAt, ownD, putN_eq, putO_eq, putT_nm, putT_tp, putT_tl, putTs, putPar, chg, setD, appD, isOL, wipeP, plainS, wipeS, back, argsOf, argD, avD, lendOk, lendP, pmA, avB, giveBack, pairD, runP, addP, subP, mulP, modP, negP, eqP, neP, eqD_int, eqD_bool, eqD_str, isBo_plain, allP, anyP, sumP, ltP, leP, gtP, geP, isNP, isnNP, lenP, isIP, isTy, tupOfP, min2P, max2P, minP, maxP, absP, intP, idxP, slcP, cut1, cutL, items, rngI, enumI, zipI, szl, Function.comp_def]
theorem check_divisors_ok (n : Nat) {l : List Int} (h : Row l) : callN T (n + 4) 7 [tI l] = .ok .non [tI l] := by
  refine WF.eq (WF_def (d := d7) rfl rfl ?_)
  simp [d7, c7, init, argS, outsOf, solve, seen, frAt, fzAt, owAt, ownD, putN_eq, putO_eq, putT_nm, putT_tp, putT_tl, putTs, putPar, chg, setD, appD, isOL, wipeP, plainS, wipeS, back, argsOf, argD, avD, lendOk, lendP, pmA, avB, giveBack, pairD, runP, addP, subP, mulP, modP, negP, eqP, neP, eqD_int, eqD_bool, eqD_str, isBo_plain, allP, anyP, sumP, ltP, leP, gtP, geP, isNP, isnNP, lenP, isIP, isTy, tupOfP, min2P, max2P, minP, maxP, absP, intP, idxP, slcP, cut1, cutL, items, rngI, enumI, zipI, szl, Function.comp_def, are_divisors_ok _ h]
def dv (l : List Int) (a : Int) : Int := l[(a - 1).toNat]!
theorem atI_row {l : List Int} {a : Int} (h1 : 1 ≤ a) (h2 : a ≤ l.length) : atI (l.map D.int) (a - 1) = some (.int (dv l a)) := by
  rw [atI_map, atI_get (by omega) (by omega)]
  rfl
theorem dv_mem {l : List Int} {a : Int} (h1 : 1 ≤ a) (h2 : a ≤ l.length) : dv l a ∈ l := by
  unfold dv
  rw [getElem!_pos l (a - 1).toNat (by omega)]
  exact List.getElem_mem ..
theorem Row.dv {l : List Int} (h : Row l) {a : Int} (h1 : 1 ≤ a) (h2 : a ≤ l.length) : 1 ≤ DL.Pl.dv l a ∧ DL.Pl.dv l a ≤ 100 := h.rng _ (dv_mem h1 h2)
theorem dv_lt {l : List Int} (h : Row l) {a b : Int} (h1 : 1 ≤ a) (h2 : a < b) (h3 : b ≤ l.length) : dv l a < dv l b := by
  unfold dv
  rw [getElem!_pos l (a - 1).toNat (by omega), getElem!_pos l (b - 1).toNat (by omega)]
  exact List.pairwise_iff_getElem.mp h.asc _ _ _ _ (by omega)

/-! ### the urn -/
def PV (B : Int) (d : D) : Prop := ∃ a b c : Int, d = .lst [.int a, .int b, .int c] ∧ 0 ≤ a ∧ 0 ≤ b ∧ b < 2 ^ 31 ∧ 0 ≤ c ∧ c ≤ B
theorem PV.up {B B' : Int} {d : D} (h : PV B d) (hb : B ≤ B') : PV B' d := by
  obtain ⟨a, b, c, e, h1, h2, h3, h4, h5⟩ := h
  exact ⟨a, b, c, e, h1, h2, h3, h4, by omega⟩
theorem pull_ok (n : Nat) {B : Int} {p : D} {m : Int} {Q : D → List D → Prop} (hp : PV B p) (h1 : 0 < m) (h2 : m < 2 ^ 31) (hB : B < 1000000000) (hq : ∀ (r : Int) (p' : D), PV (B + 1) p' → 0 ≤ r → r < m → Q (.int r) [p', .int m]) : WF (callN T (n + 1) 21 [p, .int m]) Q := by
  obtain ⟨a, b, c, rfl, ha, hb, hb2, hc, hcB⟩ := hp
  have fin : ∀ (a' b' r : Int), 0 ≤ a' → 0 ≤ b' → b' < 2 ^ 31 → 0 ≤ r → r < m → Q (.int r) [.lst [.int a', .int b', .int (c + 1)], .int m] := fun a' b' r g1 g2 g3 g4 g5 => hq r _ ⟨a', b', c + 1, rfl, g1, g2, g3, by omega, by omega⟩ g4 g5
  have lg : m.natAbs.log2 < 9000 := Nat.lt_of_lt_of_le ((Nat.log2_lt (by omega)).mpr (show m.natAbs < 2 ^ 31 by omega)) (by decide)
  refine WF_def (d := d21) rfl rfl ?_
  by_cases h0 : 0 < a
  · simp [d21, c21, init, argS, outsOf, solve, seen, frAt, fzAt, owAt, ownD, putN_eq, putO_eq, putT_nm, putT_tp, putT_tl, putTs, putPar, chg, setD, appD, isOL, wipeP, plainS, wipeS, back, argsOf, argD, avD, lendOk, lendP, pmA, avB, giveBack, pairD, runP, addP, subP, mulP, modP, negP, eqP, neP, eqD_int, eqD_bool, eqD_str, isBo_plain, allP, anyP, sumP, ltP, leP, gtP, geP, isNP, isnNP, lenP, isIP, isTy, tupOfP, min2P, max2P, minP, maxP, absP, intP, idxP, slcP, cut1, cutL, items, rngI, enumI, zipI, szl, Function.comp_def, atI, ixN, fdivP, h0, h1, lg]
    exact fin _ _ _ (Int.ediv_nonneg ha (by omega)) hb hb2 (Int.emod_nonneg _ (by omega)) (Int.emod_lt_of_pos _ h1)
  · have m1 := mulOk_l (i := b) (j := 54881) (by omega) (by omega)
    have m2 := mulOk_l (i := 6473) (j := c + 1) (by omega) (by omega)
    have m3 := mulOk_l (i := 6473 * (c + 1)) (j := c + 1) (by omega) (by omega)
    have m4 := mulOk_r (i := 6473 * (c + 1) * (c + 1)) (j := c + 1) (by omega) (by omega)
    simp [d21, c21, init, argS, outsOf, solve, seen, frAt, fzAt, owAt, ownD, putN_eq, putO_eq, putT_nm, putT_tp, putT_tl, putTs, putPar, chg, setD, appD, isOL, wipeP, plainS, wipeS, back, argsOf, argD, avD, lendOk, lendP, pmA, avB, giveBack, pairD, runP, addP, subP, mulP, modP, negP, eqP, neP, eqD_int, eqD_bool, eqD_str, isBo_plain, allP, anyP, sumP, ltP, leP, gtP, geP, isNP, isnNP, lenP, isIP, isTy, tupOfP, min2P, max2P, minP, maxP, absP, intP, idxP, slcP, cut1, cutL, items, rngI, enumI, zipI, szl, Function.comp_def, atI, ixN, fdivP, h0, h1, m1, m2, m3, m4]
    refine ⟨by decide, ?_⟩
    refine fin _ _ _ ha (Int.emod_nonneg _ (by decide)) ?_ (Int.emod_nonneg _ (by omega)) (Int.emod_lt_of_pos _ h1)
    have := Int.emod_lt_of_pos (b * 54881 + 6473 * (c + 1) * (c + 1) * (c + 1) + 31) (show (0 : Int) < 2147483543 by decide)
    omega
def UrInv (ns : List Int) (k : Int) (xs : List D) (s : Slots) : Prop := (∀ x ∈ xs, ∃ i : Int, x = .int i) ∧ ∃ (z : Sl) (sd : Int), s = [.fr (.scr ns), .fr (.int k), .fr (.int sd), z, .no, .no] ∧ z.plain = true ∧ 0 ≤ sd ∧ sd < 2 ^ 64
theorem urn_ok (n : Nat) {ns : List Int} {k : Int} {Q : D → List D → Prop} (k0 : 0 ≤ k) (k1 : k < 100) (hq : ∀ p, PV 0 p → Q p [.scr ns, .int k]) : WF (callN T (n + 1) 20 [.scr ns, .int k]) Q := by
  have fin : ∀ (a b : Int), 0 ≤ a → Q (.lst [.int a, .int (b % 2147483497), .int 0]) [.scr ns, .int k] := fun a b g => hq _ ⟨a, _, 0, rfl, g, Int.emod_nonneg _ (by decide), by have := Int.emod_lt_of_pos b (show (0 : Int) < 2147483497 by decide); omega, by omega, by omega⟩
  refine WF_def (d := d20) rfl rfl ?_
  have m0 := mulOk_l (i := 15999193) (j := k) (by omega) (by omega)
  simp [d20, c20, init, argS, outsOf, solve, seen, frAt, fzAt, owAt, ownD, putN_eq, putO_eq, putT_nm, putT_tp, putT_tl, putTs, putPar, chg, setD, appD, isOL, wipeP, plainS, wipeS, back, argsOf, argD, avD, lendOk, lendP, pmA, avB, giveBack, pairD, runP, addP, subP, mulP, modP, negP, eqP, neP, eqD_int, eqD_bool, eqD_str, isBo_plain, allP, anyP, sumP, ltP, leP, gtP, geP, isNP, isnNP, lenP, isIP, isTy, tupOfP, min2P, max2P, minP, maxP, absP, intP, idxP, slcP, cut1, cutL, items, rngI, enumI, zipI, szl, Function.comp_def, m0, show cutD (ns.map D.int) none (some 63) = (ns.map D.int).take 63 from cutD_to 63]
  refine W_forL (UrInv ns k) ?_ ?_ _ _ ⟨fun x hx => ?_, .no, _, rfl, rfl, by omega, by omega⟩
  · rintro x xs s ⟨hx, z, sd, rfl, hz, h1, h2⟩
    obtain ⟨i, rfl⟩ := hx x (List.mem_cons_self ..)
    have m1 := mulOk_r (i := sd) (j := 44497) (by omega) (by omega)
    have m2 := mulOk_r (i := i) (j := 283) (by omega) (by omega)
    simp [init, argS, outsOf, solve, seen, frAt, fzAt, owAt, ownD, putN_eq, putO_eq, putT_nm, putT_tp, putT_tl, putTs, putPar, chg, setD, appD, isOL, wipeP, plainS, wipeS, back, argsOf, argD, avD, lendOk, lendP, pmA, avB, giveBack, pairD, runP, addP, subP, mulP, modP, negP, eqP, neP, eqD_int, eqD_bool, eqD_str, isBo_plain, allP, anyP, sumP, ltP, leP, gtP, geP, isNP, isnNP, lenP, isIP, isTy, tupOfP, min2P, max2P, minP, maxP, absP, intP, idxP, slcP, cut1, cutL, items, rngI, enumI, zipI, szl, Function.comp_def, hz, m1, m2]
    refine ⟨fun x h => hx x (List.mem_cons_of_mem _ h), _, _, rfl, rfl, Int.emod_nonneg _ (by decide), ?_⟩
    have := Int.emod_lt_of_pos (sd * 44497 + i * 283 + 37) (show (0 : Int) < 2147483497 by decide)
    omega
  · rintro s ⟨_, z, sd, rfl, hz, h1, h2⟩
    have m3 : ∀ x : Int, mulOk x 58787 = true := fun x => mulOk_r (by omega) (by omega)
    have a0 : ∀ x : Int, 0 ≤ (if x < 0 then -x else x) := fun x => by split <;> omega
    by_cases hk : k < ns.length
    · have e : atI ns k = some ns[k.toNat]! := atI_get k0 hk
      generalize ns[k.toNat]! = x at e
      by_cases c : (1000000000000000000 : Int) ≤ (if x < 0 then -x else x)
      · simp [init, argS, outsOf, solve, seen, frAt, fzAt, owAt, ownD, putN_eq, putO_eq, putT_nm, putT_tp, putT_tl, putTs, putPar, chg, setD, appD, isOL, wipeP, plainS, wipeS, back, argsOf, argD, avD, lendOk, lendP, pmA, avB, giveBack, pairD, runP, addP, subP, mulP, modP, negP, eqP, neP, eqD_int, eqD_bool, eqD_str, isBo_plain, allP, anyP, sumP, ltP, leP, gtP, geP, isNP, isnNP, lenP, isIP, isTy, tupOfP, min2P, max2P, minP, maxP, absP, intP, idxP, slcP, cut1, cutL, items, rngI, enumI, zipI, szl, Function.comp_def, powP, hk, e, c, m3]
        exact fin _ _ (a0 x)
      · simp [init, argS, outsOf, solve, seen, frAt, fzAt, owAt, ownD, putN_eq, putO_eq, putT_nm, putT_tp, putT_tl, putTs, putPar, chg, setD, appD, isOL, wipeP, plainS, wipeS, back, argsOf, argD, avD, lendOk, lendP, pmA, avB, giveBack, pairD, runP, addP, subP, mulP, modP, negP, eqP, neP, eqD_int, eqD_bool, eqD_str, isBo_plain, allP, anyP, sumP, ltP, leP, gtP, geP, isNP, isnNP, lenP, isIP, isTy, tupOfP, min2P, max2P, minP, maxP, absP, intP, idxP, slcP, cut1, cutL, items, rngI, enumI, zipI, szl, Function.comp_def, powP, hk, e, c, m3]
        exact fin _ _ (by omega)
    · have m2 := mulOk_l (i := 73) (j := k) (by omega) (by omega)
      by_cases c : (1000000000000000000 : Int) ≤ (if 73 * k + 17 < 0 then -(73 * k + 17) else 73 * k + 17)
      · simp [init, argS, outsOf, solve, seen, frAt, fzAt, owAt, ownD, putN_eq, putO_eq, putT_nm, putT_tp, putT_tl, putTs, putPar, chg, setD, appD, isOL, wipeP, plainS, wipeS, back, argsOf, argD, avD, lendOk, lendP, pmA, avB, giveBack, pairD, runP, addP, subP, mulP, modP, negP, eqP, neP, eqD_int, eqD_bool, eqD_str, isBo_plain, allP, anyP, sumP, ltP, leP, gtP, geP, isNP, isnNP, lenP, isIP, isTy, tupOfP, min2P, max2P, minP, maxP, absP, intP, idxP, slcP, cut1, cutL, items, rngI, enumI, zipI, szl, Function.comp_def, powP, hk, m2, c, m3]
        exact fin _ _ (a0 _)
      · simp [init, argS, outsOf, solve, seen, frAt, fzAt, owAt, ownD, putN_eq, putO_eq, putT_nm, putT_tp, putT_tl, putTs, putPar, chg, setD, appD, isOL, wipeP, plainS, wipeS, back, argsOf, argD, avD, lendOk, lendP, pmA, avB, giveBack, pairD, runP, addP, subP, mulP, modP, negP, eqP, neP, eqD_int, eqD_bool, eqD_str, isBo_plain, allP, anyP, sumP, ltP, leP, gtP, geP, isNP, isnNP, lenP, isIP, isTy, tupOfP, min2P, max2P, minP, maxP, absP, intP, idxP, slcP, cut1, cutL, items, rngI, enumI, zipI, szl, Function.comp_def, powP, hk, m2, c, m3]
        exact fin _ _ (by omega)
  · obtain ⟨i, _, rfl⟩ := List.mem_map.mp (List.mem_of_mem_take hx)
    exact ⟨i, rfl⟩

/-! ### rows beside one another -/
theorem check_rows_ok (n : Nat) {l m : List Int} (h : Row l) (h' : Row m) (e : l.length = m.length) : callN T (n + 5) 9 [tI l, tI m] = .ok .non [tI l, tI m] := by
  refine WF.eq (WF_def (d := d9) rfl rfl ?_)
  simp [d9, c9, init, argS, outsOf, solve, seen, frAt, fzAt, owAt, ownD, putN_eq, putO_eq, putT_nm, putT_tp, putT_tl, putTs, putPar, chg, setD, appD, isOL, wipeP, plainS, wipeS, back, argsOf, argD, avD, lendOk, lendP, pmA, avB, giveBack, pairD, runP, addP, subP, mulP, modP, negP, eqP, neP, eqD_int, eqD_bool, eqD_str, isBo_plain, allP, anyP, sumP, ltP, leP, gtP, geP, isNP, isnNP, lenP, isIP, isTy, tupOfP, min2P, max2P, minP, maxP, absP, intP, idxP, slcP, cut1, cutL, items, rngI, enumI, zipI, szl, Function.comp_def, check_divisors_ok _ h, check_divisors_ok _ h', e]
theorem check_question_ok (n : Nat) {l m : List Int} {k : Int} (h : Row l) (h' : Row m) (e : l.length = m.length) (hk : 2 ≤ k) (hk2 : k ≤ 6) : callN T (n + 6) 10 [tI l, tI m, .int k] = .ok .non [tI l, tI m, .int k] := by
  refine WF.eq (WF_def (d := d10) rfl rfl ?_)
  simp [d10, c10, init, argS, outsOf, solve, seen, frAt, fzAt, owAt, ownD, putN_eq, putO_eq, putT_nm, putT_tp, putT_tl, putTs, putPar, chg, setD, appD, isOL, wipeP, plainS, wipeS, back, argsOf, argD, avD, lendOk, lendP, pmA, avB, giveBack, pairD, runP, addP, subP, mulP, modP, negP, eqP, neP, eqD_int, eqD_bool, eqD_str, isBo_plain, allP, anyP, sumP, ltP, leP, gtP, geP, isNP, isnNP, lenP, isIP, isTy, tupOfP, min2P, max2P, minP, maxP, absP, intP, idxP, slcP, cut1, cutL, items, rngI, enumI, zipI, szl, Function.comp_def, check_divisors_ok _ h, check_divisors_ok _ h', e, is_integer_int, hk, hk2, check_rows_ok _ h h' e]
theorem quotient_ok (n : Nat) {l : List Int} {a b : Int} (h : Row l) (a1 : 1 ≤ a) (a2 : a ≤ l.length) (b1 : 1 ≤ b) (b2 : b ≤ l.length) : callN T (n + 3) 11 [tI l, .int a, .int b] = .ok (lowD (dv l a) (dv l b)) [tI l, .int a, .int b] := by
  have z1 := h.dv a1 a2
  have z2 := h.dv b1 b2
  refine WF.eq (WF_def (d := d11) rfl rfl ?_)
  simp [d11, c11, init, argS, outsOf, solve, seen, frAt, fzAt, owAt, ownD, putN_eq, putO_eq, putT_nm, putT_tp, putT_tl, putTs, putPar, chg, setD, appD, isOL, wipeP, plainS, wipeS, back, argsOf, argD, avD, lendOk, lendP, pmA, avB, giveBack, pairD, runP, addP, subP, mulP, modP, negP, eqP, neP, eqD_int, eqD_bool, eqD_str, isBo_plain, allP, anyP, sumP, ltP, leP, gtP, geP, isNP, isnNP, lenP, isIP, isTy, tupOfP, min2P, max2P, minP, maxP, absP, intP, idxP, slcP, cut1, cutL, items, rngI, enumI, zipI, szl, Function.comp_def, atI_row, a1, a2, b1, b2]
  refine WF_eq (lowest_ok n (by omega) (by omega) (by omega) (by omega)) ?_
  simp [init, argS, outsOf, solve, seen, frAt, fzAt, owAt, ownD, putN_eq, putO_eq, putT_nm, putT_tp, putT_tl, putTs, putPar, chg, setD, appD, isOL, wipeP, plainS, wipeS, back, argsOf, argD, avD, lendOk, lendP, pmA, avB, giveBack, pairD, runP, addP, subP, mulP, modP, negP, eqP, neP, eqD_int, eqD_bool, eqD_str, isBo_plain, allP, anyP, sumP, ltP, leP, gtP, geP, isNP, isnNP, lenP, isIP, isTy, tupOfP, min2P, max2P, minP, maxP, absP, intP, idxP, slcP, cut1, cutL, items, rngI, enumI, zipI, szl, Function.comp_def]

/-! ### pairs at which rows part -/
def pD (p : Int × Int) : D := .tup [.int p.1, .int p.2]
def pcond (l m : List Int) (k a b : Int) : Bool := (decide (2 < k) || decide (a + b = l.length + 1)) && decide (dv l a * dv m b ≠ dv m a * dv l b)
def pairsA (l m : List Int) (k a : Int) : List (Int × Int) := ((rg (a + 1) (l.length + 2 - a)).filter (pcond l m k a)).map fun b => (a, b)
def pairsF (l m : List Int) (k : Int) : List (Int × Int) := (rg 1 (l.length + 1)).flatMap (pairsA l m k)
theorem pairsF_len {l m : List Int} {k : Int} (h : l.length ≤ 12) : (pairsF l m k).length ≤ 1000 := by
  have z : (pairsF l m k).length ≤ 14 * (rg 1 (l.length + 1)).length := flatMap_le fun a ha => by
    unfold pairsA
    rw [List.length_map]
    refine Nat.le_trans (List.length_filter_le ..) ?_
    rw [rg_length]
    have := mem_rg.mp ha
    omega
  rw [rg_length] at z
  omega
theorem quotient_ne {l m : List Int} {a b : Int} (h : Row l) (h' : Row m) (e : l.length = m.length) (a1 : 1 ≤ a) (a2 : a ≤ l.length) (b1 : 1 ≤ b) (b2 : b ≤ l.length) : eqD (lowD (dv l a) (dv l b)) (lowD (dv m a) (dv m b)) = some (decide (dv l a * dv m b = dv m a * dv l b)) := by
  have z1 := h.dv b1 b2
  have z2 := h'.dv b1 (by omega)
  rw [eqD_pl (by rfl) (by rfl) (by simp [lowD, dp, dps]) (by simp [lowD, dp, dps])]
  congr 1
  rw [decide_eq_decide]
  exact low_eq (by omega) (by omega)
def PInv1 (l m : List Int) (k : Int) (xs : List D) (s : Slots) : Prop := ∃ (fd : List (Int × Int)) (z5 z6 : Sl) (as : List Int), s = [.fr (tI l), .fr (tI m), .fr (.int k), .fr (.int l.length), .ow (.lst (fd.map pD)), z5, z6] ∧ z5.plain = true ∧ z6.plain = true ∧ xs = as.map .int ∧ (∀ a ∈ as, 1 ≤ a ∧ a < l.length + 1) ∧ fd ++ as.flatMap (pairsA l m k) = pairsF l m k
def PInv2 (l m : List Int) (k a : Int) (as : List Int) (ys : List D) (s : Slots) : Prop := ∃ (fd : List (Int × Int)) (z6 : Sl) (bs : List Int), s = [.fr (tI l), .fr (tI m), .fr (.int k), .fr (.int l.length), .ow (.lst (fd.map pD)), .fr (.int a), z6] ∧ z6.plain = true ∧ ys = bs.map .int ∧ (∀ b ∈ bs, a + 1 ≤ b ∧ b < l.length + 2 - a) ∧ fd ++ (bs.filter (pcond l m k a)).map (fun b => (a, b)) ++ as.flatMap (pairsA l m k) = pairsF l m k
theorem pairs_for_ok (n : Nat) {l m : List Int} {k : Int} (h : Row l) (h' : Row m) (e : l.length = m.length) : callN T (n + 4) 12 [tI l, tI m, .int k] = .ok (.tup ((pairsF l m k).map pD)) [tI l, tI m, .int k] := by
  have h1 := h.l1
  have h2 := h.l2
  refine WF.eq (WF_def (d := d12) rfl rfl ?_)
  simp [d12, c12, init, argS, outsOf, solve, seen, frAt, fzAt, owAt, ownD, putN_eq, putO_eq, putT_nm, putT_tp, putT_tl, putTs, putPar, chg, setD, appD, isOL, wipeP, plainS, wipeS, back, argsOf, argD, avD, lendOk, lendP, pmA, avB, giveBack, pairD, runP, addP, subP, mulP, modP, negP, eqP, neP, eqD_int, eqD_bool, eqD_str, isBo_plain, allP, anyP, sumP, ltP, leP, gtP, geP, isNP, isnNP, lenP, isIP, isTy, tupOfP, min2P, max2P, minP, maxP, absP, intP, idxP, slcP, cut1, cutL, items, rngI, enumI, zipI, szl, Function.comp_def]
  rw [rng_ok (a := 1) (b := l.length + 1) (by omega) (by omega) (by omega) (by omega) (by omega)]
  simp [init, argS, outsOf, solve, seen, frAt, fzAt, owAt, ownD, putN_eq, putO_eq, putT_nm, putT_tp, putT_tl, putTs, putPar, chg, setD, appD, isOL, wipeP, plainS, wipeS, back, argsOf, argD, avD, lendOk, lendP, pmA, avB, giveBack, pairD, runP, addP, subP, mulP, modP, negP, eqP, neP, eqD_int, eqD_bool, eqD_str, isBo_plain, allP, anyP, sumP, ltP, leP, gtP, geP, isNP, isnNP, lenP, isIP, isTy, tupOfP, min2P, max2P, minP, maxP, absP, intP, idxP, slcP, cut1, cutL, items, rngI, enumI, zipI, szl, Function.comp_def]
  refine W_forL (PInv1 l m k) ?_ ?_ _ _ ⟨[], .no, .no, _, rfl, rfl, rfl, rfl, fun a ha => mem_rg.mp ha, rfl⟩
  · rintro x xs s ⟨fd, z5, z6, as, rfl, h5, h6, hx, ha, hf⟩
    cases as with
    | nil => simp at hx
    | cons a as =>
      simp at hx
      obtain ⟨rfl, rfl⟩ := hx
      have ha1 := ha a (List.mem_cons_self ..)
      simp [init, argS, outsOf, solve, seen, frAt, fzAt, owAt, ownD, putN_eq, putO_eq, putT_nm, putT_tp, putT_tl, putTs, putPar, chg, setD, appD, isOL, wipeP, plainS, wipeS, back, argsOf, argD, avD, lendOk, lendP, pmA, avB, giveBack, pairD, runP, addP, subP, mulP, modP, negP, eqP, neP, eqD_int, eqD_bool, eqD_str, isBo_plain, allP, anyP, sumP, ltP, leP, gtP, geP, isNP, isnNP, lenP, isIP, isTy, tupOfP, min2P, max2P, minP, maxP, absP, intP, idxP, slcP, cut1, cutL, items, rngI, enumI, zipI, szl, Function.comp_def, h5, h6]
      rw [rng_ok (a := a + 1) (b := l.length + 2 - a) (by omega) (by omega) (by omega) (by omega) (by omega)]
      simp [init, argS, outsOf, solve, seen, frAt, fzAt, owAt, ownD, putN_eq, putO_eq, putT_nm, putT_tp, putT_tl, putTs, putPar, chg, setD, appD, isOL, wipeP, plainS, wipeS, back, argsOf, argD, avD, lendOk, lendP, pmA, avB, giveBack, pairD, runP, addP, subP, mulP, modP, negP, eqP, neP, eqD_int, eqD_bool, eqD_str, isBo_plain, allP, anyP, sumP, ltP, leP, gtP, geP, isNP, isnNP, lenP, isIP, isTy, tupOfP, min2P, max2P, minP, maxP, absP, intP, idxP, slcP, cut1, cutL, items, rngI, enumI, zipI, szl, Function.comp_def]
      refine W_forL (PInv2 l m k a as) ?_ ?_ _ _ ⟨fd, z6, _, rfl, h6, rfl, fun a ha => mem_rg.mp ha, ?_⟩
      · rintro y ys s ⟨fd', z6, bs, rfl, h6, hy, hb, hf'⟩
        cases bs with
        | nil => simp at hy
        | cons b bs =>
          simp at hy
          obtain ⟨rfl, rfl⟩ := hy
          have hb1 := hb b (List.mem_cons_self ..)
          have hlen : fd'.length < 16777216 := by
            have := pairsF_len (m := m) (k := k) h2
            rw [← hf', List.length_append, List.length_append] at this
            omega
          have q1 := quotient_ok n (a := a) (b := b) h (by omega) (by omega) (by omega) (by omega)
          have q2 := quotient_ok n (a := a) (b := b) h' (by omega) (by omega) (by omega) (by omega)
          have q3 := quotient_ne h h' e (a := a) (b := b) (by omega) (by omega) (by omega) (by omega)
          have key : PInv2 l m k a as (bs.map .int) [.fr (tI l), .fr (tI m), .fr (.int k), .fr (.int l.length), .ow (.lst ((if pcond l m k a b then fd' ++ [(a, b)] else fd').map pD)), .fr (.int a), .fr (.int b)] := by
            refine ⟨_, _, bs, rfl, rfl, rfl, fun b hb' => hb b (List.mem_cons_of_mem _ hb'), ?_⟩
            rw [← hf', List.filter_cons]
            cases pcond l m k a b <;> simp
          unfold pcond at key
          by_cases c1 : 2 < k <;> by_cases c2 : a + b = l.length + 1 <;> by_cases c3 : dv l a * dv m b = dv m a * dv l b <;> simp [init, argS, outsOf, solve, seen, frAt, fzAt, owAt, ownD, putN_eq, putO_eq, putT_nm, putT_tp, putT_tl, putTs, putPar, chg, setD, appD, isOL, wipeP, plainS, wipeS, back, argsOf, argD, avD, lendOk, lendP, pmA, avB, giveBack, pairD, runP, addP, subP, mulP, modP, negP, eqP, neP, eqD_int, eqD_bool, eqD_str, isBo_plain, allP, anyP, sumP, ltP, leP, gtP, geP, isNP, isnNP, lenP, isIP, isTy, tupOfP, min2P, max2P, minP, maxP, absP, intP, idxP, slcP, cut1, cutL, items, rngI, enumI, zipI, szl, Function.comp_def, h6, q1, q2, q3, c1, c2, c3, hlen] <;> simp [c1, c2, c3, pD] at key <;> exact key
      · rintro s ⟨fd', z6, bs, rfl, h6, hy, hb, hf'⟩
        cases bs with
        | cons b bs => simp at hy
        | nil =>
          simp at hf'
          simp [init, argS, outsOf, solve, seen, frAt, fzAt, owAt, ownD, putN_eq, putO_eq, putT_nm, putT_tp, putT_tl, putTs, putPar, chg, setD, appD, isOL, wipeP, plainS, wipeS, back, argsOf, argD, avD, lendOk, lendP, pmA, avB, giveBack, pairD, runP, addP, subP, mulP, modP, negP, eqP, neP, eqD_int, eqD_bool, eqD_str, isBo_plain, allP, anyP, sumP, ltP, leP, gtP, geP, isNP, isnNP, lenP, isIP, isTy, tupOfP, min2P, max2P, minP, maxP, absP, intP, idxP, slcP, cut1, cutL, items, rngI, enumI, zipI, szl, Function.comp_def]
          exact ⟨fd', _, z6, as, rfl, rfl, h6, rfl, fun a ha' => ha a (List.mem_cons_of_mem _ ha'), hf'⟩
      · rw [List.append_assoc]
        exact hf
  · rintro s ⟨fd, z5, z6, as, rfl, h5, h6, hx, ha, hf⟩
    cases as with
    | cons b bs => simp at hx
    | nil =>
      simp at hf
      subst hf
      simp [init, argS, outsOf, solve, seen, frAt, fzAt, owAt, ownD, putN_eq, putO_eq, putT_nm, putT_tp, putT_tl, putTs, putPar, chg, setD, appD, isOL, wipeP, plainS, wipeS, back, argsOf, argD, avD, lendOk, lendP, pmA, avB, giveBack, pairD, runP, addP, subP, mulP, modP, negP, eqP, neP, eqD_int, eqD_bool, eqD_str, isBo_plain, allP, anyP, sumP, ltP, leP, gtP, geP, isNP, isnNP, lenP, isIP, isTy, tupOfP, min2P, max2P, minP, maxP, absP, intP, idxP, slcP, cut1, cutL, items, rngI, enumI, zipI, szl, Function.comp_def]

/-! ### counts that part rows -/
theorem middle_ok (n : Nat) {a b c d : Int} (a0 : 0 ≤ a) (a1 : a ≤ 1000) (b0 : 0 < b) (b1 : b ≤ 1000) (c0 : 0 ≤ c) (c1 : c ≤ 1000) (d0 : 0 < d) (d1 : d ≤ 1000) : callN T (n + 3) 13 [.tup [.int a, .int b], .tup [.int c, .int d]] = .ok (lowD (a * d + c * b) (2 * b * d)) [.tup [.int a, .int b], .tup [.int c, .int d]] := by
  have e1 : a * d ≤ 1000 * 1000 := Int.mul_le_mul a1 d1 (by omega) (by omega)
  have e2 : c * b ≤ 1000 * 1000 := Int.mul_le_mul c1 b1 (by omega) (by omega)
  have e3 : b * d ≤ 1000 * 1000 := Int.mul_le_mul b1 d1 (by omega) (by omega)
  have e4 : 0 ≤ a * d := Int.mul_nonneg a0 (by omega)
  have e5 : 0 ≤ c * b := Int.mul_nonneg c0 (by omega)
  have e6 : 0 < b * d := Int.mul_pos b0 d0
  have e7 : 2 * b * d = 2 * (b * d) := Int.mul_assoc ..
  refine WF.eq (WF_def (d := d13) rfl rfl ?_)
  simp [d13, c13, init, argS, outsOf, solve, seen, frAt, fzAt, owAt, ownD, putN_eq, putO_eq, putT_nm, putT_tp, putT_tl, putTs, putPar, chg, setD, appD, isOL, wipeP, plainS, wipeS, back, argsOf, argD, avD, lendOk, lendP, pmA, avB, giveBack, pairD, runP, addP, subP, mulP, modP, negP, eqP, neP, eqD_int, eqD_bool, eqD_str, isBo_plain, allP, anyP, sumP, ltP, leP, gtP, geP, isNP, isnNP, lenP, isIP, isTy, tupOfP, min2P, max2P, minP, maxP, absP, intP, idxP, slcP, cut1, cutL, items, rngI, enumI, zipI, szl, Function.comp_def, atI, ixN, mulOk_l (i := a) (j := d) (by omega) (by omega), mulOk_l (i := c) (j := b) (by omega) (by omega), mulOk_l (i := 2) (j := b) (by omega) (by omega), mulOk_r (i := 2 * b) (j := d) (by omega) (by omega)]
  refine WF_eq (lowest_ok n (by omega) (by omega) (by omega) (by omega)) ?_
  simp [init, argS, outsOf, solve, seen, frAt, fzAt, owAt, ownD, putN_eq, putO_eq, putT_nm, putT_tp, putT_tl, putTs, putPar, chg, setD, appD, isOL, wipeP, plainS, wipeS, back, argsOf, argD, avD, lendOk, lendP, pmA, avB, giveBack, pairD, runP, addP, subP, mulP, modP, negP, eqP, neP, eqD_int, eqD_bool, eqD_str, isBo_plain, allP, anyP, sumP, ltP, leP, gtP, geP, isNP, isnNP, lenP, isIP, isTy, tupOfP, min2P, max2P, minP, maxP, absP, intP, idxP, slcP, cut1, cutL, items, rngI, enumI, zipI, szl, Function.comp_def]
/-- what counts_for tells -/
structure Parts (l m : List Int) (a b : Int) (x0 x1 x2 r : Int) : Prop where
  a1 : 1 ≤ a
  b1 : 1 ≤ b
  ab : a + b ≤ l.length + 1
  r0 : r = l.length - a - b + 1
  ne : a ≠ b
  p0 : 0 < x0
  p1 : 0 ≤ x1
  p2 : 0 ≤ x2
  q0 : x0 ≤ 10 ^ 17
  q1 : x1 ≤ 10 ^ 17
  q2 : x2 ≤ 10 ^ 17
  /-- the second count by the price -/
  lo1 : 1 < b → dv l (b - 1) * x0 ≤ x1 * dv l a
  hi1 : x1 * dv l a ≤ dv l b * x0
  lo2 : 0 < r → dv l r * x0 ≤ x2 * dv l a
  hi2 : 0 < r → x2 * dv l a ≤ dv l (r + 1) * x0
  z2 : r = 0 → x2 = 0
  brk : dv m b * x0 < x1 * dv m a
/-- the middle of two fractions lies between them -/
theorem mid_props {p q u v : Int} (hq : 0 < q) (hv : 0 < v) (h : p * v < u * q) : p * lo2 (p * v + u * q) (2 * q * v) < lo1 (p * v + u * q) (2 * q * v) * q ∧ lo1 (p * v + u * q) (2 * q * v) * v < u * lo2 (p * v + u * q) (2 * q * v) := by
  have hb : 0 < 2 * q * v := Int.mul_pos (Int.mul_pos (by omega) hq) hv
  have hc := lo_cross (t := p * v + u * q) hb
  have hp := lo2_pos (t := p * v + u * q) hb
  generalize lo1 (p * v + u * q) (2 * q * v) = x at *
  generalize lo2 (p * v + u * q) (2 * q * v) = y at *
  have hqv : 0 < q * v := Int.mul_pos hq hv
  constructor
  · -- p * y < x * q ; multiply by 2 * v
    refine Int.lt_of_mul_lt_mul_right (a := 2 * v) ?_ (by omega)
    have e1 : x * q * (2 * v) = x * (2 * q * v) := by ac_rfl
    have e2 : p * y * (2 * v) = (p * v + p * v) * y := by rw [Int.add_mul]; have : p * y * (2 * v) = 2 * (p * v * y) := by ac_rfl
                                                          omega
    rw [e1, e2, hc]
    exact Int.mul_lt_mul_of_pos_right (by omega) hp
  · refine Int.lt_of_mul_lt_mul_right (a := 2 * q) ?_ (by omega)
    have e1 : x * v * (2 * q) = x * (2 * q * v) := by ac_rfl
    have e2 : u * y * (2 * q) = (u * q + u * q) * y := by rw [Int.add_mul]; have : u * y * (2 * q) = 2 * (u * q * y) := by ac_rfl
                                                          omega
    rw [e1, e2, hc]
    exact Int.mul_lt_mul_of_pos_right (by omega) hp

theorem counts_t2 (n : Nat) {l m : List Int} {k a b p q : Int} {pr : D} (h : Row l) (k2 : 2 ≤ k) (k6 : k ≤ 6) (a1 : 1 ≤ a) (b1 : 1 ≤ b) (ab : a + b ≤ l.length + 1) (ne : a ≠ b)
    (p0 : 0 ≤ p) (p1 : p ≤ 100) (q0 : 0 < q) (q1 : q ≤ 100) (ma : 1 ≤ dv m a) (c1 : dv m b * q ≤ p * dv m a) (c2 : 1 < b → dv l (b - 1) * q ≤ p * dv l a) (c3 : p * dv l a < dv l b * q) :
    W (runB T.pg (callN T (n + 3)) wlim (dropB 4 c14) [.fr (tI l), .fr (tI m), .fr (.int k), .fr pr, .fr (.int a), .fr (.int b), .fr (.tup [.int p, .int q]), .no, .no, .no, .no, .no])
      fun fl s => ∃ x0 x1 x2 r, fl = .rt (.tup [.tup (([x0, x1, x2, 0, 0, 0].map D.int).take k.toNat), .tup (([a, b - 1, r, 0, 0, 0].map D.int).take k.toNat)]) ∧ Parts l m a b x0 x1 x2 r := by
  have h1 := h.l1
  have h2 := h.l2
  have da := h.dv (a := a) a1 (by omega)
  have db := h.dv (a := b) b1 (by omega)
  have u0 := lo_bounds (t := dv l b) (b := dv l a) (by omega) (by omega)
  have uc := lo_cross (t := dv l b) (b := dv l a) (by omega)
  have qb := quotient_ok n (a := b) (b := a) h (by omega) (by omega) (by omega) (by omega)
  have key : p * lo2 (dv l b) (dv l a) < lo1 (dv l b) (dv l a) * q := by
    refine Int.lt_of_mul_lt_mul_right (a := dv l a) ?_ (by omega)
    have e1 : lo1 (dv l b) (dv l a) * q * dv l a = lo1 (dv l b) (dv l a) * dv l a * q := by ac_rfl
    have e2 : p * lo2 (dv l b) (dv l a) * dv l a = p * dv l a * lo2 (dv l b) (dv l a) := by ac_rfl
    have e3 : dv l b * lo2 (dv l b) (dv l a) * q = dv l b * q * lo2 (dv l b) (dv l a) := by ac_rfl
    rw [e1, e2, uc, e3]
    exact Int.mul_lt_mul_of_pos_right c3 u0.2.2.1
  simp only [lowD_eq] at qb
  generalize lo1 (dv l b) (dv l a) = u at *
  generalize lo2 (dv l b) (dv l a) = v at *
  have mp := mid_props q0 u0.2.2.1 key
  have md := middle_ok n (a := p) (b := q) (c := u) (d := v) p0 (by omega) q0 (by omega) (by omega) (by omega) (by omega) (by omega)
  have y1 := mul_bd p0 p1 (by omega : 0 ≤ v) (by omega : v ≤ 100)
  have y2 := mul_bd u0.1 (by omega : u ≤ 100) (by omega : 0 ≤ q) q1
  have y3 := mul_bd (by omega : 0 ≤ q) q1 (by omega : 0 ≤ v) (by omega : v ≤ 100)
  have y4 : 2 * q * v = 2 * (q * v) := Int.mul_assoc ..
  have y5 : 0 < q * v := Int.mul_pos q0 u0.2.2.1
  have s0 := lo_bounds (t := p * v + u * q) (b := 2 * q * v) (by omega) (by omega)
  simp only [lowD_eq] at md
  have z1 : lo1 (p * v + u * q) (2 * q * v) ≤ 20000 := by omega
  have z2 : lo2 (p * v + u * q) (2 * q * v) ≤ 20000 := by omega
  generalize lo1 (p * v + u * q) (2 * q * v) = sa at *
  generalize lo2 (p * v + u * q) (2 * q * v) = sb at *
  -- what holds of the second count
  have f1 : 1 < b → dv l (b - 1) * sb < sa * dv l a := fun hb => frac_a (c2 hb) mp.1 q0 (by omega) (by omega)
  have f2 : sa * dv l a < dv l b * sb := frac_b mp.2 uc u0.2.2.1 (by omega)
  have f3 : dv m b * sb < sa * dv m a := frac_a c1 mp.1 q0 (by omega) (by omega)
  -- the end, with the third fraction
  have fin : ∀ ta tb : Int, 0 ≤ ta → ta ≤ 20000 → 0 < tb → tb ≤ 20000 → (0 < (l.length : Int) - a - b + 1 → dv l (l.length - a - b + 1) * tb ≤ ta * dv l a) → (0 < (l.length : Int) - a - b + 1 → ta * dv l a ≤ dv l (l.length - a - b + 1 + 1) * tb) → ((l.length : Int) - a - b + 1 = 0 → ta = 0) → Parts l m a b (sb * tb) (sa * tb) (ta * sb) (l.length - a - b + 1) := fun ta tb t1 t2 t3 t4 t5 t6 t7 => by
    have w1 := mul_bd (by omega : 0 ≤ sb) z2 (by omega : 0 ≤ tb) t4
    have w2 := mul_bd (by omega : 0 ≤ sa) z1 (by omega : 0 ≤ tb) t4
    have w3 := mul_bd t1 t2 (by omega : 0 ≤ sb) z2
    refine ⟨a1, b1, ab, rfl, ne, Int.mul_pos (by omega) t3, w2.1, w3.1, by omega, by omega, by omega, fun hb => ?_, ?_, fun hr => ?_, fun hr => ?_, fun hr => by rw [t7 hr]; simp, ?_⟩
    · have := Int.mul_le_mul_of_nonneg_right (Int.le_of_lt (f1 hb)) (by omega : 0 ≤ tb)
      rw [← Int.mul_assoc, Int.mul_assoc sa, Int.mul_comm tb, ← Int.mul_assoc sa]; exact this
    · have := Int.mul_le_mul_of_nonneg_right (Int.le_of_lt f2) (by omega : 0 ≤ tb)
      rw [← Int.mul_assoc, Int.mul_assoc sa, Int.mul_comm tb, ← Int.mul_assoc sa]; exact this
    · have := Int.mul_le_mul_of_nonneg_right (t5 hr) (by omega : 0 ≤ sb)
      have e1 : dv l (l.length - a - b + 1) * (sb * tb) = dv l (l.length - a - b + 1) * tb * sb := by ac_rfl
      have e2 : ta * sb * dv l a = ta * dv l a * sb := by ac_rfl
      rw [e1, e2]; exact this
    · have := Int.mul_le_mul_of_nonneg_right (t6 hr) (by omega : 0 ≤ sb)
      have e1 : dv l (l.length - a - b + 1 + 1) * (sb * tb) = dv l (l.length - a - b + 1 + 1) * tb * sb := by ac_rfl
      have e2 : ta * sb * dv l a = ta * dv l a * sb := by ac_rfl
      rw [e1, e2]; exact this
    · have := Int.mul_lt_mul_of_pos_right f3 t3
      rw [← Int.mul_assoc, Int.mul_assoc sa, Int.mul_comm tb, ← Int.mul_assoc sa]; exact this
  have hk : ∀ x : List D, cutD x none (some k) = x.take k.toNat := fun x => by
    have := cutD_to (l := x) k.toNat
    rwa [show ((k.toNat : Nat) : Int) = k by omega] at this
  by_cases hr : 0 < (l.length : Int) - a - b + 1
  · have r1 := quotient_ok n (a := l.length - a - b + 1) (b := a) h (by omega) (by omega) (by omega) (by omega)
    have r2 := quotient_ok n (a := l.length - a - b + 1 + 1) (b := a) h (by omega) (by omega) (by omega) (by omega)
    have e1 := h.dv (a := l.length - a - b + 1) (by omega) (by omega)
    have e2 := h.dv (a := l.length - a - b + 1 + 1) (by omega) (by omega)
    have lt := dv_lt h (a := l.length - a - b + 1) (b := l.length - a - b + 1 + 1) (by omega) (by omega) (by omega)
    have b1 := lo_bounds (t := dv l (l.length - a - b + 1)) (b := dv l a) (by omega) (by omega)
    have b2 := lo_bounds (t := dv l (l.length - a - b + 1 + 1)) (b := dv l a) (by omega) (by omega)
    have x1 := lo_cross (t := dv l (l.length - a - b + 1)) (b := dv l a) (by omega)
    have x2 := lo_cross (t := dv l (l.length - a - b + 1 + 1)) (b := dv l a) (by omega)
    have k2 := (low_lt (t := dv l (l.length - a - b + 1)) (b := dv l a) (u := dv l (l.length - a - b + 1 + 1)) (c := dv l a) (by omega) (by omega)).mpr (Int.mul_lt_mul_of_pos_right lt (by omega))
    simp only [lowD_eq] at r1 r2
    generalize lo1 (dv l (l.length - a - b + 1)) (dv l a) = i1 at *
    generalize lo2 (dv l (l.length - a - b + 1)) (dv l a) = j1 at *
    generalize lo1 (dv l (l.length - a - b + 1 + 1)) (dv l a) = i2 at *
    generalize lo2 (dv l (l.length - a - b + 1 + 1)) (dv l a) = j2 at *
    have mp2 := mid_props b1.2.2.1 b2.2.2.1 k2
    have md2 := middle_ok n (a := i1) (b := j1) (c := i2) (d := j2) (by omega) (by omega) (by omega) (by omega) (by omega) (by omega) (by omega) (by omega)
    have y1 := mul_bd b1.1 (by omega : i1 ≤ 100) (by omega : 0 ≤ j2) (by omega : j2 ≤ 100)
    have y2 := mul_bd b2.1 (by omega : i2 ≤ 100) (by omega : 0 ≤ j1) (by omega : j1 ≤ 100)
    have y3 := mul_bd (by omega : 0 ≤ j1) (by omega : j1 ≤ 100) (by omega : 0 ≤ j2) (by omega : j2 ≤ 100)
    have y4 : 2 * j1 * j2 = 2 * (j1 * j2) := Int.mul_assoc ..
    have y5 : 0 < j1 * j2 := Int.mul_pos (by omega) (by omega)
    have s0 := lo_bounds (t := i1 * j2 + i2 * j1) (b := 2 * j1 * j2) (by omega) (by omega)
    simp only [lowD_eq] at md2
    have z1 : lo1 (i1 * j2 + i2 * j1) (2 * j1 * j2) ≤ 20000 := by omega
    have z2 : lo2 (i1 * j2 + i2 * j1) (2 * j1 * j2) ≤ 20000 := by omega
    generalize lo1 (i1 * j2 + i2 * j1) (2 * j1 * j2) = ta at *
    generalize lo2 (i1 * j2 + i2 * j1) (2 * j1 * j2) = tb at *
    have fn := fin ta tb (by omega) (by omega) (by omega) (by omega) (fun _ => Int.le_of_lt (frac_a (Int.le_of_eq x1.symm) mp2.1 (by omega) (by omega) (by omega))) (fun _ => Int.le_of_lt (frac_b mp2.2 x2 (by omega) (by omega))) (fun z => by omega)
    simp [c14, dropB, init, argS, outsOf, solve, seen, frAt, fzAt, owAt, ownD, putN_eq, putO_eq, putT_nm, putT_tp, putT_tl, putTs, putPar, chg, setD, appD, isOL, wipeP, plainS, wipeS, back, argsOf, argD, avD, lendOk, lendP, pmA, avB, giveBack, pairD, runP, addP, subP, mulP, modP, negP, eqP, neP, eqD_int, eqD_bool, eqD_str, isBo_plain, allP, anyP, sumP, ltP, leP, gtP, geP, isNP, isnNP, lenP, isIP, isTy, tupOfP, min2P, max2P, minP, maxP, absP, intP, idxP, slcP, cut1, cutL, items, rngI, enumI, zipI, szl, Function.comp_def, qb, md, hr, r1, r2, md2, atI, ixN, hk, mulOk_l (i := sb) (j := tb) (by omega) (by omega), mulOk_l (i := sa) (j := tb) (by omega) (by omega), mulOk_l (i := ta) (j := sb) (by omega) (by omega)]
    exact ⟨_, _, _, _, ⟨rfl, rfl⟩, fn⟩
  · have fn := fin 0 1 (by omega) (by omega) (by omega) (by omega) (fun z => by omega) (fun z => by omega) (fun _ => rfl)
    simp [c14, dropB, init, argS, outsOf, solve, seen, frAt, fzAt, owAt, ownD, putN_eq, putO_eq, putT_nm, putT_tp, putT_tl, putTs, putPar, chg, setD, appD, isOL, wipeP, plainS, wipeS, back, argsOf, argD, avD, lendOk, lendP, pmA, avB, giveBack, pairD, runP, addP, subP, mulP, modP, negP, eqP, neP, eqD_int, eqD_bool, eqD_str, isBo_plain, allP, anyP, sumP, ltP, leP, gtP, geP, isNP, isnNP, lenP, isIP, isTy, tupOfP, min2P, max2P, minP, maxP, absP, intP, idxP, slcP, cut1, cutL, items, rngI, enumI, zipI, szl, Function.comp_def, qb, md, hr, atI, ixN, hk, mulOk_l (i := sb) (j := 1) (by omega) (by omega), mulOk_l (i := sa) (j := 1) (by omega) (by omega), mulOk_l (i := 0) (j := sb) (by omega) (by omega)]
    simp at fn
    exact ⟨_, _, _, _, ⟨rfl, rfl⟩, fn⟩

theorem counts_t1 (n : Nat) {l m : List Int} {k a b : Int} {pr : D} (h : Row l) (h' : Row m) (e : l.length = m.length) (k2 : 2 ≤ k) (k6 : k ≤ 6) (a1 : 1 ≤ a) (b1 : 1 ≤ b) (ab : a + b ≤ l.length + 1) (ne : a ≠ b) (lt : dv m b * dv l a < dv l b * dv m a) :
    W (runB T.pg (callN T (n + 3)) wlim (dropB 2 c14) [.fr (tI l), .fr (tI m), .fr (.int k), .fr pr, .fr (.int a), .fr (.int b), .no, .no, .no, .no, .no, .no])
      fun fl s => ∃ x0 x1 x2 r, fl = .rt (.tup [.tup (([x0, x1, x2, 0, 0, 0].map D.int).take k.toNat), .tup (([a, b - 1, r, 0, 0, 0].map D.int).take k.toNat)]) ∧ Parts l m a b x0 x1 x2 r := by
  have h2 := h.l2
  have da := h.dv (a := a) a1 (by omega)
  have db := h.dv (a := b) b1 (by omega)
  have ea := h'.dv (a := a) a1 (by omega)
  have eb := h'.dv (a := b) b1 (by omega)
  have q1 := quotient_ok n (a := b) (b := a) h' (by omega) (by omega) (by omega) (by omega)
  have u1 := lo_bounds (t := dv m b) (b := dv m a) (by omega) (by omega)
  have x1 := lo_cross (t := dv m b) (b := dv m a) (by omega)
  -- the first low
  have low1 : lo1 (dv m b) (dv m a) * dv l a < dv l b * lo2 (dv m b) (dv m a) := by
    refine Int.lt_of_mul_lt_mul_right (a := dv m a) ?_ (by omega)
    have e1 : lo1 (dv m b) (dv m a) * dv l a * dv m a = lo1 (dv m b) (dv m a) * dv m a * dv l a := by ac_rfl
    have e2 : dv l b * lo2 (dv m b) (dv m a) * dv m a = dv l b * dv m a * lo2 (dv m b) (dv m a) := by ac_rfl
    have e3 : dv m b * lo2 (dv m b) (dv m a) * dv l a = dv m b * dv l a * lo2 (dv m b) (dv m a) := by ac_rfl
    rw [e1, e2, x1, e3]
    exact Int.mul_lt_mul_of_pos_right lt u1.2.2.1
  by_cases hb : 1 < b
  · have q2 := quotient_ok n (a := b - 1) (b := a) h (by omega) (by omega) (by omega) (by omega)
    have dc := h.dv (a := b - 1) (by omega) (by omega)
    have dlt := dv_lt h (a := b - 1) (b := b) (by omega) (by omega) (by omega)
    have u2 := lo_bounds (t := dv l (b - 1)) (b := dv l a) (by omega) (by omega)
    have x2 := lo_cross (t := dv l (b - 1)) (b := dv l a) (by omega)
    have ll := low_lt (t := dv m b) (b := dv m a) (u := dv l (b - 1)) (c := dv l a) (by omega) (by omega)
    have y1 := mul_bd u2.1 (by omega : lo1 (dv l (b - 1)) (dv l a) ≤ 100) (by omega : 0 ≤ lo2 (dv m b) (dv m a)) (by omega : lo2 (dv m b) (dv m a) ≤ 100)
    have ia := is_above_ok (n + 2) (a := lo1 (dv l (b - 1)) (dv l a)) (b := lo2 (dv l (b - 1)) (dv l a)) (c := lo1 (dv m b) (dv m a)) (d := lo2 (dv m b) (dv m a)) (mulOk_l (by omega) (by omega)) (mulOk_l (by omega) (by omega))
    simp only [lowD_eq] at q1 q2
    by_cases hc : dv m b * dv l a < dv l (b - 1) * dv m a
    · have t2 := counts_t2 n (m := m) (k := k) (pr := pr) (p := lo1 (dv l (b - 1)) (dv l a)) (q := lo2 (dv l (b - 1)) (dv l a)) h k2 k6 a1 b1 ab ne (by omega) (by omega) (by omega) (by omega) (by omega) ?_ (fun _ => Int.le_of_eq x2.symm) ?_
      · have cc := ll.mpr hc
        rw [W_cut 2, show dropB 2 (dropB 2 c14) = dropB 4 c14 from rfl]
        generalize dropB 4 c14 = tl at t2 ⊢
        simp [c14, dropB, takeB, init, argS, outsOf, solve, seen, frAt, fzAt, owAt, ownD, putN_eq, putO_eq, putT_nm, putT_tp, putT_tl, putTs, putPar, chg, setD, appD, isOL, wipeP, plainS, wipeS, back, argsOf, argD, avD, lendOk, lendP, pmA, avB, giveBack, pairD, runP, addP, subP, mulP, modP, negP, eqP, neP, eqD_int, eqD_bool, eqD_str, isBo_plain, allP, anyP, sumP, ltP, leP, gtP, geP, isNP, isnNP, lenP, isIP, isTy, tupOfP, min2P, max2P, minP, maxP, absP, intP, idxP, slcP, cut1, cutL, items, rngI, enumI, zipI, szl, Function.comp_def, q1, q2, hb, ia, cc]
        exact t2
      · refine Int.le_of_lt (Int.lt_of_mul_lt_mul_right (a := dv l a) ?_ (by omega))
        have e1 : dv m b * lo2 (dv l (b - 1)) (dv l a) * dv l a = dv m b * dv l a * lo2 (dv l (b - 1)) (dv l a) := by ac_rfl
        have e2 : lo1 (dv l (b - 1)) (dv l a) * dv m a * dv l a = lo1 (dv l (b - 1)) (dv l a) * dv l a * dv m a := by ac_rfl
        have e3 : dv l (b - 1) * lo2 (dv l (b - 1)) (dv l a) * dv m a = dv l (b - 1) * dv m a * lo2 (dv l (b - 1)) (dv l a) := by ac_rfl
        rw [e1, e2, x2, e3]
        exact Int.mul_lt_mul_of_pos_right hc u2.2.2.1
      · rw [x2]
        exact Int.mul_lt_mul_of_pos_right dlt u2.2.2.1
    · have t2 := counts_t2 n (m := m) (k := k) (pr := pr) (p := lo1 (dv m b) (dv m a)) (q := lo2 (dv m b) (dv m a)) h k2 k6 a1 b1 ab ne (by omega) (by omega) (by omega) (by omega) (by omega) (Int.le_of_eq x1.symm) (fun _ => ?_) low1
      · have cc : ¬ lo1 (dv m b) (dv m a) * lo2 (dv l (b - 1)) (dv l a) < lo1 (dv l (b - 1)) (dv l a) * lo2 (dv m b) (dv m a) := fun z => hc (ll.mp z)
        rw [W_cut 2, show dropB 2 (dropB 2 c14) = dropB 4 c14 from rfl]
        generalize dropB 4 c14 = tl at t2 ⊢
        simp [c14, dropB, takeB, init, argS, outsOf, solve, seen, frAt, fzAt, owAt, ownD, putN_eq, putO_eq, putT_nm, putT_tp, putT_tl, putTs, putPar, chg, setD, appD, isOL, wipeP, plainS, wipeS, back, argsOf, argD, avD, lendOk, lendP, pmA, avB, giveBack, pairD, runP, addP, subP, mulP, modP, negP, eqP, neP, eqD_int, eqD_bool, eqD_str, isBo_plain, allP, anyP, sumP, ltP, leP, gtP, geP, isNP, isnNP, lenP, isIP, isTy, tupOfP, min2P, max2P, minP, maxP, absP, intP, idxP, slcP, cut1, cutL, items, rngI, enumI, zipI, szl, Function.comp_def, q1, q2, hb, ia, cc]
        exact t2
      · refine Int.le_of_mul_le_mul_right (a := dv m a) ?_ (by omega)
        have e1 : dv l (b - 1) * lo2 (dv m b) (dv m a) * dv m a = dv l (b - 1) * dv m a * lo2 (dv m b) (dv m a) := by ac_rfl
        have e2 : lo1 (dv m b) (dv m a) * dv l a * dv m a = lo1 (dv m b) (dv m a) * dv m a * dv l a := by ac_rfl
        have e3 : dv m b * lo2 (dv m b) (dv m a) * dv l a = dv m b * dv l a * lo2 (dv m b) (dv m a) := by ac_rfl
        rw [e1, e2, x1, e3]
        exact Int.mul_le_mul_of_nonneg_right (by omega) (by omega)
  · have t2 := counts_t2 n (m := m) (k := k) (pr := pr) (p := lo1 (dv m b) (dv m a)) (q := lo2 (dv m b) (dv m a)) h k2 k6 a1 b1 ab ne (by omega) (by omega) (by omega) (by omega) (by omega) (Int.le_of_eq x1.symm) (fun z => absurd z hb) low1
    simp only [lowD_eq] at q1
    rw [W_cut 2, show dropB 2 (dropB 2 c14) = dropB 4 c14 from rfl]
    generalize dropB 4 c14 = tl at t2 ⊢
    simp [c14, dropB, takeB, init, argS, outsOf, solve, seen, frAt, fzAt, owAt, ownD, putN_eq, putO_eq, putT_nm, putT_tp, putT_tl, putTs, putPar, chg, setD, appD, isOL, wipeP, plainS, wipeS, back, argsOf, argD, avD, lendOk, lendP, pmA, avB, giveBack, pairD, runP, addP, subP, mulP, modP, negP, eqP, neP, eqD_int, eqD_bool, eqD_str, isBo_plain, allP, anyP, sumP, ltP, leP, gtP, geP, isNP, isnNP, lenP, isIP, isTy, tupOfP, min2P, max2P, minP, maxP, absP, intP, idxP, slcP, cut1, cutL, items, rngI, enumI, zipI, szl, Function.comp_def, q1, hb]
    exact t2
theorem counts_for_ok (n : Nat) {l m : List Int} {k a b : Int} (h : Row l) (h' : Row m) (e : l.length = m.length) (k2 : 2 ≤ k) (k6 : k ≤ 6) (a1 : 1 ≤ a) (b1 : a < b) (ab : a + b ≤ l.length + 1) (ne : dv l a * dv m b ≠ dv m a * dv l b) :
    ∃ a' b' x0 x1 x2 r, (a' + b' = a + b) ∧ Parts l m a' b' x0 x1 x2 r ∧ callN T (n + 4) 14 [tI l, tI m, .int k, pD (a, b)] = .ok (.tup [.tup (([x0, x1, x2, 0, 0, 0].map D.int).take k.toNat), .tup (([a', b' - 1, r, 0, 0, 0].map D.int).take k.toNat)]) [tI l, tI m, .int k, pD (a, b)] := by
  have h2 := h.l2
  have da := h.dv (a := a) a1 (by omega)
  have db := h.dv (a := b) (by omega) (by omega)
  have ea := h'.dv (a := a) a1 (by omega)
  have eb := h'.dv (a := b) (by omega) (by omega)
  have q1 := quotient_ok n (a := b) (b := a) h' (by omega) (by omega) (by omega) (by omega)
  have q2 := quotient_ok n (a := b) (b := a) h (by omega) (by omega) (by omega) (by omega)
  have u1 := lo_bounds (t := dv m b) (b := dv m a) (by omega) (by omega)
  have u2 := lo_bounds (t := dv l b) (b := dv l a) (by omega) (by omega)
  have ll := low_lt (t := dv l b) (b := dv l a) (u := dv m b) (c := dv m a) (by omega) (by omega)
  have ia := is_above_ok (n + 2) (a := lo1 (dv m b) (dv m a)) (b := lo2 (dv m b) (dv m a)) (c := lo1 (dv l b) (dv l a)) (d := lo2 (dv l b) (dv l a)) (mulOk_l (by omega) (by omega)) (mulOk_l (by omega) (by omega))
  simp only [lowD_eq] at q1 q2
  have main : ∃ a' b', a' + b' = a + b ∧ WF (callN T (n + 4) 14 [tI l, tI m, .int k, pD (a, b)]) fun d o => (∃ x0 x1 x2 r, d = .tup [.tup (([x0, x1, x2, 0, 0, 0].map D.int).take k.toNat), .tup (([a', b' - 1, r, 0, 0, 0].map D.int).take k.toNat)] ∧ Parts l m a' b' x0 x1 x2 r) ∧ o = [tI l, tI m, .int k, pD (a, b)] := by
    by_cases hc : dv l b * dv m a < dv m b * dv l a
    · refine ⟨b, a, by omega, WF_def (d := d14) rfl rfl ?_⟩
      have cc := ll.mpr hc
      have t1 := counts_t1 n (l := l) (m := m) (k := k) (a := b) (b := a) (pr := pD (a, b)) h h' e k2 k6 (by omega) (by omega) (by omega) (by omega) (by rw [Int.mul_comm (dv m a), Int.mul_comm (dv l a)]; exact hc)
      show W (runB _ _ _ c14 _) _
      rw [W_cut 2]
      generalize dropB 2 c14 = tl at t1 ⊢
      simp only [pD] at t1
      simp [d14, c14, takeB, init, argS, outsOf, solve, seen, frAt, fzAt, owAt, ownD, putN_eq, putO_eq, putT_nm, putT_tp, putT_tl, putTs, putPar, chg, setD, appD, isOL, wipeP, plainS, wipeS, back, argsOf, argD, avD, lendOk, lendP, pmA, avB, giveBack, pairD, runP, addP, subP, mulP, modP, negP, eqP, neP, eqD_int, eqD_bool, eqD_str, isBo_plain, allP, anyP, sumP, ltP, leP, gtP, geP, isNP, isnNP, lenP, isIP, isTy, tupOfP, min2P, max2P, minP, maxP, absP, intP, idxP, slcP, cut1, cutL, items, rngI, enumI, zipI, szl, Function.comp_def, pD, q1, q2, ia, cc]
      refine W.mono t1 ?_
      rintro fl s ⟨x0, x1, x2, r, rfl, hp⟩
      exact ⟨⟨x0, x1, x2, r, rfl, hp⟩, rfl⟩
    · refine ⟨a, b, by omega, WF_def (d := d14) rfl rfl ?_⟩
      have cc : ¬ lo1 (dv l b) (dv l a) * lo2 (dv m b) (dv m a) < lo1 (dv m b) (dv m a) * lo2 (dv l b) (dv l a) := fun z => hc (ll.mp z)
      have t1 := counts_t1 n (l := l) (m := m) (k := k) (a := a) (b := b) (pr := pD (a, b)) h h' e k2 k6 (by omega) (by omega) (by omega) (by omega) (by rw [Int.mul_comm (dv m a), Int.mul_comm (dv l a)] at ne; omega)
      show W (runB _ _ _ c14 _) _
      rw [W_cut 2]
      generalize dropB 2 c14 = tl at t1 ⊢
      simp only [pD] at t1
      simp [d14, c14, takeB, init, argS, outsOf, solve, seen, frAt, fzAt, owAt, ownD, putN_eq, putO_eq, putT_nm, putT_tp, putT_tl, putTs, putPar, chg, setD, appD, isOL, wipeP, plainS, wipeS, back, argsOf, argD, avD, lendOk, lendP, pmA, avB, giveBack, pairD, runP, addP, subP, mulP, modP, negP, eqP, neP, eqD_int, eqD_bool, eqD_str, isBo_plain, allP, anyP, sumP, ltP, leP, gtP, geP, isNP, isnNP, lenP, isIP, isTy, tupOfP, min2P, max2P, minP, maxP, absP, intP, idxP, slcP, cut1, cutL, items, rngI, enumI, zipI, szl, Function.comp_def, pD, q1, q2, ia, cc]
      refine W.mono t1 ?_
      rintro fl s ⟨x0, x1, x2, r, rfl, hp⟩
      exact ⟨⟨x0, x1, x2, r, rfl, hp⟩, rfl⟩
  obtain ⟨a', b', hab, hw⟩ := main
  obtain ⟨d, o, e1, ⟨x0, x1, x2, r, e2, hp⟩, e3⟩ := hw.ex
  exact ⟨a', b', x0, x1, x2, r, hab, hp, by rw [e1, e2, e3]⟩

theorem parted_by_none (n : Nat) {l m : List Int} {k : Int} (h : Row l) (h' : Row m) (e : l.length = m.length) (hp : pairsF l m k = []) : callN T (n + 5) 15 [tI l, tI m, .int k] = .ok .non [tI l, tI m, .int k] := by
  have z := pairs_for_ok n (k := k) h h' e
  rw [hp] at z
  refine WF.eq (WF_def (d := d15) rfl rfl ?_)
  simp [d15, c15, init, argS, outsOf, solve, seen, frAt, fzAt, owAt, ownD, putN_eq, putO_eq, putT_nm, putT_tp, putT_tl, putTs, putPar, chg, setD, appD, isOL, wipeP, plainS, wipeS, back, argsOf, argD, avD, lendOk, lendP, pmA, avB, giveBack, pairD, runP, addP, subP, mulP, modP, negP, eqP, neP, eqD_int, eqD_bool, eqD_str, isBo_plain, allP, anyP, sumP, ltP, leP, gtP, geP, isNP, isnNP, lenP, isIP, isTy, tupOfP, min2P, max2P, minP, maxP, absP, intP, idxP, slcP, cut1, cutL, items, rngI, enumI, zipI, szl, Function.comp_def]
  refine WF_eq z ?_
  simp [init, argS, outsOf, solve, seen, frAt, fzAt, owAt, ownD, putN_eq, putO_eq, putT_nm, putT_tp, putT_tl, putTs, putPar, chg, setD, appD, isOL, wipeP, plainS, wipeS, back, argsOf, argD, avD, lendOk, lendP, pmA, avB, giveBack, pairD, runP, addP, subP, mulP, modP, negP, eqP, neP, eqD_int, eqD_bool, eqD_str, isBo_plain, allP, anyP, sumP, ltP, leP, gtP, geP, isNP, isnNP, lenP, isIP, isTy, tupOfP, min2P, max2P, minP, maxP, absP, intP, idxP, slcP, cut1, cutL, items, rngI, enumI, zipI, szl, Function.comp_def]
theorem pairsF_mem {l m : List Int} {k a b : Int} (hp : (a, b) ∈ pairsF l m k) : 1 ≤ a ∧ a < b ∧ a + b ≤ l.length + 1 ∧ (k ≤ 2 → a + b = l.length + 1) ∧ dv l a * dv m b ≠ dv m a * dv l b := by
  unfold pairsF pairsA at hp
  obtain ⟨x, hx, hp⟩ := List.mem_flatMap.mp hp
  obtain ⟨y, hy, hp⟩ := List.mem_map.mp hp
  cases hp
  obtain ⟨h1, h2⟩ := List.mem_filter.mp hy
  have h3 := mem_rg.mp h1
  have h4 := mem_rg.mp hx
  simp [pcond] at h2
  refine ⟨by omega, by omega, by omega, fun hk => ?_, h2.2⟩
  rcases h2.1 with z | z
  · omega
  · exact z
theorem parted_by_some (n : Nat) {l m : List Int} {k : Int} (h : Row l) (h' : Row m) (e : l.length = m.length) (k2 : 2 ≤ k) (k6 : k ≤ 6) (hp : pairsF l m k ≠ []) :
    ∃ a b x0 x1 x2 r, (k = 2 → r = 0) ∧ Parts l m a b x0 x1 x2 r ∧ callN T (n + 5) 15 [tI l, tI m, .int k] = .ok (.tup [.tup (([x0, x1, x2, 0, 0, 0].map D.int).take k.toNat), .tup (([a, b - 1, r, 0, 0, 0].map D.int).take k.toNat)]) [tI l, tI m, .int k] := by
  have z := pairs_for_ok n (k := k) h h' e
  cases hq : pairsF l m k with
  | nil => exact absurd hq hp
  | cons p ps =>
    obtain ⟨a, b⟩ := p
    rw [hq] at z
    obtain ⟨h1, h2, h3, h4, h5⟩ := pairsF_mem (l := l) (m := m) (k := k) (a := a) (b := b) (by rw [hq]; exact List.mem_cons_self ..)
    obtain ⟨a', b', x0, x1, x2, r, hab, hP, hc⟩ := counts_for_ok n (k := k) h h' e k2 k6 h1 h2 h3 h5
    refine ⟨a', b', x0, x1, x2, r, fun hk => ?_, hP, ?_⟩
    · have := h4 (by omega)
      rw [hP.r0]
      omega
    · refine WF.eq (WF_def (d := d15) rfl rfl ?_)
      simp [d15, c15, init, argS, outsOf, solve, seen, frAt, fzAt, owAt, ownD, putN_eq, putO_eq, putT_nm, putT_tp, putT_tl, putTs, putPar, chg, setD, appD, isOL, wipeP, plainS, wipeS, back, argsOf, argD, avD, lendOk, lendP, pmA, avB, giveBack, pairD, runP, addP, subP, mulP, modP, negP, eqP, neP, eqD_int, eqD_bool, eqD_str, isBo_plain, allP, anyP, sumP, ltP, leP, gtP, geP, isNP, isnNP, lenP, isIP, isTy, tupOfP, min2P, max2P, minP, maxP, absP, intP, idxP, slcP, cut1, cutL, items, rngI, enumI, zipI, szl, Function.comp_def]
      refine WF_eq z ?_
      simp [init, argS, outsOf, solve, seen, frAt, fzAt, owAt, ownD, putN_eq, putO_eq, putT_nm, putT_tp, putT_tl, putTs, putPar, chg, setD, appD, isOL, wipeP, plainS, wipeS, back, argsOf, argD, avD, lendOk, lendP, pmA, avB, giveBack, pairD, runP, addP, subP, mulP, modP, negP, eqP, neP, eqD_int, eqD_bool, eqD_str, isBo_plain, allP, anyP, sumP, ltP, leP, gtP, geP, isNP, isnNP, lenP, isIP, isTy, tupOfP, min2P, max2P, minP, maxP, absP, intP, idxP, slcP, cut1, cutL, items, rngI, enumI, zipI, szl, Function.comp_def, atI, ixN]
      refine WF_eq hc ?_
      simp [init, argS, outsOf, solve, seen, frAt, fzAt, owAt, ownD, putN_eq, putO_eq, putT_nm, putT_tp, putT_tl, putTs, putPar, chg, setD, appD, isOL, wipeP, plainS, wipeS, back, argsOf, argD, avD, lendOk, lendP, pmA, avB, giveBack, pairD, runP, addP, subP, mulP, modP, negP, eqP, neP, eqD_int, eqD_bool, eqD_str, isBo_plain, allP, anyP, sumP, ltP, leP, gtP, geP, isNP, isnNP, lenP, isIP, isTy, tupOfP, min2P, max2P, minP, maxP, absP, intP, idxP, slcP, cut1, cutL, items, rngI, enumI, zipI, szl, Function.comp_def]
theorem pls_pD {ps : List (Int × Int)} : pls (ps.map pD) = true ∧ dps (ps.map pD) ≤ 1 := by
  induction ps with
  | nil => simp [pls, dps]
  | cons p ps ih => simp [pls, dps, ih.1, ih.2, pD, pl, dp]
theorem pairs_nil {ps : List (Int × Int)} : eqD (.tup (ps.map pD)) (.tup []) = some (decide (ps = [])) := by
  rw [eqD_pl (by simp [pl, pls_pD.1]) (by rfl) (by have := @pls_pD ps; simp [dp]; omega) (by simp [dp, dps])]
  congr 1
  rw [decide_eq_decide]
  cases ps <;> simp

/-! ### results by claims, plain -/
def badB (l : List Int) (v s w t : Int) : Bool := decide (0 < s) && (decide (t < l.length) && decide (v * dv l (t + 1) < w * dv l s))
def resB (l cs ss : List Int) : Bool := (cs.zip ss).all fun p => (cs.zip ss).all fun q => !badB l p.1 p.2 q.1 q.2
theorem atI_row0 {l : List Int} {a : Int} (h1 : 0 ≤ a) (h2 : a < l.length) : atI (l.map D.int) a = some (.int (dv l (a + 1))) := by
  rw [atI_map, atI_get (by omega) (by omega)]
  simp [dv]

/-! ### fair parts -/
structure Fair (l : List Int) (x0 da : Int) (v s : Int) : Prop where
  lo : 0 < s → dv l s * x0 ≤ v * da
  hi : s < l.length → v * da ≤ dv l (s + 1) * x0
theorem resB_true {l cs ss : List Int} {x0 da : Int} (hda : 0 < da) (hl : ∀ x ∈ l, 1 ≤ x ∧ x ≤ 100) (hs : ∀ p ∈ cs.zip ss, 0 ≤ p.2 ∧ p.2 ≤ l.length) (h : ∀ p ∈ cs.zip ss, Fair l x0 da p.1 p.2) : resB l cs ss = true := by
  unfold resB
  rw [List.all_eq_true]
  intro p hp
  rw [List.all_eq_true]
  intro q hq
  have f1 := h p hp
  have f2 := h q hq
  have s1 := hs p hp
  have s2 := hs q hq
  simp only [badB, Bool.not_eq_true', Bool.and_eq_false_iff, decide_eq_false_iff_not]
  by_cases c1 : 0 < p.2
  · by_cases c2 : q.2 < l.length
    · refine .inr (.inr fun c3 => ?_)
      have a1 := f1.lo c1
      have a2 := f2.hi c2
      have d1 := hl _ (dv_mem (l := l) (a := q.2 + 1) (by omega) (by omega))
      have d2 := hl _ (dv_mem (l := l) (a := p.2) (by omega) (by omega))
      have m1 : dv l p.2 * x0 * dv l (q.2 + 1) ≤ p.1 * da * dv l (q.2 + 1) := Int.mul_le_mul_of_nonneg_right a1 (by omega)
      have m2 : q.1 * da * dv l p.2 ≤ dv l (q.2 + 1) * x0 * dv l p.2 := Int.mul_le_mul_of_nonneg_right a2 (by omega)
      have m3 : p.1 * dv l (q.2 + 1) * da < q.1 * dv l p.2 * da := Int.mul_lt_mul_of_pos_right c3 hda
      have e1 : dv l p.2 * x0 * dv l (q.2 + 1) = dv l (q.2 + 1) * x0 * dv l p.2 := by ac_rfl
      have e2 : p.1 * da * dv l (q.2 + 1) = p.1 * dv l (q.2 + 1) * da := by ac_rfl
      have e3 : q.1 * da * dv l p.2 = q.1 * dv l p.2 * da := by ac_rfl
      omega
    · exact .inr (.inl c2)
  · exact .inl c1
theorem resB_false {l cs ss : List Int} {v s w t : Int} (hp : (v, s) ∈ cs.zip ss) (hq : (w, t) ∈ cs.zip ss) (c1 : 0 < s) (c2 : t < l.length) (c3 : v * dv l (t + 1) < w * dv l s) : resB l cs ss = false := by
  cases e : resB l cs ss with
  | false => rfl
  | true =>
    unfold resB at e
    rw [List.all_eq_true] at e
    have := e _ hp
    rw [List.all_eq_true] at this
    have := this _ hq
    simp [badB, c1, c2, c3] at this
def csOf (k x0 x1 x2 : Int) : List Int := [x0, x1, x2, 0, 0, 0].take k.toNat
theorem zip6 {k x0 x1 x2 a b r : Int} : (csOf k x0 x1 x2).zip (csOf k a b r) = [(x0, a), (x1, b), (x2, r), (0, 0), (0, 0), (0, 0)].take k.toNat := by
  unfold csOf
  rw [List.zip_eq_zipWith, ← List.take_zipWith]
  rfl
theorem Parts.fair {l m : List Int} {k a b x0 x1 x2 r : Int} (h : Row l) (hP : Parts l m a b x0 x1 x2 r) : ∀ p ∈ (csOf k x0 x1 x2).zip (csOf k a (b - 1) r), (0 ≤ p.2 ∧ p.2 ≤ l.length) ∧ Fair l x0 (dv l a) p.1 p.2 := by
  intro p hp
  rw [zip6] at hp
  have hp := List.mem_of_mem_take hp
  have ha := hP.a1
  have hb := hP.b1
  have hab := hP.ab
  have hr := hP.r0
  have hx0 := hP.p0
  have hn := h.l1
  have da := h.dv (a := a) ha (by omega)
  have zero : 0 ≤ dv l (0 + 1) * x0 := Int.mul_nonneg (by have := h.dv (a := 0 + 1) (by omega) (by omega); omega) (by omega)
  simp only [List.mem_cons, List.not_mem_nil, or_false] at hp
  rcases hp with rfl | rfl | rfl | rfl | rfl | rfl
  · refine ⟨⟨by simp only []; omega, by simp only []; omega⟩, fun _ => ?_, fun c => ?_⟩
    · simp only []; rw [Int.mul_comm]; exact Int.le_refl _
    · simp only [] at c ⊢
      have := dv_lt h (a := a) (b := a + 1) ha (by omega) (by omega)
      rw [Int.mul_comm x0]
      exact Int.mul_le_mul_of_nonneg_right (by omega) (by omega)
  · refine ⟨⟨by simp only []; omega, by simp only []; omega⟩, fun c => ?_, fun c => ?_⟩
    · exact hP.lo1 (by simp only [] at c; omega)
    · simp only [] at c ⊢
      rw [show b - 1 + 1 = b by omega]
      exact hP.hi1
  · refine ⟨⟨by simp only []; omega, by simp only []; omega⟩, fun c => ?_, fun c => ?_⟩
    · exact hP.lo2 c
    · simp only [] at c ⊢
      by_cases c2 : 0 < r
      · exact hP.hi2 c2
      · have e : r = 0 := by omega
        rw [hP.z2 e, e]
        simpa using zero
  all_goals
    refine ⟨⟨by simp, by simp⟩, fun c => ?_, fun c => ?_⟩
    · simp at c
    · simpa using zero

theorem nices_pD {ps : List (Int × Int)} {B : Int} (hB : B ≤ 1000) (h : ∀ p ∈ ps, 0 ≤ p.1 ∧ p.1 ≤ B ∧ 0 ≤ p.2 ∧ p.2 ≤ B) : nices (ps.map pD) = true ∧ bks (ps.map pD) = 3 * ps.length ∧ dps (ps.map pD) ≤ 1 := by
  induction ps with
  | nil => simp [nices, bks, dps]
  | cons p ps ih =>
    obtain ⟨h1, h2, h3⟩ := ih fun q hq => h q (List.mem_cons_of_mem _ hq)
    have := h p (List.mem_cons_self ..)
    refine ⟨?_, ?_, ?_⟩
    · simp [nices, h1, pD, nice]
      omega
    · simp [bks, h2, pD, bk]
      omega
    · simp [dps, pD, dp]
      omega
theorem nices_ints {l : List Int} (h : ∀ x ∈ l, 0 ≤ x ∧ x ≤ 10 ^ 30) : nices (l.map D.int) = true ∧ bks (l.map D.int) = l.length ∧ dps (l.map D.int) = 0 := by
  induction l with
  | nil => simp [nices, bks, dps]
  | cons p ps ih =>
    obtain ⟨h1, h2, h3⟩ := ih fun q hq => h q (List.mem_cons_of_mem _ hq)
    have := h p (List.mem_cons_self ..)
    refine ⟨?_, ?_, ?_⟩
    · simp [nices, h1, nice]
      omega
    · simp [bks, h2, bk]
      omega
    · simp [dps, dp, h3]

/-! ### prices of a table -/
abbrev Fr := Int × Int
def frD (f : Fr) : D := .tup [.int f.1, .int f.2]
def loF (t b : Int) : Fr := (lo1 t b, lo2 t b)
def hiD : Option Fr → D
  | none => .non
  | some f => frD f
def above (f g : Fr) : Bool := decide (g.1 * f.2 < f.1 * g.2)
def stepL (d : List Int) (f : Fr) (p : Int × Int) : Fr := if p.2 < d.length then (if above (loF p.1 (dv d (p.2 + 1))) f then loF p.1 (dv d (p.2 + 1)) else f) else f
def stepH (d : List Int) (h : Option Fr) (p : Int × Int) : Option Fr := if 0 < p.2 then (match h with
  | none => some (loF p.1 (dv d p.2))
  | some f => if above f (loF p.1 (dv d p.2)) then some (loF p.1 (dv d p.2)) else some f) else h
def lowF (d cs t : List Int) : Fr := (cs.zip t).foldl (stepL d) (0, 1)
def highF (d cs t : List Int) : Option Fr := (cs.zip t).foldl (stepH d) none
def prF (d cs t : List Int) : Option (Fr × Fr) := match highF d cs t with
  | some h => if above (lowF d cs t) h then none else some (lowF d cs t, h)
  | none => none
def prD : Option (Fr × Fr) → D
  | none => .non
  | some p => .tup [frD p.1, frD p.2]
/-- small enough -/
structure FrOk (f : Fr) : Prop where
  a : 0 ≤ f.1
  b : f.1 < 2 ^ 60
  c : 0 < f.2
  e : f.2 ≤ 100
theorem loF_ok {t b : Int} (h0 : 0 ≤ t) (h1 : t < 2 ^ 60) (h2 : 0 < b) (h3 : b ≤ 100) : FrOk (loF t b) := by
  have := lo_bounds h0 h2
  exact ⟨this.1, by show lo1 t b < _; omega, this.2.2.1, by show lo2 t b ≤ _; omega⟩
theorem above_ok (n : Nat) {f g : Fr} (hf : FrOk f) (hg : FrOk g) : callN T (n + 1) 5 [frD f, frD g] = .ok (.bl (above f g)) [frD f, frD g] := by
  have := hf.b
  have := hg.b
  have := hf.a
  have := hg.a
  exact is_above_ok n (mulOk_l (by omega) (by omega)) (mulOk_l (by omega) (by omega))
theorem stepL_ok {d : List Int} (hd : Row d) {f : Fr} {p : Int × Int} (hf : FrOk f) (h0 : 0 ≤ p.1) (h1 : p.1 < 2 ^ 60) (h2 : 0 ≤ p.2) : FrOk (stepL d f p) := by
  unfold stepL
  split
  · split
    · have := hd.dv (a := p.2 + 1) (by omega) (by omega)
      exact loF_ok h0 h1 (by omega) (by omega)
    · exact hf
  · exact hf
theorem stepH_ok {d : List Int} (hd : Row d) {h : Option Fr} {p : Int × Int} (hh : ∀ f, h = some f → FrOk f) (h0 : 0 ≤ p.1) (h1 : p.1 < 2 ^ 60) (h3 : p.2 ≤ d.length) : ∀ f, stepH d h p = some f → FrOk f := by
  intro f e
  unfold stepH at e
  split at e
  · have := hd.dv (a := p.2) (by omega) (by omega)
    have z : FrOk (loF p.1 (dv d p.2)) := loF_ok h0 h1 (by omega) (by omega)
    split at e
    · cases e; exact z
    · split at e
      · cases e; exact z
      · cases e; exact hh _ rfl
  · exact hh f e
def PrInv (d cs t : List Int) (xs : List D) (s : Slots) : Prop := ∃ (f : Fr) (h : Option Fr) (z5 z6 z7 : Sl) (ps : List (Int × Int)), s = [.fr (tI d), .fr (.lst (cs.map .int)), .fr (tI t), .fr (frD f), .fr (hiD h), z5, z6, z7] ∧ z5.plain = true ∧ z6.plain = true ∧ z7.plain = true ∧ xs = ps.map (fun p => .tup [.int p.1, .int p.2]) ∧ (∀ p ∈ ps, p ∈ cs.zip t) ∧ FrOk f ∧ (∀ g, h = some g → FrOk g) ∧ ps.foldl (stepL d) f = lowF d cs t ∧ ps.foldl (stepH d) h = highF d cs t
@[simp] theorem isNon_frD {f : Fr} : D.isNon (frD f) = false := rfl
theorem price_range_ok (n : Nat) {d cs t : List Int} (hd : Row d) (hc : ∀ x ∈ cs, 0 ≤ x ∧ x < 2 ^ 60) (ht : ∀ s ∈ t, 0 ≤ s ∧ s ≤ d.length) (hh : highF d cs t ≠ none) : callN T (n + 3) 8 [tI d, .lst (cs.map .int), tI t] = .ok (prD (prF d cs t)) [tI d, .lst (cs.map .int), tI t] := by
  refine WF.eq (WF_def (d := d8) rfl rfl ?_)
  simp [d8, c8, init, argS, outsOf, solve, seen, frAt, fzAt, owAt, ownD, putN_eq, putO_eq, putT_nm, putT_tp, putT_tl, putTs, putPar, chg, setD, appD, isOL, wipeP, plainS, wipeS, back, argsOf, argD, avD, lendOk, lendP, pmA, avB, giveBack, pairD, runP, addP, subP, mulP, modP, negP, eqP, neP, eqD_int, eqD_bool, eqD_str, isBo_plain, allP, anyP, sumP, ltP, leP, gtP, geP, isNP, isnNP, lenP, isIP, isTy, tupOfP, min2P, max2P, minP, maxP, absP, intP, idxP, slcP, cut1, cutL, items, rngI, enumI, zipI, szl, Function.comp_def]
  rw [zipD_map]
  refine W_forL (PrInv d cs t) ?_ ?_ _ _ ⟨(0, 1), none, .no, .no, .no, cs.zip t, rfl, rfl, rfl, rfl, rfl, fun p hp => hp, ⟨by simp, by simp, by simp, by simp⟩, (fun g e => nomatch e), rfl, rfl⟩
  · rintro x xs s ⟨f, h, z5, z6, z7, ps, rfl, g5, g6, g7, hx, hm, hf, hh, eL, eH⟩
    cases ps with
    | nil => simp at hx
    | cons p ps =>
      obtain ⟨v, s⟩ := p
      simp at hx
      obtain ⟨rfl, rfl⟩ := hx
      have mz := List.of_mem_zip (hm (v, s) (List.mem_cons_self ..))
      have hv := hc v mz.1
      have hs := ht s mz.2
      have fin : ∀ z : Sl, z.plain = true → PrInv d cs t (ps.map fun p => .tup [.int p.1, .int p.2]) [.fr (tI d), .fr (.lst (cs.map .int)), .fr (tI t), .fr (frD (stepL d f (v, s))), .fr (hiD (stepH d h (v, s))), .fr (.int v), .fr (.int s), z] := fun z hz => ⟨_, _, _, _, z, ps, rfl, rfl, rfl, hz, rfl, fun p hp => hm p (List.mem_cons_of_mem _ hp), stepL_ok hd hf hv.1 hv.2 hs.1, stepH_ok hd hh hv.1 hv.2 hs.2, eL, eH⟩
      by_cases c1 : s < d.length
      · have b1 := hd.dv (a := s + 1) (by omega) (by omega)
        have l1 : callN T (n + 2) 4 [.int v, .int (dv d (s + 1))] = .ok (frD (loF v (dv d (s + 1)))) [.int v, .int (dv d (s + 1))] := lowest_ok n (by omega) (by omega) (by omega) (by omega)
        have o1 : FrOk (loF v (dv d (s + 1))) := loF_ok hv.1 hv.2 (by omega) (by omega)
        have a1 := above_ok (n + 1) o1 hf
        have x1 : atI (d.map D.int) s = some (.int (dv d (s + 1))) := by rw [atI_map, atI_get hs.1 c1]; simp [dv]
        have eS : stepL d f (v, s) = if above (loF v (dv d (s + 1))) f then loF v (dv d (s + 1)) else f := by simp [stepL, c1]
        by_cases c2 : 0 < s
        · have b2 := hd.dv (a := s) (by omega) (by omega)
          have l2 : callN T (n + 2) 4 [.int v, .int (dv d s)] = .ok (frD (loF v (dv d s))) [.int v, .int (dv d s)] := lowest_ok n (by omega) (by omega) (by omega) (by omega)
          have o2 : FrOk (loF v (dv d s)) := loF_ok hv.1 hv.2 (by omega) (by omega)
          have x2 := atI_row (l := d) (a := s) (by omega) (by omega)
          cases h with
          | none =>
            have eT : stepH d none (v, s) = some (loF v (dv d s)) := by simp [stepH, c2]
            rw [eS, eT] at fin
            cases e1 : above (loF v (dv d (s + 1))) f <;> simp [e1, hiD] at fin <;> simp [init, argS, outsOf, solve, seen, frAt, fzAt, owAt, ownD, putN_eq, putO_eq, putT_nm, putT_tp, putT_tl, putTs, putPar, chg, setD, appD, isOL, wipeP, plainS, wipeS, back, argsOf, argD, avD, lendOk, lendP, pmA, avB, giveBack, pairD, runP, addP, subP, mulP, modP, negP, eqP, neP, eqD_int, eqD_bool, eqD_str, isBo_plain, allP, anyP, sumP, ltP, leP, gtP, geP, isNP, isnNP, lenP, isIP, isTy, tupOfP, min2P, max2P, minP, maxP, absP, intP, idxP, slcP, cut1, cutL, items, rngI, enumI, zipI, szl, Function.comp_def, g5, g6, g7, hiD, c1, c2, x1, x2, l1, l2, a1, e1] <;> exact fin _ rfl
          | some g =>
            have a2 := above_ok (n + 1) (hh g rfl) o2
            have eT : stepH d (some g) (v, s) = if above g (loF v (dv d s)) then some (loF v (dv d s)) else some g := by simp [stepH, c2]
            rw [eS, eT] at fin
            cases e1 : above (loF v (dv d (s + 1))) f <;> cases e2 : above g (loF v (dv d s)) <;> simp [e1, e2, hiD] at fin <;> simp [init, argS, outsOf, solve, seen, frAt, fzAt, owAt, ownD, putN_eq, putO_eq, putT_nm, putT_tp, putT_tl, putTs, putPar, chg, setD, appD, isOL, wipeP, plainS, wipeS, back, argsOf, argD, avD, lendOk, lendP, pmA, avB, giveBack, pairD, runP, addP, subP, mulP, modP, negP, eqP, neP, eqD_int, eqD_bool, eqD_str, isBo_plain, allP, anyP, sumP, ltP, leP, gtP, geP, isNP, isnNP, lenP, isIP, isTy, tupOfP, min2P, max2P, minP, maxP, absP, intP, idxP, slcP, cut1, cutL, items, rngI, enumI, zipI, szl, Function.comp_def, g5, g6, g7, hiD, c1, c2, x1, x2, l1, l2, a1, a2, e1, e2] <;> exact fin _ rfl
        · have eT : stepH d h (v, s) = h := by simp [stepH, c2]
          rw [eS, eT] at fin
          cases e1 : above (loF v (dv d (s + 1))) f <;> simp [e1] at fin <;> simp [init, argS, outsOf, solve, seen, frAt, fzAt, owAt, ownD, putN_eq, putO_eq, putT_nm, putT_tp, putT_tl, putTs, putPar, chg, setD, appD, isOL, wipeP, plainS, wipeS, back, argsOf, argD, avD, lendOk, lendP, pmA, avB, giveBack, pairD, runP, addP, subP, mulP, modP, negP, eqP, neP, eqD_int, eqD_bool, eqD_str, isBo_plain, allP, anyP, sumP, ltP, leP, gtP, geP, isNP, isnNP, lenP, isIP, isTy, tupOfP, min2P, max2P, minP, maxP, absP, intP, idxP, slcP, cut1, cutL, items, rngI, enumI, zipI, szl, Function.comp_def, g5, g6, g7, c1, c2, x1, l1, a1, e1] <;> exact fin _ rfl
      · have c2 : 0 < s := by have := hd.l1; omega
        have eS : stepL d f (v, s) = f := by simp [stepL, c1]
        have b2 := hd.dv (a := s) (by omega) (by omega)
        have l2 : callN T (n + 2) 4 [.int v, .int (dv d s)] = .ok (frD (loF v (dv d s))) [.int v, .int (dv d s)] := lowest_ok n (by omega) (by omega) (by omega) (by omega)
        have o2 : FrOk (loF v (dv d s)) := loF_ok hv.1 hv.2 (by omega) (by omega)
        have x2 := atI_row (l := d) (a := s) (by omega) (by omega)
        cases h with
        | none =>
          have eT : stepH d none (v, s) = some (loF v (dv d s)) := by simp [stepH, c2]
          rw [eS, eT] at fin
          simp [hiD] at fin
          simp [init, argS, outsOf, solve, seen, frAt, fzAt, owAt, ownD, putN_eq, putO_eq, putT_nm, putT_tp, putT_tl, putTs, putPar, chg, setD, appD, isOL, wipeP, plainS, wipeS, back, argsOf, argD, avD, lendOk, lendP, pmA, avB, giveBack, pairD, runP, addP, subP, mulP, modP, negP, eqP, neP, eqD_int, eqD_bool, eqD_str, isBo_plain, allP, anyP, sumP, ltP, leP, gtP, geP, isNP, isnNP, lenP, isIP, isTy, tupOfP, min2P, max2P, minP, maxP, absP, intP, idxP, slcP, cut1, cutL, items, rngI, enumI, zipI, szl, Function.comp_def, g5, g6, g7, hiD, c1, c2, x2, l2]
          exact fin _ rfl
        | some g =>
          have a2 := above_ok (n + 1) (hh g rfl) o2
          have eT : stepH d (some g) (v, s) = if above g (loF v (dv d s)) then some (loF v (dv d s)) else some g := by simp [stepH, c2]
          rw [eS, eT] at fin
          cases e2 : above g (loF v (dv d s)) <;> simp [e2, hiD] at fin <;> simp [init, argS, outsOf, solve, seen, frAt, fzAt, owAt, ownD, putN_eq, putO_eq, putT_nm, putT_tp, putT_tl, putTs, putPar, chg, setD, appD, isOL, wipeP, plainS, wipeS, back, argsOf, argD, avD, lendOk, lendP, pmA, avB, giveBack, pairD, runP, addP, subP, mulP, modP, negP, eqP, neP, eqD_int, eqD_bool, eqD_str, isBo_plain, allP, anyP, sumP, ltP, leP, gtP, geP, isNP, isnNP, lenP, isIP, isTy, tupOfP, min2P, max2P, minP, maxP, absP, intP, idxP, slcP, cut1, cutL, items, rngI, enumI, zipI, szl, Function.comp_def, g5, g6, g7, hiD, c1, c2, x2, l2, a2, e2] <;> exact fin _ rfl
  · rintro s ⟨f, h, z5, z6, z7, ps, rfl, g5, g6, g7, hx, hm, hf, hg, eL, eH⟩
    cases ps with
    | cons p ps => simp at hx
    | nil =>
      simp at eL eH
      subst eL eH
      cases e : highF d cs t with
      | none => exact absurd e hh
      | some g =>
        have a3 := above_ok (n + 1) hf (hg g e)
        cases e3 : above (lowF d cs t) g <;> simp [init, argS, outsOf, solve, seen, frAt, fzAt, owAt, ownD, putN_eq, putO_eq, putT_nm, putT_tp, putT_tl, putTs, putPar, chg, setD, appD, isOL, wipeP, plainS, wipeS, back, argsOf, argD, avD, lendOk, lendP, pmA, avB, giveBack, pairD, runP, addP, subP, mulP, modP, negP, eqP, neP, eqD_int, eqD_bool, eqD_str, isBo_plain, allP, anyP, sumP, ltP, leP, gtP, geP, isNP, isnNP, lenP, isIP, isTy, tupOfP, min2P, max2P, minP, maxP, absP, intP, idxP, slcP, cut1, cutL, items, rngI, enumI, zipI, szl, Function.comp_def, hiD, a3, e3, prF, prD, e]

/-! ### prices of a table, the counts a tuple -/
def PrInvT (d cs t : List Int) (xs : List D) (s : Slots) : Prop := ∃ (f : Fr) (h : Option Fr) (z5 z6 z7 : Sl) (ps : List (Int × Int)), s = [.fr (tI d), .fr (tI cs), .fr (tI t), .fr (frD f), .fr (hiD h), z5, z6, z7] ∧ z5.plain = true ∧ z6.plain = true ∧ z7.plain = true ∧ xs = ps.map (fun p => .tup [.int p.1, .int p.2]) ∧ (∀ p ∈ ps, p ∈ cs.zip t) ∧ FrOk f ∧ (∀ g, h = some g → FrOk g) ∧ ps.foldl (stepL d) f = lowF d cs t ∧ ps.foldl (stepH d) h = highF d cs t
theorem price_range_okT (n : Nat) {d cs t : List Int} (hd : Row d) (hc : ∀ x ∈ cs, 0 ≤ x ∧ x < 2 ^ 60) (ht : ∀ s ∈ t, 0 ≤ s ∧ s ≤ d.length) (hh : highF d cs t ≠ none) : callN T (n + 3) 8 [tI d, tI cs, tI t] = .ok (prD (prF d cs t)) [tI d, tI cs, tI t] := by
  refine WF.eq (WF_def (d := d8) rfl rfl ?_)
  simp [d8, c8, init, argS, outsOf, solve, seen, frAt, fzAt, owAt, ownD, putN_eq, putO_eq, putT_nm, putT_tp, putT_tl, putTs, putPar, chg, setD, appD, isOL, wipeP, plainS, wipeS, back, argsOf, argD, avD, lendOk, lendP, pmA, avB, giveBack, pairD, runP, addP, subP, mulP, modP, negP, eqP, neP, eqD_int, eqD_bool, eqD_str, isBo_plain, allP, anyP, sumP, ltP, leP, gtP, geP, isNP, isnNP, lenP, isIP, isTy, tupOfP, min2P, max2P, minP, maxP, absP, intP, idxP, slcP, cut1, cutL, items, rngI, enumI, zipI, szl, Function.comp_def]
  rw [zipD_map]
  refine W_forL (PrInvT d cs t) ?_ ?_ _ _ ⟨(0, 1), none, .no, .no, .no, cs.zip t, rfl, rfl, rfl, rfl, rfl, fun p hp => hp, ⟨by simp, by simp, by simp, by simp⟩, (fun g e => nomatch e), rfl, rfl⟩
  · rintro x xs s ⟨f, h, z5, z6, z7, ps, rfl, g5, g6, g7, hx, hm, hf, hh, eL, eH⟩
    cases ps with
    | nil => simp at hx
    | cons p ps =>
      obtain ⟨v, s⟩ := p
      simp at hx
      obtain ⟨rfl, rfl⟩ := hx
      have mz := List.of_mem_zip (hm (v, s) (List.mem_cons_self ..))
      have hv := hc v mz.1
      have hs := ht s mz.2
      have fin : ∀ z : Sl, z.plain = true → PrInvT d cs t (ps.map fun p => .tup [.int p.1, .int p.2]) [.fr (tI d), .fr (tI cs), .fr (tI t), .fr (frD (stepL d f (v, s))), .fr (hiD (stepH d h (v, s))), .fr (.int v), .fr (.int s), z] := fun z hz => ⟨_, _, _, _, z, ps, rfl, rfl, rfl, hz, rfl, fun p hp => hm p (List.mem_cons_of_mem _ hp), stepL_ok hd hf hv.1 hv.2 hs.1, stepH_ok hd hh hv.1 hv.2 hs.2, eL, eH⟩
      by_cases c1 : s < d.length
      · have b1 := hd.dv (a := s + 1) (by omega) (by omega)
        have l1 : callN T (n + 2) 4 [.int v, .int (dv d (s + 1))] = .ok (frD (loF v (dv d (s + 1)))) [.int v, .int (dv d (s + 1))] := lowest_ok n (by omega) (by omega) (by omega) (by omega)
        have o1 : FrOk (loF v (dv d (s + 1))) := loF_ok hv.1 hv.2 (by omega) (by omega)
        have a1 := above_ok (n + 1) o1 hf
        have x1 : atI (d.map D.int) s = some (.int (dv d (s + 1))) := by rw [atI_map, atI_get hs.1 c1]; simp [dv]
        have eS : stepL d f (v, s) = if above (loF v (dv d (s + 1))) f then loF v (dv d (s + 1)) else f := by simp [stepL, c1]
        by_cases c2 : 0 < s
        · have b2 := hd.dv (a := s) (by omega) (by omega)
          have l2 : callN T (n + 2) 4 [.int v, .int (dv d s)] = .ok (frD (loF v (dv d s))) [.int v, .int (dv d s)] := lowest_ok n (by omega) (by omega) (by omega) (by omega)
          have o2 : FrOk (loF v (dv d s)) := loF_ok hv.1 hv.2 (by omega) (by omega)
          have x2 := atI_row (l := d) (a := s) (by omega) (by omega)
          cases h with
          | none =>
            have eT : stepH d none (v, s) = some (loF v (dv d s)) := by simp [stepH, c2]
            rw [eS, eT] at fin
            cases e1 : above (loF v (dv d (s + 1))) f <;> simp [e1, hiD] at fin <;> simp [init, argS, outsOf, solve, seen, frAt, fzAt, owAt, ownD, putN_eq, putO_eq, putT_nm, putT_tp, putT_tl, putTs, putPar, chg, setD, appD, isOL, wipeP, plainS, wipeS, back, argsOf, argD, avD, lendOk, lendP, pmA, avB, giveBack, pairD, runP, addP, subP, mulP, modP, negP, eqP, neP, eqD_int, eqD_bool, eqD_str, isBo_plain, allP, anyP, sumP, ltP, leP, gtP, geP, isNP, isnNP, lenP, isIP, isTy, tupOfP, min2P, max2P, minP, maxP, absP, intP, idxP, slcP, cut1, cutL, items, rngI, enumI, zipI, szl, Function.comp_def, g5, g6, g7, hiD, c1, c2, x1, x2, l1, l2, a1, e1] <;> exact fin _ rfl
          | some g =>
            have a2 := above_ok (n + 1) (hh g rfl) o2
            have eT : stepH d (some g) (v, s) = if above g (loF v (dv d s)) then some (loF v (dv d s)) else some g := by simp [stepH, c2]
            rw [eS, eT] at fin
            cases e1 : above (loF v (dv d (s + 1))) f <;> cases e2 : above g (loF v (dv d s)) <;> simp [e1, e2, hiD] at fin <;> simp [init, argS, outsOf, solve, seen, frAt, fzAt, owAt, ownD, putN_eq, putO_eq, putT_nm, putT_tp, putT_tl, putTs, putPar, chg, setD, appD, isOL, wipeP, plainS, wipeS, back, argsOf, argD, avD, lendOk, lendP, pmA, avB, giveBack, pairD, runP, addP, subP, mulP, modP, negP, eqP, neP, eqD_int, eqD_bool, eqD_str, isBo_plain, allP, anyP, sumP, ltP, leP, gtP, geP, isNP, isnNP, lenP, isIP, isTy, tupOfP, min2P, max2P, minP, maxP, absP, intP, idxP, slcP, cut1, cutL, items, rngI, enumI, zipI, szl, Function.comp_def, g5, g6, g7, hiD, c1, c2, x1, x2, l1, l2, a1, a2, e1, e2] <;> exact fin _ rfl
        · have eT : stepH d h (v, s) = h := by simp [stepH, c2]
          rw [eS, eT] at fin
          cases e1 : above (loF v (dv d (s + 1))) f <;> simp [e1] at fin <;> simp [init, argS, outsOf, solve, seen, frAt, fzAt, owAt, ownD, putN_eq, putO_eq, putT_nm, putT_tp, putT_tl, putTs, putPar, chg, setD, appD, isOL, wipeP, plainS, wipeS, back, argsOf, argD, avD, lendOk, lendP, pmA, avB, giveBack, pairD, runP, addP, subP, mulP, modP, negP, eqP, neP, eqD_int, eqD_bool, eqD_str, isBo_plain, allP, anyP, sumP, ltP, leP, gtP, geP, isNP, isnNP, lenP, isIP, isTy, tupOfP, min2P, max2P, minP, maxP, absP, intP, idxP, slcP, cut1, cutL, items, rngI, enumI, zipI, szl, Function.comp_def, g5, g6, g7, c1, c2, x1, l1, a1, e1] <;> exact fin _ rfl
      · have c2 : 0 < s := by have := hd.l1; omega
        have eS : stepL d f (v, s) = f := by simp [stepL, c1]
        have b2 := hd.dv (a := s) (by omega) (by omega)
        have l2 : callN T (n + 2) 4 [.int v, .int (dv d s)] = .ok (frD (loF v (dv d s))) [.int v, .int (dv d s)] := lowest_ok n (by omega) (by omega) (by omega) (by omega)
        have o2 : FrOk (loF v (dv d s)) := loF_ok hv.1 hv.2 (by omega) (by omega)
        have x2 := atI_row (l := d) (a := s) (by omega) (by omega)
        cases h with
        | none =>
          have eT : stepH d none (v, s) = some (loF v (dv d s)) := by simp [stepH, c2]
          rw [eS, eT] at fin
          simp [hiD] at fin
          simp [init, argS, outsOf, solve, seen, frAt, fzAt, owAt, ownD, putN_eq, putO_eq, putT_nm, putT_tp, putT_tl, putTs, putPar, chg, setD, appD, isOL, wipeP, plainS, wipeS, back, argsOf, argD, avD, lendOk, lendP, pmA, avB, giveBack, pairD, runP, addP, subP, mulP, modP, negP, eqP, neP, eqD_int, eqD_bool, eqD_str, isBo_plain, allP, anyP, sumP, ltP, leP, gtP, geP, isNP, isnNP, lenP, isIP, isTy, tupOfP, min2P, max2P, minP, maxP, absP, intP, idxP, slcP, cut1, cutL, items, rngI, enumI, zipI, szl, Function.comp_def, g5, g6, g7, hiD, c1, c2, x2, l2]
          exact fin _ rfl
        | some g =>
          have a2 := above_ok (n + 1) (hh g rfl) o2
          have eT : stepH d (some g) (v, s) = if above g (loF v (dv d s)) then some (loF v (dv d s)) else some g := by simp [stepH, c2]
          rw [eS, eT] at fin
          cases e2 : above g (loF v (dv d s)) <;> simp [e2, hiD] at fin <;> simp [init, argS, outsOf, solve, seen, frAt, fzAt, owAt, ownD, putN_eq, putO_eq, putT_nm, putT_tp, putT_tl, putTs, putPar, chg, setD, appD, isOL, wipeP, plainS, wipeS, back, argsOf, argD, avD, lendOk, lendP, pmA, avB, giveBack, pairD, runP, addP, subP, mulP, modP, negP, eqP, neP, eqD_int, eqD_bool, eqD_str, isBo_plain, allP, anyP, sumP, ltP, leP, gtP, geP, isNP, isnNP, lenP, isIP, isTy, tupOfP, min2P, max2P, minP, maxP, absP, intP, idxP, slcP, cut1, cutL, items, rngI, enumI, zipI, szl, Function.comp_def, g5, g6, g7, hiD, c1, c2, x2, l2, a2, e2] <;> exact fin _ rfl
  · rintro s ⟨f, h, z5, z6, z7, ps, rfl, g5, g6, g7, hx, hm, hf, hg, eL, eH⟩
    cases ps with
    | cons p ps => simp at hx
    | nil =>
      simp at eL eH
      subst eL eH
      cases e : highF d cs t with
      | none => exact absurd e hh
      | some g =>
        have a3 := above_ok (n + 1) hf (hg g e)
        cases e3 : above (lowF d cs t) g <;> simp [init, argS, outsOf, solve, seen, frAt, fzAt, owAt, ownD, putN_eq, putO_eq, putT_nm, putT_tp, putT_tl, putTs, putPar, chg, setD, appD, isOL, wipeP, plainS, wipeS, back, argsOf, argD, avD, lendOk, lendP, pmA, avB, giveBack, pairD, runP, addP, subP, mulP, modP, negP, eqP, neP, eqD_int, eqD_bool, eqD_str, isBo_plain, allP, anyP, sumP, ltP, leP, gtP, geP, isNP, isnNP, lenP, isIP, isTy, tupOfP, min2P, max2P, minP, maxP, absP, intP, idxP, slcP, cut1, cutL, items, rngI, enumI, zipI, szl, Function.comp_def, hiD, a3, e3, prF, prD, e]

/-! ### a table is a result just if no seat can go to another party -/
def fle (f g : Fr) : Prop := f.1 * g.2 ≤ g.1 * f.2
theorem fle_refl (f : Fr) : fle f f := Int.le_refl _
theorem fle_trans {f g h : Fr} (hf : 0 < f.2) (hg : 0 < g.2) (hh : 0 < h.2) (a : fle f g) (b : fle g h) : fle f h := by
  unfold fle at *
  refine Int.le_of_mul_le_mul_right (a := g.2) ?_ hg
  have e1 : f.1 * h.2 * g.2 = f.1 * g.2 * h.2 := by ac_rfl
  have e2 : h.1 * f.2 * g.2 = h.1 * g.2 * f.2 := by ac_rfl
  have e3 : g.1 * f.2 * h.2 = g.1 * h.2 * f.2 := by ac_rfl
  have m1 := Int.mul_le_mul_of_nonneg_right a (Int.le_of_lt hh)
  have m2 := Int.mul_le_mul_of_nonneg_right b (Int.le_of_lt hf)
  omega
theorem loF_pos {t b : Int} (hb : 0 < b) : 0 < (loF t b).2 := lo2_pos hb
theorem loF_fle {t b : Int} (hb : 0 < b) : fle (t, b) (loF t b) ∧ fle (loF t b) (t, b) := by
  have e := lo_cross (t := t) hb
  exact ⟨by show t * lo2 t b ≤ lo1 t b * b; omega, by show lo1 t b * b ≤ t * lo2 t b; omega⟩
theorem above_f {f g : Fr} (h : above f g = false) : fle f g := by simpa [above, fle] using h
theorem above_t {f g : Fr} (h : above f g = true) : fle g f := by
  simp [above] at h
  exact Int.le_of_lt h
theorem foldL {d : List Int} (hd : Row d) : ∀ (ps : List (Int × Int)) (f : Fr), 0 < f.2 → (∀ p ∈ ps, 0 ≤ p.2) → 0 < (ps.foldl (stepL d) f).2 ∧ fle f (ps.foldl (stepL d) f) ∧ (∀ p ∈ ps, p.2 < d.length → fle (p.1, dv d (p.2 + 1)) (ps.foldl (stepL d) f)) ∧ ((ps.foldl (stepL d) f = f) ∨ ∃ p ∈ ps, p.2 < d.length ∧ ps.foldl (stepL d) f = loF p.1 (dv d (p.2 + 1)))
  | [], f, hf, _ => ⟨hf, fle_refl f, fun p hp => (nomatch hp), .inl rfl⟩
  | p :: ps, f, hf, h0 => by
    have hp0 := h0 p (List.mem_cons_self ..)
    have key : 0 < (stepL d f p).2 ∧ fle f (stepL d f p) ∧ (p.2 < d.length → fle (p.1, dv d (p.2 + 1)) (stepL d f p)) ∧ (stepL d f p = f ∨ (p.2 < d.length ∧ stepL d f p = loF p.1 (dv d (p.2 + 1)))) := by
      unfold stepL
      by_cases c : p.2 < d.length
      · have b := hd.dv (a := p.2 + 1) (by omega) (by omega)
        have b' : 0 < dv d (p.2 + 1) := by omega
        rw [if_pos c]
        cases e : above (loF p.1 (dv d (p.2 + 1))) f with
        | true => exact ⟨loF_pos b', above_t e, fun _ => (loF_fle b').1, .inr ⟨c, rfl⟩⟩
        | false => exact ⟨hf, fle_refl f, fun _ => fle_trans b' (loF_pos b') hf (loF_fle b').1 (above_f e), .inl rfl⟩
      · rw [if_neg c]
        exact ⟨hf, fle_refl f, fun z => absurd z c, .inl rfl⟩
    obtain ⟨k1, k2, k3, k4⟩ := key
    obtain ⟨i1, i2, i3, i4⟩ := foldL hd ps (stepL d f p) k1 fun q hq => h0 q (List.mem_cons_of_mem _ hq)
    refine ⟨i1, fle_trans hf k1 i1 k2 i2, fun q hq c => ?_, ?_⟩
    · rcases List.mem_cons.mp hq with rfl | hq
      · have b := hd.dv (a := q.2 + 1) (by omega) (by omega)
        exact fle_trans (show 0 < dv d (q.2 + 1) by omega) k1 i1 (k3 c) i2
      · exact i3 q hq c
    · rcases i4 with i4 | ⟨q, hq, c, e⟩
      · rcases k4 with k4 | ⟨c, e⟩
        · exact .inl (i4.trans k4)
        · exact .inr ⟨p, List.mem_cons_self .., c, i4.trans e⟩
      · exact .inr ⟨q, List.mem_cons_of_mem _ hq, c, e⟩
theorem foldH {d : List Int} (hd : Row d) : ∀ (ps : List (Int × Int)) (h : Option Fr), (∀ f, h = some f → 0 < f.2) → (∀ p ∈ ps, p.2 ≤ d.length) → (ps.foldl (stepH d) h = none ↔ h = none ∧ ∀ p ∈ ps, ¬ 0 < p.2) ∧ ∀ g, ps.foldl (stepH d) h = some g → 0 < g.2 ∧ (∀ f, h = some f → fle g f) ∧ (∀ p ∈ ps, 0 < p.2 → fle g (p.1, dv d p.2)) ∧ (h = some g ∨ ∃ p ∈ ps, 0 < p.2 ∧ g = loF p.1 (dv d p.2))
  | [], h, hh, _ => ⟨by simp, fun g e => ⟨hh g e, fun f e' => by rw [show g = f from Option.some.inj (e.symm.trans e')]; exact fle_refl f, fun p hp => (nomatch hp), .inl e⟩⟩
  | p :: ps, h, hh, h0 => by
    have hp0 := h0 p (List.mem_cons_self ..)
    have key : (∀ f, stepH d h p = some f → 0 < f.2 ∧ (∀ f', h = some f' → fle f f') ∧ (0 < p.2 → fle f (p.1, dv d p.2)) ∧ (h = some f ∨ (0 < p.2 ∧ f = loF p.1 (dv d p.2)))) ∧ (stepH d h p = none ↔ h = none ∧ ¬ 0 < p.2) := by
      unfold stepH
      by_cases c : 0 < p.2
      · have b := hd.dv (a := p.2) (by omega) (by omega)
        have b' : 0 < dv d p.2 := by omega
        rw [if_pos c]
        cases h with
        | none => exact ⟨fun f e => by cases e; exact ⟨loF_pos b', (fun f' z => nomatch z), fun _ => (loF_fle b').2, .inr ⟨c, rfl⟩⟩, by simp [c]⟩
        | some f0 =>
          have p0 := hh f0 rfl
          cases e : above f0 (loF p.1 (dv d p.2)) with
          | true => exact ⟨fun f z => by simp [e] at z; subst z; exact ⟨loF_pos b', fun f' z => by cases z; exact above_t e, fun _ => (loF_fle b').2, .inr ⟨c, rfl⟩⟩, by simp [e]⟩
          | false => exact ⟨fun f z => by simp [e] at z; subst z; exact ⟨p0, fun f' z => by cases z; exact fle_refl _, fun _ => fle_trans p0 (loF_pos b') b' (above_f e) (loF_fle b').2, .inl rfl⟩, by simp [e]⟩
      · rw [if_neg c]
        exact ⟨fun f e => ⟨hh f e, fun f' e' => by rw [show f = f' from Option.some.inj (e.symm.trans e')]; exact fle_refl f', fun z => absurd z c, .inl e⟩, by simp [c]⟩
    obtain ⟨k1, k2⟩ := key
    obtain ⟨i1, i2⟩ := foldH hd ps (stepH d h p) (fun f e => (k1 f e).1) fun q hq => h0 q (List.mem_cons_of_mem _ hq)
    refine ⟨?_, fun g e => ?_⟩
    · rw [List.foldl_cons, i1, k2]
      simp [and_assoc]
    · rw [List.foldl_cons] at e
      obtain ⟨j1, j2, j3, j4⟩ := i2 g e
      cases es : stepH d h p with
      | none =>
        obtain ⟨z1, z2⟩ := k2.mp es
        refine ⟨j1, fun f z => (by rw [z1] at z; cases z), fun q hq c => ?_, ?_⟩
        · rcases List.mem_cons.mp hq with rfl | hq
          · exact absurd c z2
          · exact j3 q hq c
        · rcases j4 with j4 | ⟨q, hq, c, e'⟩
          · rw [es] at j4; cases j4
          · exact .inr ⟨q, List.mem_cons_of_mem _ hq, c, e'⟩
      | some f1 =>
        obtain ⟨y1, y2, y3, y4⟩ := k1 f1 es
        have gf := j2 f1 es
        refine ⟨j1, fun f z => fle_trans j1 y1 (hh f z) gf (y2 f z), fun q hq c => ?_, ?_⟩
        · rcases List.mem_cons.mp hq with rfl | hq
          · have b := hd.dv (a := q.2) (by omega) (by omega)
            exact fle_trans j1 y1 (show 0 < dv d q.2 by omega) gf (y3 c)
          · exact j3 q hq c
        · rcases j4 with j4 | ⟨q, hq, c, e'⟩
          · rw [es] at j4
            cases j4
            rcases y4 with y4 | ⟨c, e'⟩
            · exact .inl y4
            · exact .inr ⟨p, List.mem_cons_self .., c, e'⟩
          · exact .inr ⟨q, List.mem_cons_of_mem _ hq, c, e'⟩
/-- no party has a greater claim to one seat more than another one to its last seat -/
def resOk (d cs t : List Int) : Prop := ∀ p ∈ cs.zip t, ∀ q ∈ cs.zip t, p.2 < d.length → 0 < q.2 → p.1 * dv d q.2 ≤ q.1 * dv d (p.2 + 1)
theorem prF_iff {d cs t : List Int} (hd : Row d) (hc : ∀ x ∈ cs, 0 ≤ x) (ht : ∀ s ∈ t, 0 ≤ s ∧ s ≤ d.length) (hh : highF d cs t ≠ none) : prF d cs t ≠ none ↔ resOk d cs t := by
  have hz : ∀ p ∈ cs.zip t, 0 ≤ p.1 ∧ 0 ≤ p.2 ∧ p.2 ≤ d.length := fun p hp => by
    have := List.of_mem_zip (show (p.1, p.2) ∈ cs.zip t from hp)
    exact ⟨hc _ this.1, (ht _ this.2).1, (ht _ this.2).2⟩
  obtain ⟨l1, l2, l3, l4⟩ := foldL hd (cs.zip t) (0, 1) (by decide) fun p hp => (hz p hp).2.1
  obtain ⟨_, h2⟩ := foldH hd (cs.zip t) none (fun f z => nomatch z) fun p hp => (hz p hp).2.2
  cases e : highF d cs t with
  | none => exact absurd e hh
  | some h =>
    obtain ⟨m1, _, m3, m4⟩ := h2 h e
    have m4' : ∃ q ∈ cs.zip t, 0 < q.2 ∧ h = loF q.1 (dv d q.2) := by
      rcases m4 with m4 | m4
      · cases m4
      · exact m4
    obtain ⟨q0, hq0, c0, e0⟩ := m4'
    have b0 := hd.dv (a := q0.2) (by omega) (hz q0 hq0).2.2
    have b0' : 0 < dv d q0.2 := by omega
    constructor
    · intro hp p hpz q hqz c1 c2
      have ab : above (lowF d cs t) h = false := by
        cases z : above (lowF d cs t) h with
        | false => rfl
        | true => exact absurd (by simp [prF, e, z]) hp
      have bp := hd.dv (a := p.2 + 1) (by have := hz p hpz; omega) (by omega)
      have bq := hd.dv (a := q.2) (by omega) (hz q hqz).2.2
      have f1 := fle_trans (show 0 < dv d (p.2 + 1) by omega) l1 m1 (l3 p hpz c1) (above_f ab)
      exact fle_trans (show 0 < dv d (p.2 + 1) by omega) m1 (show 0 < dv d q.2 by omega) f1 (m3 q hqz c2)
    · intro hr
      have le : fle (lowF d cs t) h := by
        have hi : fle (q0.1, dv d q0.2) h := by rw [e0]; exact (loF_fle b0').1
        rcases l4 with l4 | ⟨p, hp, c, e4⟩
        · show (lowF d cs t).1 * h.2 ≤ h.1 * (lowF d cs t).2
          rw [show lowF d cs t = (0, 1) from l4, e0]
          have := lo1_nonneg (hz q0 hq0).1 b0'
          show 0 * _ ≤ lo1 _ _ * 1
          omega
        · have bp := hd.dv (a := p.2 + 1) (by have := hz p hp; omega) (by omega)
          have bp' : 0 < dv d (p.2 + 1) := by omega
          rw [show lowF d cs t = loF p.1 (dv d (p.2 + 1)) from e4]
          exact fle_trans (loF_pos bp') bp' m1 (loF_fle bp').2 (fle_trans bp' b0' m1 (show fle (p.1, dv d (p.2 + 1)) (q0.1, dv d q0.2) from hr p hp q0 hq0 c c0) hi)
      have ab : above (lowF d cs t) h = false := by
        cases z : above (lowF d cs t) h with
        | false => rfl
        | true =>
          simp [above] at z
          unfold fle at le
          omega
      simp [prF, e, ab]

/-! ### rows of divisors, drawn -/
theorem at_end {α : Type} {l : List α} {x : α} : atI (l ++ [x]) (-1) = some x := by
  have e : ixN (l ++ [x]).length (-1) = some l.length := by
    unfold ixN
    rw [if_neg (by omega), if_pos (by simp; omega)]
    simp
    omega
  unfold atI
  rw [e]
  simp
theorem at_last {l : List D} (h : l ≠ []) : atI l (-1) = some (l.getLast h) := by
  conv => lhs; rw [← List.dropLast_concat_getLast h]
  exact at_end
def LdInv (B ch st : Int) (xs : List D) (s : Slots) : Prop := ∃ (p : D) (fd : List Int) (x : Int) (z4 : Sl), s = [.bo p, .fr (.int ch), .fr (.int st), .ow (.lst ((fd ++ [x]).map .int)), z4] ∧ PV (B + 1 + fd.length) p ∧ z4.plain = true ∧ (fd ++ [x]).Pairwise (· < ·) ∧ (∀ y ∈ fd ++ [x], 1 ≤ y ∧ y ≤ x) ∧ x ≤ st * (fd.length + 1) ∧ (fd.length + 1 + xs.length : Int) = ch
theorem ladder_ok (n : Nat) {B : Int} {p : D} {ch st : Int} {Q : D → List D → Prop} (hp : PV B p) (hB : B + 13 < 1000000000) (c1 : 1 ≤ ch) (c2 : ch ≤ 12) (s1 : 1 ≤ st) (s2 : st ≤ 8) (hq : ∀ (l : List Int) p', PV (B + 13) p' → Row l → (l.length : Int) = ch → Q (tI l) [p', .int ch, .int st]) : WF (callN T (n + 2) 24 [p, .int ch, .int st]) Q := by
  refine WF_def (d := d24) rfl rfl ?_
  simp [d24, c24, init, argS, outsOf, solve, seen, frAt, fzAt, owAt, ownD, putN_eq, putO_eq, putT_nm, putT_tp, putT_tl, putTs, putPar, chg, setD, appD, isOL, wipeP, plainS, wipeS, back, argsOf, argD, avD, lendOk, lendP, pmA, avB, giveBack, pairD, runP, addP, subP, mulP, modP, negP, eqP, neP, eqD_int, eqD_bool, eqD_str, isBo_plain, allP, anyP, sumP, ltP, leP, gtP, geP, isNP, isnNP, lenP, isIP, isTy, tupOfP, min2P, max2P, minP, maxP, absP, intP, idxP, slcP, cut1, cutL, items, rngI, enumI, zipI, szl, Function.comp_def]
  refine pull_ok n hp (by omega) (by omega) (by omega) fun r p1 hp1 r0 r1 => ?_
  simp [init, argS, outsOf, solve, seen, frAt, fzAt, owAt, ownD, putN_eq, putO_eq, putT_nm, putT_tp, putT_tl, putTs, putPar, chg, setD, appD, isOL, wipeP, plainS, wipeS, back, argsOf, argD, avD, lendOk, lendP, pmA, avB, giveBack, pairD, runP, addP, subP, mulP, modP, negP, eqP, neP, eqD_int, eqD_bool, eqD_str, isBo_plain, allP, anyP, sumP, ltP, leP, gtP, geP, isNP, isnNP, lenP, isIP, isTy, tupOfP, min2P, max2P, minP, maxP, absP, intP, idxP, slcP, cut1, cutL, items, rngI, enumI, zipI, szl, Function.comp_def]
  rw [rng_ok (a := 0) (b := ch - 1) (by omega) (by omega) (by omega) (by omega) (by omega)]
  simp [init, argS, outsOf, solve, seen, frAt, fzAt, owAt, ownD, putN_eq, putO_eq, putT_nm, putT_tp, putT_tl, putTs, putPar, chg, setD, appD, isOL, wipeP, plainS, wipeS, back, argsOf, argD, avD, lendOk, lendP, pmA, avB, giveBack, pairD, runP, addP, subP, mulP, modP, negP, eqP, neP, eqD_int, eqD_bool, eqD_str, isBo_plain, allP, anyP, sumP, ltP, leP, gtP, geP, isNP, isnNP, lenP, isIP, isTy, tupOfP, min2P, max2P, minP, maxP, absP, intP, idxP, slcP, cut1, cutL, items, rngI, enumI, zipI, szl, Function.comp_def]
  refine W_forL (LdInv B ch st) ?_ ?_ _ _ ⟨p1, [], 1 + r, .no, rfl, by simpa using hp1, rfl, by simp, by simp; omega, by simp; omega, by simp [rg_length]; omega⟩
  · rintro v xs s ⟨p, fd, x, z4, rfl, hp, g4, pw, ran, lt, hk⟩
    simp at hk
    have e := at_end (l := fd.map D.int) (x := D.int x)
    simp [init, argS, outsOf, solve, seen, frAt, fzAt, owAt, ownD, putN_eq, putO_eq, putT_nm, putT_tp, putT_tl, putTs, putPar, chg, setD, appD, isOL, wipeP, plainS, wipeS, back, argsOf, argD, avD, lendOk, lendP, pmA, avB, giveBack, pairD, runP, addP, subP, mulP, modP, negP, eqP, neP, eqD_int, eqD_bool, eqD_str, isBo_plain, allP, anyP, sumP, ltP, leP, gtP, geP, isNP, isnNP, lenP, isIP, isTy, tupOfP, min2P, max2P, minP, maxP, absP, intP, idxP, slcP, cut1, cutL, items, rngI, enumI, zipI, szl, Function.comp_def, g4, e]
    refine pull_ok n (m := st) hp (by omega) (by omega) (by omega) fun r p' hp' r0 r1 => ?_
    have ll : fd.length + 1 < 16777216 := by omega
    simp [init, argS, outsOf, solve, seen, frAt, fzAt, owAt, ownD, putN_eq, putO_eq, putT_nm, putT_tp, putT_tl, putTs, putPar, chg, setD, appD, isOL, wipeP, plainS, wipeS, back, argsOf, argD, avD, lendOk, lendP, pmA, avB, giveBack, pairD, runP, addP, subP, mulP, modP, negP, eqP, neP, eqD_int, eqD_bool, eqD_str, isBo_plain, allP, anyP, sumP, ltP, leP, gtP, geP, isNP, isnNP, lenP, isIP, isTy, tupOfP, min2P, max2P, minP, maxP, absP, intP, idxP, slcP, cut1, cutL, items, rngI, enumI, zipI, szl, Function.comp_def, ll]
    refine ⟨p', fd ++ [x], x + 1 + r, .fr v, by simp, hp'.up (by simp; omega), rfl, ?_, ?_, ?_, by simp; omega⟩
    · rw [List.pairwise_append]
      refine ⟨pw, by simp, fun a ha b hb => ?_⟩
      have := ran a ha
      simp at hb
      omega
    · intro y hy
      rcases List.mem_append.mp hy with hy | hy
      · have := ran y hy
        omega
      · have := ran x (by simp)
        simp at hy
        omega
    · have e2 : st * (((fd ++ [x]).length : Nat) + 1 : Int) = st * ((fd.length : Int) + 1) + st := by
        rw [List.length_append, List.length_singleton]
        rw [show (((fd.length + 1 : Nat) : Int) + 1) = ((fd.length : Int) + 1) + 1 by omega, Int.mul_add, Int.mul_one]
      omega
  · rintro s ⟨p, fd, x, z4, rfl, hp, g4, pw, ran, lt, hk⟩
    simp at hk
    have big : st * ((fd.length : Int) + 1) ≤ 8 * 12 := by
      have a1 : st * ((fd.length : Int) + 1) ≤ 8 * ((fd.length : Int) + 1) := Int.mul_le_mul_of_nonneg_right s2 (by omega)
      omega
    simp [init, argS, outsOf, solve, seen, frAt, fzAt, owAt, ownD, putN_eq, putO_eq, putT_nm, putT_tp, putT_tl, putTs, putPar, chg, setD, appD, isOL, wipeP, plainS, wipeS, back, argsOf, argD, avD, lendOk, lendP, pmA, avB, giveBack, pairD, runP, addP, subP, mulP, modP, negP, eqP, neP, eqD_int, eqD_bool, eqD_str, isBo_plain, allP, anyP, sumP, ltP, leP, gtP, geP, isNP, isnNP, lenP, isIP, isTy, tupOfP, min2P, max2P, minP, maxP, absP, intP, idxP, slcP, cut1, cutL, items, rngI, enumI, zipI, szl, Function.comp_def]
    have := hq (fd ++ [x]) p (hp.up (by omega)) ⟨by simp, by simp; omega, pw, fun y hy => by have := ran y hy; omega⟩ (by simp; omega)
    rw [show D.tup (List.map D.int fd ++ [D.int x]) = tI (fd ++ [x]) by simp [tI]]
    exact this
theorem asc_set {l : List Int} {i : Nat} {v : Int} (h : l.Pairwise (· < ·)) (hi : i < l.length) (h1 : l[i] ≤ v) (h2 : ∀ (hj : i + 1 < l.length), v < l[i + 1]) : (l.set i v).Pairwise (· < ·) := by
  rw [List.pairwise_iff_getElem] at h ⊢
  intro a b ha hb hab
  rw [List.getElem_set, List.getElem_set]
  simp at ha hb
  by_cases c1 : i = a
  · subst c1
    rw [if_pos rfl, if_neg (by omega)]
    have := h2 (by omega)
    by_cases c2 : b = i + 1
    · subst c2; exact this
    · have := h (i + 1) b (by omega) hb (by omega)
      omega
  · rw [if_neg c1]
    by_cases c2 : i = b
    · subst c2
      rw [if_pos rfl]
      have := h a i ha hi hab
      omega
    · rw [if_neg c2]
      exact h a b ha hb hab
theorem asc_le {l : List Int} {z : Int} (h : l.Pairwise (· < ·)) (ne : l ≠ []) (hz : l.getLast ne ≤ z) : ∀ x ∈ l, x ≤ z := by
  intro x hx
  obtain ⟨i, hi, rfl⟩ := List.mem_iff_getElem.mp hx
  rw [List.getLast_eq_getElem] at hz
  by_cases c : i = l.length - 1
  · subst c; exact hz
  · have := List.pairwise_iff_getElem.mp h i (l.length - 1) hi (by omega) (by omega)
    omega
theorem scale_asc {l : List Int} {c : Int} (h : l.Pairwise (· < ·)) (hc : 1 ≤ c) : (l.map (· * c)).Pairwise (· < ·) := by
  rw [List.pairwise_map]
  exact h.imp fun {a b} hab => Int.mul_lt_mul_of_pos_right hab (by omega)
theorem mate_ok (n : Nat) {B : Int} {p : D} {l : List Int} {Q : D → List D → Prop} (hp : PV B p) (hB : B + 20 < 1000000000) (hl : Row l) (hq : ∀ (m : List Int) p', PV (B + 16) p' → Row m → m.length = l.length → Q (tI m) [p', tI l]) : WF (callN T (n + 3) 25 [p, tI l]) Q := by
  have l1 := hl.l1
  have l2 := hl.l2
  have ne : l ≠ [] := fun z => by rw [z] at l1; simp at l1
  have neD : l.map D.int ≠ [] := by simpa using ne
  have la : atI (l.map D.int) (-1) = some (.int (l.getLast ne)) := by rw [at_last neD, List.getLast_map]
  have lr := hl.rng _ (List.getLast_mem ne)
  generalize el : l.getLast ne = z at la lr
  have lg : z.natAbs.log2 < 9000 := Nat.lt_of_lt_of_le ((Nat.log2_lt (by omega)).mpr (show z.natAbs < 2 ^ 31 by omega)) (by decide)
  have q0 : 0 ≤ 100 / z := Int.ediv_nonneg (by omega) (by omega)
  have q1 : 100 / z ≤ 100 := Int.ediv_le_self _ (by omega)
  have qz : 100 / z * z ≤ 100 := Int.ediv_mul_le _ (by omega)
  refine WF_def (d := d25) rfl rfl ?_
  simp [d25, c25, init, argS, outsOf, solve, seen, frAt, fzAt, owAt, ownD, putN_eq, putO_eq, putT_nm, putT_tp, putT_tl, putTs, putPar, chg, setD, appD, isOL, wipeP, plainS, wipeS, back, argsOf, argD, avD, lendOk, lendP, pmA, avB, giveBack, pairD, runP, addP, subP, mulP, modP, negP, eqP, neP, eqD_int, eqD_bool, eqD_str, isBo_plain, allP, anyP, sumP, ltP, leP, gtP, geP, isNP, isnNP, lenP, isIP, isTy, tupOfP, min2P, max2P, minP, maxP, absP, intP, idxP, slcP, cut1, cutL, items, rngI, enumI, zipI, szl, Function.comp_def]
  refine pull_ok (n + 1) hp (by omega) (by omega) (by omega) fun way p1 hp1 w0 w1 => ?_
  obtain ⟨M, eM, M1, M2⟩ : ∃ M : Int, (if 1 < 100 / z then 100 / z else 1) = M ∧ 1 ≤ M ∧ M * z ≤ 100 := ⟨_, rfl, by split <;> omega, by split <;> omega⟩
  have M3 : M ≤ 100 := by
    have : M * 1 ≤ M * z := Int.mul_le_mul_of_nonneg_left (by omega) (by omega)
    omega
  simp [init, argS, outsOf, solve, seen, frAt, fzAt, owAt, ownD, putN_eq, putO_eq, putT_nm, putT_tp, putT_tl, putTs, putPar, chg, setD, appD, isOL, wipeP, plainS, wipeS, back, argsOf, argD, avD, lendOk, lendP, pmA, avB, giveBack, pairD, runP, addP, subP, mulP, modP, negP, eqP, neP, eqD_int, eqD_bool, eqD_str, isBo_plain, allP, anyP, sumP, ltP, leP, gtP, geP, isNP, isnNP, lenP, isIP, isTy, tupOfP, min2P, max2P, minP, maxP, absP, intP, idxP, slcP, cut1, cutL, items, rngI, enumI, zipI, szl, Function.comp_def, la, fdivP, lg, show (0 : Int) < z by omega, eM]
  refine pull_ok (n + 1) hp1 (by omega) (by omega) (by omega) fun by1 p2 hp2 b0 b1 => ?_
  have bz : (1 + by1) * z ≤ 100 := by
    have : (1 + by1) * z ≤ M * z := Int.mul_le_mul_of_nonneg_right (by omega) (by omega)
    omega
  by_cases cw : way = 0
  · simp [init, argS, outsOf, solve, seen, frAt, fzAt, owAt, ownD, putN_eq, putO_eq, putT_nm, putT_tp, putT_tl, putTs, putPar, chg, setD, appD, isOL, wipeP, plainS, wipeS, back, argsOf, argD, avD, lendOk, lendP, pmA, avB, giveBack, pairD, runP, addP, subP, mulP, modP, negP, eqP, neP, eqD_int, eqD_bool, eqD_str, isBo_plain, allP, anyP, sumP, ltP, leP, gtP, geP, isNP, isnNP, lenP, isIP, isTy, tupOfP, min2P, max2P, minP, maxP, absP, intP, idxP, slcP, cut1, cutL, items, rngI, enumI, zipI, szl, Function.comp_def, cw]
    refine ladder_ok n hp2 (by omega) (by omega) (by omega) (by omega) (by omega) fun m p3 hp3 hm lm => ?_
    simp [init, argS, outsOf, solve, seen, frAt, fzAt, owAt, ownD, putN_eq, putO_eq, putT_nm, putT_tp, putT_tl, putTs, putPar, chg, setD, appD, isOL, wipeP, plainS, wipeS, back, argsOf, argD, avD, lendOk, lendP, pmA, avB, giveBack, pairD, runP, addP, subP, mulP, modP, negP, eqP, neP, eqD_int, eqD_bool, eqD_str, isBo_plain, allP, anyP, sumP, ltP, leP, gtP, geP, isNP, isnNP, lenP, isIP, isTy, tupOfP, min2P, max2P, minP, maxP, absP, intP, idxP, slcP, cut1, cutL, items, rngI, enumI, zipI, szl, Function.comp_def]
    exact hq m p3 (hp3.up (by omega)) hm (by omega)
  · have bc : 1 ≤ 1 + by1 := by omega
    have bc2 : 1 + by1 ≤ 100 := by omega
    simp [init, argS, outsOf, solve, seen, frAt, fzAt, owAt, ownD, putN_eq, putO_eq, putT_nm, putT_tp, putT_tl, putTs, putPar, chg, setD, appD, isOL, wipeP, plainS, wipeS, back, argsOf, argD, avD, lendOk, lendP, pmA, avB, giveBack, pairD, runP, addP, subP, mulP, modP, negP, eqP, neP, eqD_int, eqD_bool, eqD_str, isBo_plain, allP, anyP, sumP, ltP, leP, gtP, geP, isNP, isnNP, lenP, isIP, isTy, tupOfP, min2P, max2P, minP, maxP, absP, intP, idxP, slcP, cut1, cutL, items, rngI, enumI, zipI, szl, Function.comp_def, cw]
    generalize 1 + by1 = c at *
    have lq : (l.map (· * c)).length = l.length := by simp
    have qa := scale_asc hl.asc bc
    have qp : ∀ x ∈ l.map (· * c), 1 ≤ x := fun x hx => by
      obtain ⟨y, hy, rfl⟩ := List.mem_map.mp hx
      have := hl.rng y hy
      have : 1 * c ≤ y * c := Int.mul_le_mul_of_nonneg_right (by omega) (by omega)
      omega
    have qx : ∀ x ∈ l.map (· * c), x ≤ 10000 := fun x hx => by
      obtain ⟨y, hy, rfl⟩ := List.mem_map.mp hx
      have := hl.rng y hy
      have : y * c ≤ 100 * c := Int.mul_le_mul_of_nonneg_right (by omega) (by omega)
      omega
    have fin : ∀ (r : List Int) (ner : r ≠ []) (p' : D), PV (B + 16) p' → r.length = l.length → r.Pairwise (· < ·) → (∀ x ∈ r, 1 ≤ x) → Q (if r.getLast ner < 101 then tI r else tI l) [p', tI l] := fun r ner p' g0 g1 g2 g3 => by
      split
      · refine hq r p' g0 ⟨by omega, by omega, g2, fun x hx => ⟨g3 x hx, asc_le g2 ner (by omega) x hx⟩⟩ g1
      · exact hq l p' g0 hl rfl
    refine W_comp_map (fun d => match d with | .int x => .int (x * c) | _ => .non) (fun x hx => ?_) (by simp [szl]; omega) ?_
    · obtain ⟨y, hy, rfl⟩ := List.mem_map.mp hx
      have := hl.rng y hy
      simp [init, argS, outsOf, solve, seen, frAt, fzAt, owAt, ownD, putN_eq, putO_eq, putT_nm, putT_tp, putT_tl, putTs, putPar, chg, setD, appD, isOL, wipeP, plainS, wipeS, back, argsOf, argD, avD, lendOk, lendP, pmA, avB, giveBack, pairD, runP, addP, subP, mulP, modP, negP, eqP, neP, eqD_int, eqD_bool, eqD_str, isBo_plain, allP, anyP, sumP, ltP, leP, gtP, geP, isNP, isnNP, lenP, isIP, isTy, tupOfP, min2P, max2P, minP, maxP, absP, intP, idxP, slcP, cut1, cutL, items, rngI, enumI, zipI, szl, Function.comp_def, mulOk_r (i := y) (j := c) (by omega) (by omega)]
    have em : (l.map D.int).map (fun d => match d with | .int x => D.int (x * c) | _ => .non) = (l.map (· * c)).map D.int := by
      rw [List.map_map, List.map_map]
      rfl
    rw [em]
    generalize l.map (· * c) = r at *
    have ner : r ≠ [] := fun z => by rw [z] at lq; simp at lq; omega
    have nerD : r.map D.int ≠ [] := by simpa using ner
    have lar : atI (r.map D.int) (-1) = some (.int (r.getLast ner)) := by rw [at_last nerD, List.getLast_map]
    have f1 := fin r ner
    by_cases c1 : way = 1
    · by_cases c2 : (1 : Int) < r.length
      · simp [init, argS, outsOf, solve, seen, frAt, fzAt, owAt, ownD, putN_eq, putO_eq, putT_nm, putT_tp, putT_tl, putTs, putPar, chg, setD, appD, isOL, wipeP, plainS, wipeS, back, argsOf, argD, avD, lendOk, lendP, pmA, avB, giveBack, pairD, runP, addP, subP, mulP, modP, negP, eqP, neP, eqD_int, eqD_bool, eqD_str, isBo_plain, allP, anyP, sumP, ltP, leP, gtP, geP, isNP, isnNP, lenP, isIP, isTy, tupOfP, min2P, max2P, minP, maxP, absP, intP, idxP, slcP, cut1, cutL, items, rngI, enumI, zipI, szl, Function.comp_def, c1, c2]
        refine pull_ok (n + 1) hp2 (by omega) (by omega) (by omega) fun i p3 hp3 i0 i1 => ?_
        have x1 : atI (r.map D.int) i = some (.int (r[i.toNat]'(by omega))) := by rw [atI_map, atI_get i0 i1]; simp [getElem!_pos r i.toNat (by omega)]
        have y1 := qx _ (List.getElem_mem (l := r) (n := i.toNat) (by omega))
        have y2 := qp _ (List.getElem_mem (l := r) (n := i.toNat) (by omega))
        have ix : ixN r.length i = some i.toNat := by unfold ixN; rw [if_pos i0, if_pos i1]
        have go : ∀ v : Int, r[i.toNat]'(by omega) ≤ v → (∀ hj : i.toNat + 1 < r.length, v < r[i.toNat + 1]) → ∃ r' : List Int, ∃ ne' : r' ≠ [], (r.map D.int).set i.toNat (.int v) = r'.map D.int ∧ atI (r'.map D.int) (-1) = some (.int (r'.getLast ne')) ∧ Q (if r'.getLast ne' < 101 then tI r' else tI l) [p3, tI l] := fun v h1 h2 => by
          have ll : (r.set i.toNat v).length = l.length := by simpa using lq
          have ne' : r.set i.toNat v ≠ [] := fun z => by rw [z] at ll; simp at ll; omega
          have nn : (r.set i.toNat v).map D.int ≠ [] := by simpa using ne'
          refine ⟨r.set i.toNat v, ne', by rw [List.map_set], by rw [at_last nn, List.getLast_map], fin _ ne' p3 (hp3.up (by omega)) ll (asc_set qa (by omega) h1 h2) fun x hx => ?_⟩
          rcases List.mem_or_eq_of_mem_set hx with g | g
          · exact qp x g
          · omega
        generalize hv : r[i.toNat]'(by omega) = v at x1 y1 y2 go
        by_cases c3 : i + 1 = r.length
        · obtain ⟨r', ne', e1, e2, e3⟩ := go (v + 1) (by omega) (fun hj => by omega)
          by_cases c5 : r'.getLast ne' < 101
          · rw [if_pos c5] at e3
            simp [init, argS, outsOf, solve, seen, frAt, fzAt, owAt, ownD, putN_eq, putO_eq, putT_nm, putT_tp, putT_tl, putTs, putPar, chg, setD, appD, isOL, wipeP, plainS, wipeS, back, argsOf, argD, avD, lendOk, lendP, pmA, avB, giveBack, pairD, runP, addP, subP, mulP, modP, negP, eqP, neP, eqD_int, eqD_bool, eqD_str, isBo_plain, allP, anyP, sumP, ltP, leP, gtP, geP, isNP, isnNP, lenP, isIP, isTy, tupOfP, min2P, max2P, minP, maxP, absP, intP, idxP, slcP, cut1, cutL, items, rngI, enumI, zipI, szl, Function.comp_def, x1, c3, ix, e1, e2, c5]
            exact e3
          · rw [if_neg c5] at e3
            simp [init, argS, outsOf, solve, seen, frAt, fzAt, owAt, ownD, putN_eq, putO_eq, putT_nm, putT_tp, putT_tl, putTs, putPar, chg, setD, appD, isOL, wipeP, plainS, wipeS, back, argsOf, argD, avD, lendOk, lendP, pmA, avB, giveBack, pairD, runP, addP, subP, mulP, modP, negP, eqP, neP, eqD_int, eqD_bool, eqD_str, isBo_plain, allP, anyP, sumP, ltP, leP, gtP, geP, isNP, isnNP, lenP, isIP, isTy, tupOfP, min2P, max2P, minP, maxP, absP, intP, idxP, slcP, cut1, cutL, items, rngI, enumI, zipI, szl, Function.comp_def, x1, c3, ix, e1, e2, c5]
            exact e3
        · have x2 : atI (r.map D.int) (i + 1) = some (.int (r[i.toNat + 1]'(by omega))) := by
            rw [atI_map, atI_get (by omega) (by omega)]
            rw [show (i + 1).toNat = i.toNat + 1 by omega, getElem!_pos r (i.toNat + 1) (by omega)]; rfl
          by_cases c4 : v + 1 < r[i.toNat + 1]'(by omega)
          · obtain ⟨r', ne', e1, e2, e3⟩ := go (v + 1) (by omega) (fun hj => c4)
            by_cases c5 : r'.getLast ne' < 101
            · rw [if_pos c5] at e3
              simp [init, argS, outsOf, solve, seen, frAt, fzAt, owAt, ownD, putN_eq, putO_eq, putT_nm, putT_tp, putT_tl, putTs, putPar, chg, setD, appD, isOL, wipeP, plainS, wipeS, back, argsOf, argD, avD, lendOk, lendP, pmA, avB, giveBack, pairD, runP, addP, subP, mulP, modP, negP, eqP, neP, eqD_int, eqD_bool, eqD_str, isBo_plain, allP, anyP, sumP, ltP, leP, gtP, geP, isNP, isnNP, lenP, isIP, isTy, tupOfP, min2P, max2P, minP, maxP, absP, intP, idxP, slcP, cut1, cutL, items, rngI, enumI, zipI, szl, Function.comp_def, x1, x2, c3, c4, ix, e1, e2, c5]
              exact e3
            · rw [if_neg c5] at e3
              simp [init, argS, outsOf, solve, seen, frAt, fzAt, owAt, ownD, putN_eq, putO_eq, putT_nm, putT_tp, putT_tl, putTs, putPar, chg, setD, appD, isOL, wipeP, plainS, wipeS, back, argsOf, argD, avD, lendOk, lendP, pmA, avB, giveBack, pairD, runP, addP, subP, mulP, modP, negP, eqP, neP, eqD_int, eqD_bool, eqD_str, isBo_plain, allP, anyP, sumP, ltP, leP, gtP, geP, isNP, isnNP, lenP, isIP, isTy, tupOfP, min2P, max2P, minP, maxP, absP, intP, idxP, slcP, cut1, cutL, items, rngI, enumI, zipI, szl, Function.comp_def, x1, x2, c3, c4, ix, e1, e2, c5]
              exact e3
          · obtain ⟨r', ne', e1, e2, e3⟩ := go v (by omega) (fun hj => by
              have := List.pairwise_iff_getElem.mp qa i.toNat (i.toNat + 1) (by omega) hj (by omega)
              omega)
            by_cases c5 : r'.getLast ne' < 101
            · rw [if_pos c5] at e3
              simp [init, argS, outsOf, solve, seen, frAt, fzAt, owAt, ownD, putN_eq, putO_eq, putT_nm, putT_tp, putT_tl, putTs, putPar, chg, setD, appD, isOL, wipeP, plainS, wipeS, back, argsOf, argD, avD, lendOk, lendP, pmA, avB, giveBack, pairD, runP, addP, subP, mulP, modP, negP, eqP, neP, eqD_int, eqD_bool, eqD_str, isBo_plain, allP, anyP, sumP, ltP, leP, gtP, geP, isNP, isnNP, lenP, isIP, isTy, tupOfP, min2P, max2P, minP, maxP, absP, intP, idxP, slcP, cut1, cutL, items, rngI, enumI, zipI, szl, Function.comp_def, x1, x2, c3, c4, ix, e1, e2, c5]
              exact e3
            · rw [if_neg c5] at e3
              simp [init, argS, outsOf, solve, seen, frAt, fzAt, owAt, ownD, putN_eq, putO_eq, putT_nm, putT_tp, putT_tl, putTs, putPar, chg, setD, appD, isOL, wipeP, plainS, wipeS, back, argsOf, argD, avD, lendOk, lendP, pmA, avB, giveBack, pairD, runP, addP, subP, mulP, modP, negP, eqP, neP, eqD_int, eqD_bool, eqD_str, isBo_plain, allP, anyP, sumP, ltP, leP, gtP, geP, isNP, isnNP, lenP, isIP, isTy, tupOfP, min2P, max2P, minP, maxP, absP, intP, idxP, slcP, cut1, cutL, items, rngI, enumI, zipI, szl, Function.comp_def, x1, x2, c3, c4, ix, e1, e2, c5]
              exact e3
      · simp [init, argS, outsOf, solve, seen, frAt, fzAt, owAt, ownD, putN_eq, putO_eq, putT_nm, putT_tp, putT_tl, putTs, putPar, chg, setD, appD, isOL, wipeP, plainS, wipeS, back, argsOf, argD, avD, lendOk, lendP, pmA, avB, giveBack, pairD, runP, addP, subP, mulP, modP, negP, eqP, neP, eqD_int, eqD_bool, eqD_str, isBo_plain, allP, anyP, sumP, ltP, leP, gtP, geP, isNP, isnNP, lenP, isIP, isTy, tupOfP, min2P, max2P, minP, maxP, absP, intP, idxP, slcP, cut1, cutL, items, rngI, enumI, zipI, szl, Function.comp_def, c1, c2, lar]
        by_cases c5 : r.getLast ner < 101
        · have f2 := f1 p2 (hp2.up (by omega)) lq qa qp
          rw [if_pos c5] at f2
          simp [init, argS, outsOf, solve, seen, frAt, fzAt, owAt, ownD, putN_eq, putO_eq, putT_nm, putT_tp, putT_tl, putTs, putPar, chg, setD, appD, isOL, wipeP, plainS, wipeS, back, argsOf, argD, avD, lendOk, lendP, pmA, avB, giveBack, pairD, runP, addP, subP, mulP, modP, negP, eqP, neP, eqD_int, eqD_bool, eqD_str, isBo_plain, allP, anyP, sumP, ltP, leP, gtP, geP, isNP, isnNP, lenP, isIP, isTy, tupOfP, min2P, max2P, minP, maxP, absP, intP, idxP, slcP, cut1, cutL, items, rngI, enumI, zipI, szl, Function.comp_def, c5]
          exact f2
        · have f2 := f1 p2 (hp2.up (by omega)) lq qa qp
          rw [if_neg c5] at f2
          simp [init, argS, outsOf, solve, seen, frAt, fzAt, owAt, ownD, putN_eq, putO_eq, putT_nm, putT_tp, putT_tl, putTs, putPar, chg, setD, appD, isOL, wipeP, plainS, wipeS, back, argsOf, argD, avD, lendOk, lendP, pmA, avB, giveBack, pairD, runP, addP, subP, mulP, modP, negP, eqP, neP, eqD_int, eqD_bool, eqD_str, isBo_plain, allP, anyP, sumP, ltP, leP, gtP, geP, isNP, isnNP, lenP, isIP, isTy, tupOfP, min2P, max2P, minP, maxP, absP, intP, idxP, slcP, cut1, cutL, items, rngI, enumI, zipI, szl, Function.comp_def, c5]
          exact f2
    · simp [init, argS, outsOf, solve, seen, frAt, fzAt, owAt, ownD, putN_eq, putO_eq, putT_nm, putT_tp, putT_tl, putTs, putPar, chg, setD, appD, isOL, wipeP, plainS, wipeS, back, argsOf, argD, avD, lendOk, lendP, pmA, avB, giveBack, pairD, runP, addP, subP, mulP, modP, negP, eqP, neP, eqD_int, eqD_bool, eqD_str, isBo_plain, allP, anyP, sumP, ltP, leP, gtP, geP, isNP, isnNP, lenP, isIP, isTy, tupOfP, min2P, max2P, minP, maxP, absP, intP, idxP, slcP, cut1, cutL, items, rngI, enumI, zipI, szl, Function.comp_def, c1, lar]
      by_cases c5 : r.getLast ner < 101
      · have f2 := f1 p2 (hp2.up (by omega)) lq qa qp
        rw [if_pos c5] at f2
        simp [init, argS, outsOf, solve, seen, frAt, fzAt, owAt, ownD, putN_eq, putO_eq, putT_nm, putT_tp, putT_tl, putTs, putPar, chg, setD, appD, isOL, wipeP, plainS, wipeS, back, argsOf, argD, avD, lendOk, lendP, pmA, avB, giveBack, pairD, runP, addP, subP, mulP, modP, negP, eqP, neP, eqD_int, eqD_bool, eqD_str, isBo_plain, allP, anyP, sumP, ltP, leP, gtP, geP, isNP, isnNP, lenP, isIP, isTy, tupOfP, min2P, max2P, minP, maxP, absP, intP, idxP, slcP, cut1, cutL, items, rngI, enumI, zipI, szl, Function.comp_def, c5]
        exact f2
      · have f2 := f1 p2 (hp2.up (by omega)) lq qa qp
        rw [if_neg c5] at f2
        simp [init, argS, outsOf, solve, seen, frAt, fzAt, owAt, ownD, putN_eq, putO_eq, putT_nm, putT_tp, putT_tl, putTs, putPar, chg, setD, appD, isOL, wipeP, plainS, wipeS, back, argsOf, argD, avD, lendOk, lendP, pmA, avB, giveBack, pairD, runP, addP, subP, mulP, modP, negP, eqP, neP, eqD_int, eqD_bool, eqD_str, isBo_plain, allP, anyP, sumP, ltP, leP, gtP, geP, isNP, isnNP, lenP, isIP, isTy, tupOfP, min2P, max2P, minP, maxP, absP, intP, idxP, slcP, cut1, cutL, items, rngI, enumI, zipI, szl, Function.comp_def, c5]
        exact f2

/-! ### rows that are alike, once more -/
theorem enumD_map {α : Type} {f : α → D} : ∀ (l : List α) (n : Nat), enumD n (l.map f) = (l.zipIdx n).map fun x => .tup [.int (x.2 : Nat), f x.1]
  | [], n => rfl
  | a :: l, n => by simp [enumD, enumD_map l (n + 1)]
theorem is_tuple_of_ok (n : Nat) {l : List D} {k : Int} : callN T (n + 1) 2 [.tup l, .int k] = .ok (.bl (decide ((l.length : Int) = k))) [.tup l, .int k] := by
  refine WF.eq (WF_def (d := d2) rfl rfl ?_)
  simp [d2, c2, init, argS, outsOf, solve, seen, frAt, fzAt, owAt, ownD, putN_eq, putO_eq, putT_nm, putT_tp, putT_tl, putTs, putPar, chg, setD, appD, isOL, wipeP, plainS, wipeS, back, argsOf, argD, avD, lendOk, lendP, pmA, avB, giveBack, pairD, runP, addP, subP, mulP, modP, negP, eqP, neP, eqD_int, eqD_bool, eqD_str, isBo_plain, allP, anyP, sumP, ltP, leP, gtP, geP, isNP, isnNP, lenP, isIP, isTy, tupOfP, min2P, max2P, minP, maxP, absP, intP, idxP, slcP, cut1, cutL, items, rngI, enumI, zipI, szl, Function.comp_def]
def alB (l m : List Int) (k a b : Int) : Bool := (decide (a + b = l.length + 1) || (decide (2 < k) && decide (a + b < l.length + 1))) && decide (dv l a * dv m b ≠ dv l b * dv m a)
def alike (l m : List Int) (k : Int) : Bool := (rg 0 l.length).all fun a => (rg 0 l.length).all fun b => !alB l m k (a + 1) (b + 1)
theorem alike_eq {l m : List Int} {k : Int} : alike l m k = decide (pairsF l m k = []) := by
  cases hq : pairsF l m k with
  | cons p ps =>
    obtain ⟨a, b⟩ := p
    obtain ⟨h1, h2, h3, h4, h5⟩ := pairsF_mem (l := l) (m := m) (k := k) (a := a) (b := b) (by rw [hq]; exact List.mem_cons_self ..)
    have bad : alB l m k a b = true := by
      have e : dv l a * dv m b ≠ dv l b * dv m a := by rw [Int.mul_comm (dv l b)]; exact h5
      by_cases c : 2 < k
      · by_cases c2 : a + b = l.length + 1
        · simp [alB, e, c2]
        · simp [alB, e, c, show a + b < l.length + 1 by omega]
      · simp [alB, e, h4 (by omega)]
    cases e : alike l m k with
    | false => simp
    | true =>
      unfold alike at e
      rw [List.all_eq_true] at e
      have e := e (a - 1) (mem_rg.mpr (by omega))
      rw [List.all_eq_true] at e
      have e := e (b - 1) (mem_rg.mpr (by omega))
      rw [show a - 1 + 1 = a by omega, show b - 1 + 1 = b by omega, bad] at e
      simp at e
  | nil =>
    rw [decide_eq_true rfl]
    unfold alike
    rw [List.all_eq_true]
    intro a ha
    rw [List.all_eq_true]
    intro b hb
    have ha := mem_rg.mp ha
    have hb := mem_rg.mp hb
    cases e : alB l m k (a + 1) (b + 1) with
    | false => rfl
    | true =>
      exfalso
      simp only [alB, Bool.and_eq_true, Bool.or_eq_true, decide_eq_true_eq] at e
      obtain ⟨c1, c2⟩ := e
      have put : ∀ x y : Int, 1 ≤ x → x < y → x + y ≤ l.length + 1 → (2 < k ∨ x + y = l.length + 1) → dv l x * dv m y ≠ dv m x * dv l y → (x, y) ∈ pairsF l m k := fun x y h1 h2 h3 h4 h5 => by
        unfold pairsF pairsA
        refine List.mem_flatMap.mpr ⟨x, mem_rg.mpr (by omega), List.mem_map.mpr ⟨y, List.mem_filter.mpr ⟨mem_rg.mpr (by omega), ?_⟩, rfl⟩⟩
        simp [pcond, h4, h5]
      have go : ∀ x y : Int, (x, y) ∈ pairsF l m k → False := fun x y hx => by rw [hq] at hx; cases hx
      by_cases c3 : a = b
      · subst c3
        exact c2 rfl
      · by_cases c4 : a < b
        · exact go _ _ (put (a + 1) (b + 1) (by omega) (by omega) (by omega) (by omega) (by rw [Int.mul_comm (dv m (a + 1))]; exact c2))
        · exact go _ _ (put (b + 1) (a + 1) (by omega) (by omega) (by omega) (by omega) (by rw [Int.mul_comm (dv m (b + 1))]; exact fun z => c2 z.symm))
def AlI1 (l m : List Int) (k : Int) (r : Bool) (xs : List D) (s : Slots) : Prop := ∃ (z4 z5 z6 : Sl) (ps : List Int), s = [.fr (tI l), .fr (tI m), .fr (.int k), .fr (.int (l.length : Nat)), z4, z5, z6] ∧ z4.plain = true ∧ z5.plain = true ∧ z6.plain = true ∧ xs = ps.map .int ∧ (∀ p ∈ ps, 0 ≤ p ∧ p < l.length) ∧ r = ps.all fun a => (rg 0 l.length).all fun b => !alB l m k (a + 1) (b + 1)
def AlI2 (l m : List Int) (k : Int) (r : Bool) (a : Int) (rest : Bool) (xs : List D) (s : Slots) : Prop := ∃ (z5 z6 : Sl) (ps : List Int), s = [.fr (tI l), .fr (tI m), .fr (.int k), .fr (.int (l.length : Nat)), .fr (.int a), z5, z6] ∧ z5.plain = true ∧ z6.plain = true ∧ xs = ps.map .int ∧ (∀ p ∈ ps, 0 ≤ p ∧ p < l.length) ∧ r = ((ps.all fun b => !alB l m k (a + 1) (b + 1)) && rest)
theorem law_alike_ok (n : Nat) {l m : List Int} {k : Int} (h : Row l) (h' : Row m) (e : l.length = m.length) : callN T (n + 1) 26 [tI l, tI m, .int k] = .ok (.bl (decide (pairsF l m k = []))) [tI l, tI m, .int k] := by
  rw [← alike_eq]
  have l2 := h.l2
  refine WF.eq (WF_def (d := d26) rfl rfl ?_)
  simp [d26, c26, init, argS, outsOf, solve, seen, frAt, fzAt, owAt, ownD, putN_eq, putO_eq, putT_nm, putT_tp, putT_tl, putTs, putPar, chg, setD, appD, isOL, wipeP, plainS, wipeS, back, argsOf, argD, avD, lendOk, lendP, pmA, avB, giveBack, pairD, runP, addP, subP, mulP, modP, negP, eqP, neP, eqD_int, eqD_bool, eqD_str, isBo_plain, allP, anyP, sumP, ltP, leP, gtP, geP, isNP, isnNP, lenP, isIP, isTy, tupOfP, min2P, max2P, minP, maxP, absP, intP, idxP, slcP, cut1, cutL, items, rngI, enumI, zipI, szl, Function.comp_def]
  have rr := rng_ok (a := 0) (b := (l.length : Nat)) (by omega) (by omega) (by omega) (by omega) (by omega)
  rw [rr]
  simp [init, argS, outsOf, solve, seen, frAt, fzAt, owAt, ownD, putN_eq, putO_eq, putT_nm, putT_tp, putT_tl, putTs, putPar, chg, setD, appD, isOL, wipeP, plainS, wipeS, back, argsOf, argD, avD, lendOk, lendP, pmA, avB, giveBack, pairD, runP, addP, subP, mulP, modP, negP, eqP, neP, eqD_int, eqD_bool, eqD_str, isBo_plain, allP, anyP, sumP, ltP, leP, gtP, geP, isNP, isnNP, lenP, isIP, isTy, tupOfP, min2P, max2P, minP, maxP, absP, intP, idxP, slcP, cut1, cutL, items, rngI, enumI, zipI, szl, Function.comp_def]
  refine W_forL (AlI1 l m k (alike l m k)) ?_ ?_ _ _ ⟨.no, .no, .no, _, rfl, rfl, rfl, rfl, rfl, fun p hp => mem_rg.mp hp, rfl⟩
  · rintro x xs s ⟨z4, z5, z6, ps, rfl, h4, h5, h6, hx, hm, hb⟩
    cases ps with
    | nil => simp at hx
    | cons a ps =>
      simp at hx
      obtain ⟨rfl, rfl⟩ := hx
      have ha := hm a (List.mem_cons_self ..)
      simp [init, argS, outsOf, solve, seen, frAt, fzAt, owAt, ownD, putN_eq, putO_eq, putT_nm, putT_tp, putT_tl, putTs, putPar, chg, setD, appD, isOL, wipeP, plainS, wipeS, back, argsOf, argD, avD, lendOk, lendP, pmA, avB, giveBack, pairD, runP, addP, subP, mulP, modP, negP, eqP, neP, eqD_int, eqD_bool, eqD_str, isBo_plain, allP, anyP, sumP, ltP, leP, gtP, geP, isNP, isnNP, lenP, isIP, isTy, tupOfP, min2P, max2P, minP, maxP, absP, intP, idxP, slcP, cut1, cutL, items, rngI, enumI, zipI, szl, Function.comp_def, h4]
      rw [rr]
      simp [init, argS, outsOf, solve, seen, frAt, fzAt, owAt, ownD, putN_eq, putO_eq, putT_nm, putT_tp, putT_tl, putTs, putPar, chg, setD, appD, isOL, wipeP, plainS, wipeS, back, argsOf, argD, avD, lendOk, lendP, pmA, avB, giveBack, pairD, runP, addP, subP, mulP, modP, negP, eqP, neP, eqD_int, eqD_bool, eqD_str, isBo_plain, allP, anyP, sumP, ltP, leP, gtP, geP, isNP, isnNP, lenP, isIP, isTy, tupOfP, min2P, max2P, minP, maxP, absP, intP, idxP, slcP, cut1, cutL, items, rngI, enumI, zipI, szl, Function.comp_def]
      refine W_forL (AlI2 l m k (alike l m k) a (ps.all fun a => (rg 0 l.length).all fun b => !alB l m k (a + 1) (b + 1))) ?_ ?_ _ _ ⟨z5, z6, _, rfl, h5, h6, rfl, fun p hp => mem_rg.mp hp, by rw [hb, List.all_cons]⟩
      · rintro y ys s ⟨z5, z6, qs, rfl, h5, h6, hy, hm2, hb2⟩
        cases qs with
        | nil => simp at hy
        | cons b qs =>
          simp at hy
          obtain ⟨rfl, rfl⟩ := hy
          have hb := hm2 b (List.mem_cons_self ..)
          have nxt : ∀ z6' : Sl, z6'.plain = true → alB l m k (a + 1) (b + 1) = false → AlI2 l m k (alike l m k) a (ps.all fun a => (rg 0 l.length).all fun b => !alB l m k (a + 1) (b + 1)) (qs.map .int) [.fr (tI l), .fr (tI m), .fr (.int k), .fr (.int (l.length : Nat)), .fr (.int a), .fr (.int b), z6'] := fun z6' hz hbad => by
            refine ⟨_, z6', qs, rfl, rfl, hz, rfl, fun p hp => hm2 p (List.mem_cons_of_mem _ hp), ?_⟩
            rw [hb2, List.all_cons, hbad]
            rfl
          have bad : alB l m k (a + 1) (b + 1) = true → alike l m k = false := fun hbad => by rw [hb2, List.all_cons, hbad]; rfl
          have x1 := atI_row0 (l := l) ha.1 ha.2
          have x2 := atI_row0 (l := l) hb.1 hb.2
          have x3 := atI_row0 (l := m) ha.1 (by omega)
          have x4 := atI_row0 (l := m) hb.1 (by omega)
          have r1 := h.dv (a := a + 1) (by omega) (by omega)
          have r2 := h.dv (a := b + 1) (by omega) (by omega)
          have r3 := h'.dv (a := a + 1) (by omega) (by omega)
          have r4 := h'.dv (a := b + 1) (by omega) (by omega)
          have m1 := mulOk_l (i := dv l (a + 1)) (j := dv m (b + 1)) (by omega) (by omega)
          have m2 := mulOk_l (i := dv l (b + 1)) (j := dv m (a + 1)) (by omega) (by omega)
          by_cases c1 : a + b + 1 = l.length
          · have e1 : a + 1 + (b + 1) = l.length + 1 := by omega
            by_cases c4 : dv l (a + 1) * dv m (b + 1) = dv l (b + 1) * dv m (a + 1)
            · have g := nxt (.fr (.bl true)) rfl (by simp [alB, c4])
              simp [init, argS, outsOf, solve, seen, frAt, fzAt, owAt, ownD, putN_eq, putO_eq, putT_nm, putT_tp, putT_tl, putTs, putPar, chg, setD, appD, isOL, wipeP, plainS, wipeS, back, argsOf, argD, avD, lendOk, lendP, pmA, avB, giveBack, pairD, runP, addP, subP, mulP, modP, negP, eqP, neP, eqD_int, eqD_bool, eqD_str, isBo_plain, allP, anyP, sumP, ltP, leP, gtP, geP, isNP, isnNP, lenP, isIP, isTy, tupOfP, min2P, max2P, minP, maxP, absP, intP, idxP, slcP, cut1, cutL, items, rngI, enumI, zipI, szl, Function.comp_def, h5, h6, c1, c4, x1, x2, x3, x4, m1, m2]
              exact g
            · have g := bad (by simp [alB, c4, e1])
              simp [init, argS, outsOf, solve, seen, frAt, fzAt, owAt, ownD, putN_eq, putO_eq, putT_nm, putT_tp, putT_tl, putTs, putPar, chg, setD, appD, isOL, wipeP, plainS, wipeS, back, argsOf, argD, avD, lendOk, lendP, pmA, avB, giveBack, pairD, runP, addP, subP, mulP, modP, negP, eqP, neP, eqD_int, eqD_bool, eqD_str, isBo_plain, allP, anyP, sumP, ltP, leP, gtP, geP, isNP, isnNP, lenP, isIP, isTy, tupOfP, min2P, max2P, minP, maxP, absP, intP, idxP, slcP, cut1, cutL, items, rngI, enumI, zipI, szl, Function.comp_def, h5, h6, c1, c4, x1, x2, x3, x4, m1, m2, g]
          · have e1 : ¬ a + 1 + (b + 1) = l.length + 1 := by omega
            by_cases c2 : 2 < k
            · by_cases c3 : a + b + 1 < l.length
              · have e2 : a + 1 + (b + 1) < l.length + 1 := by omega
                by_cases c4 : dv l (a + 1) * dv m (b + 1) = dv l (b + 1) * dv m (a + 1)
                · have g := nxt (.fr (.bl true)) rfl (by simp [alB, c4])
                  simp [init, argS, outsOf, solve, seen, frAt, fzAt, owAt, ownD, putN_eq, putO_eq, putT_nm, putT_tp, putT_tl, putTs, putPar, chg, setD, appD, isOL, wipeP, plainS, wipeS, back, argsOf, argD, avD, lendOk, lendP, pmA, avB, giveBack, pairD, runP, addP, subP, mulP, modP, negP, eqP, neP, eqD_int, eqD_bool, eqD_str, isBo_plain, allP, anyP, sumP, ltP, leP, gtP, geP, isNP, isnNP, lenP, isIP, isTy, tupOfP, min2P, max2P, minP, maxP, absP, intP, idxP, slcP, cut1, cutL, items, rngI, enumI, zipI, szl, Function.comp_def, h5, h6, c1, c2, c3, c4, x1, x2, x3, x4, m1, m2]
                  exact g
                · have g := bad (by simp [alB, c4, e1, e2, c2])
                  simp [init, argS, outsOf, solve, seen, frAt, fzAt, owAt, ownD, putN_eq, putO_eq, putT_nm, putT_tp, putT_tl, putTs, putPar, chg, setD, appD, isOL, wipeP, plainS, wipeS, back, argsOf, argD, avD, lendOk, lendP, pmA, avB, giveBack, pairD, runP, addP, subP, mulP, modP, negP, eqP, neP, eqD_int, eqD_bool, eqD_str, isBo_plain, allP, anyP, sumP, ltP, leP, gtP, geP, isNP, isnNP, lenP, isIP, isTy, tupOfP, min2P, max2P, minP, maxP, absP, intP, idxP, slcP, cut1, cutL, items, rngI, enumI, zipI, szl, Function.comp_def, h5, h6, c1, c2, c3, c4, x1, x2, x3, x4, m1, m2, g]
              · have e2 : ¬ a + 1 + (b + 1) < l.length + 1 := by omega
                have g := nxt (.fr (.bl false)) rfl (by simp [alB, e1, e2])
                simp [init, argS, outsOf, solve, seen, frAt, fzAt, owAt, ownD, putN_eq, putO_eq, putT_nm, putT_tp, putT_tl, putTs, putPar, chg, setD, appD, isOL, wipeP, plainS, wipeS, back, argsOf, argD, avD, lendOk, lendP, pmA, avB, giveBack, pairD, runP, addP, subP, mulP, modP, negP, eqP, neP, eqD_int, eqD_bool, eqD_str, isBo_plain, allP, anyP, sumP, ltP, leP, gtP, geP, isNP, isnNP, lenP, isIP, isTy, tupOfP, min2P, max2P, minP, maxP, absP, intP, idxP, slcP, cut1, cutL, items, rngI, enumI, zipI, szl, Function.comp_def, h5, h6, c1, c2, c3]
                exact g
            · have g := nxt (.fr (.bl false)) rfl (by simp [alB, e1, c2])
              simp [init, argS, outsOf, solve, seen, frAt, fzAt, owAt, ownD, putN_eq, putO_eq, putT_nm, putT_tp, putT_tl, putTs, putPar, chg, setD, appD, isOL, wipeP, plainS, wipeS, back, argsOf, argD, avD, lendOk, lendP, pmA, avB, giveBack, pairD, runP, addP, subP, mulP, modP, negP, eqP, neP, eqD_int, eqD_bool, eqD_str, isBo_plain, allP, anyP, sumP, ltP, leP, gtP, geP, isNP, isnNP, lenP, isIP, isTy, tupOfP, min2P, max2P, minP, maxP, absP, intP, idxP, slcP, cut1, cutL, items, rngI, enumI, zipI, szl, Function.comp_def, h5, h6, c1, c2]
              exact g
      · rintro s ⟨z5, z6, qs, rfl, h5, h6, hy, hm2, hb2⟩
        cases qs with
        | cons q qs => simp at hy
        | nil =>
          simp [init, argS, outsOf, solve, seen, frAt, fzAt, owAt, ownD, putN_eq, putO_eq, putT_nm, putT_tp, putT_tl, putTs, putPar, chg, setD, appD, isOL, wipeP, plainS, wipeS, back, argsOf, argD, avD, lendOk, lendP, pmA, avB, giveBack, pairD, runP, addP, subP, mulP, modP, negP, eqP, neP, eqD_int, eqD_bool, eqD_str, isBo_plain, allP, anyP, sumP, ltP, leP, gtP, geP, isNP, isnNP, lenP, isIP, isTy, tupOfP, min2P, max2P, minP, maxP, absP, intP, idxP, slcP, cut1, cutL, items, rngI, enumI, zipI, szl, Function.comp_def]
          exact ⟨_, z5, z6, ps, rfl, rfl, h5, h6, rfl, fun p hp => hm p (List.mem_cons_of_mem _ hp), by rw [hb2]; rfl⟩
  · rintro s ⟨z4, z5, z6, ps, rfl, h4, h5, h6, hx, hm, hb⟩
    cases ps with
    | cons q qs => simp at hx
    | nil =>
      rw [show alike l m k = true from hb]
      simp [init, argS, outsOf, solve, seen, frAt, fzAt, owAt, ownD, putN_eq, putO_eq, putT_nm, putT_tp, putT_tl, putTs, putPar, chg, setD, appD, isOL, wipeP, plainS, wipeS, back, argsOf, argD, avD, lendOk, lendP, pmA, avB, giveBack, pairD, runP, addP, subP, mulP, modP, negP, eqP, neP, eqD_int, eqD_bool, eqD_str, isBo_plain, allP, anyP, sumP, ltP, leP, gtP, geP, isNP, isnNP, lenP, isIP, isTy, tupOfP, min2P, max2P, minP, maxP, absP, intP, idxP, slcP, cut1, cutL, items, rngI, enumI, zipI, szl, Function.comp_def]
/-! ### fits -/
abbrev IVS := (Int × Int) × Nat
def ivD (t : IVS) : D := .tup [.int (t.2 : Nat), .int t.1.2]
theorem at_nat {cs : List Int} {i : Nat} {v : Int} (h : cs[i]? = some v) : atI (cs.map D.int) (i : Int) = some (.int v) := by
  rw [atI_map, atI_nat (by omega)]
  simp [h]
theorem resB_iv {l cs ss : List Int} : resB l cs ss = (cs.zip ss).zipIdx.all fun t => (cs.zip ss).zipIdx.all fun u => !badB l t.1.1 t.1.2 u.1.1 u.1.2 := by
  have key : ∀ P : Int × Int → Bool, (cs.zip ss).all P = (cs.zip ss).zipIdx.all fun t => P t.1 := fun P => by
    conv => lhs; rw [← List.zipIdx_map_fst 0 (cs.zip ss)]
    rw [List.all_map]
    rfl
  unfold resB
  rw [key]
  congr 1
  funext t
  exact key _
def FiI1 (l cs ss : List Int) (b : Bool) (xs : List D) (s : Slots) : Prop := ∃ (z3 z4 z5 z6 z7 z8 : Sl) (ps : List IVS), s = [.fr (tI l), .fr (tI cs), .fr (tI ss), z3, z4, z5, z6, z7, z8] ∧ z3.plain = true ∧ z4.plain = true ∧ z5.plain = true ∧ z6.plain = true ∧ z7.plain = true ∧ z8.plain = true ∧ xs = ps.map ivD ∧ (∀ p ∈ ps, p ∈ (cs.zip ss).zipIdx) ∧ b = ps.all fun t => (cs.zip ss).zipIdx.all fun u => !badB l t.1.1 t.1.2 u.1.1 u.1.2
def FiI2 (l cs ss : List Int) (b : Bool) (i : Nat) (v s' : Int) (rest : Bool) (xs : List D) (s : Slots) : Prop := ∃ (z5 z6 z7 z8 : Sl) (ps : List IVS), s = [.fr (tI l), .fr (tI cs), .fr (tI ss), .fr (.int i), .fr (.int s'), z5, z6, z7, z8] ∧ z5.plain = true ∧ z6.plain = true ∧ z7.plain = true ∧ z8.plain = true ∧ xs = ps.map ivD ∧ (∀ p ∈ ps, p ∈ (cs.zip ss).zipIdx) ∧ b = ((ps.all fun u => !badB l v s' u.1.1 u.1.2) && rest)
theorem fits_ok (n : Nat) {l cs ss : List Int} (h : ∀ x ∈ l, 1 ≤ x ∧ x ≤ 100) (hs : ∀ s ∈ ss, 0 ≤ s ∧ s ≤ l.length) (hl : cs.length = ss.length) : callN T (n + 1) 22 [tI l, tI cs, tI ss] = .ok (.bl (resB l cs ss)) [tI l, tI cs, tI ss] := by
  have eS : ss.map D.int = (cs.zip ss).map fun p => D.int p.2 := by
    conv => lhs; rw [← List.map_snd_zip (l₁ := cs) (l₂ := ss) (by omega)]
    rw [List.map_map]
    rfl
  have eE : enumD 0 (ss.map D.int) = (cs.zip ss).zipIdx.map ivD := by
    rw [eS, enumD_map]
    rfl
  have at1 : ∀ t ∈ (cs.zip ss).zipIdx, atI (cs.map D.int) (t.2 : Int) = some (.int t.1.1) ∧ 0 ≤ t.1.2 ∧ t.1.2 ≤ l.length := fun t ht => by
    obtain ⟨⟨v, s⟩, i⟩ := t
    have g := List.mem_zipIdx_iff_getElem?.mp ht
    have g2 := List.getElem?_zip_eq_some.mp g
    exact ⟨at_nat g2.1, hs s (List.mem_of_getElem? g2.2)⟩
  rw [resB_iv]
  generalize hr : ((cs.zip ss).zipIdx.all fun t => (cs.zip ss).zipIdx.all fun u => !badB l t.1.1 t.1.2 u.1.1 u.1.2) = R
  refine WF.eq (WF_def (d := d22) rfl rfl ?_)
  simp [d22, c22, init, argS, outsOf, solve, seen, frAt, fzAt, owAt, ownD, putN_eq, putO_eq, putT_nm, putT_tp, putT_tl, putTs, putPar, chg, setD, appD, isOL, wipeP, plainS, wipeS, back, argsOf, argD, avD, lendOk, lendP, pmA, avB, giveBack, pairD, runP, addP, subP, mulP, modP, negP, eqP, neP, eqD_int, eqD_bool, eqD_str, isBo_plain, allP, anyP, sumP, ltP, leP, gtP, geP, isNP, isnNP, lenP, isIP, isTy, tupOfP, min2P, max2P, minP, maxP, absP, intP, idxP, slcP, cut1, cutL, items, rngI, enumI, zipI, szl, Function.comp_def]
  rw [eE]
  refine W_forL (FiI1 l cs ss R) ?_ ?_ _ _ ⟨.no, .no, .no, .no, .no, .no, _, rfl, rfl, rfl, rfl, rfl, rfl, rfl, rfl, fun p hp => hp, hr.symm⟩
  · rintro x xs s ⟨z3, z4, z5, z6, z7, z8, ps, rfl, h3, h4, h5, h6, h7, h8, hx, hm, hb⟩
    cases ps with
    | nil => simp at hx
    | cons p ps =>
      have hp := at1 p (hm p (List.mem_cons_self ..))
      obtain ⟨⟨v, s'⟩, i⟩ := p
      simp [ivD] at hx hp
      obtain ⟨rfl, rfl⟩ := hx
      obtain ⟨x1, hs'⟩ := hp
      simp [init, argS, outsOf, solve, seen, frAt, fzAt, owAt, ownD, putN_eq, putO_eq, putT_nm, putT_tp, putT_tl, putTs, putPar, chg, setD, appD, isOL, wipeP, plainS, wipeS, back, argsOf, argD, avD, lendOk, lendP, pmA, avB, giveBack, pairD, runP, addP, subP, mulP, modP, negP, eqP, neP, eqD_int, eqD_bool, eqD_str, isBo_plain, allP, anyP, sumP, ltP, leP, gtP, geP, isNP, isnNP, lenP, isIP, isTy, tupOfP, min2P, max2P, minP, maxP, absP, intP, idxP, slcP, cut1, cutL, items, rngI, enumI, zipI, szl, Function.comp_def, h3, h4]
      rw [eE]
      refine W_forL (FiI2 l cs ss R i v s' (ps.all fun t => (cs.zip ss).zipIdx.all fun u => !badB l t.1.1 t.1.2 u.1.1 u.1.2)) ?_ ?_ _ _ ⟨z5, z6, z7, z8, _, rfl, h5, h6, h7, h8, rfl, fun p hp => hp, by rw [hb, List.all_cons]⟩
      · rintro y ys s ⟨z5, z6, z7, z8, qs, rfl, h5, h6, h7, h8, hy, hm2, hb2⟩
        cases qs with
        | nil => simp at hy
        | cons q qs =>
          have hq := at1 q (hm2 q (List.mem_cons_self ..))
          obtain ⟨⟨w, t⟩, j⟩ := q
          simp [ivD] at hy hq
          obtain ⟨rfl, rfl⟩ := hy
          obtain ⟨x2, ht⟩ := hq
          have nxt : badB l v s' w t = false → ∀ z7 z8 : Sl, z7.plain = true → z8.plain = true → FiI2 l cs ss R i v s' (ps.all fun t => (cs.zip ss).zipIdx.all fun u => !badB l t.1.1 t.1.2 u.1.1 u.1.2) (qs.map ivD) [.fr (tI l), .fr (tI cs), .fr (tI ss), .fr (.int i), .fr (.int s'), .fr (.int j), .fr (.int t), z7, z8] := fun hbad z7 z8 g7 g8 => by
            refine ⟨_, _, z7, z8, qs, rfl, rfl, rfl, g7, g8, rfl, fun p hp => hm2 p (List.mem_cons_of_mem _ hp), ?_⟩
            rw [hb2, List.all_cons, hbad]
            rfl
          by_cases c1 : 0 < s'
          · by_cases c2 : t < l.length
            · have a1 := atI_row0 (l := l) ht.1 c2
              have a2 := atI_row (l := l) (a := s') (by omega) (by omega)
              have r1 := h _ (dv_mem (l := l) (a := t + 1) (by omega) (by omega))
              have r2 := h _ (dv_mem (l := l) (a := s') (by omega) (by omega))
              have m1 := mulOk_r (i := v) (j := dv l (t + 1)) (by omega) (by omega)
              have m2 := mulOk_r (i := w) (j := dv l s') (by omega) (by omega)
              by_cases c3 : v * dv l (t + 1) < w * dv l s'
              · have hbad : badB l v s' w t = true := by simp [badB, c1, c2, c3]
                have hr : R = false := by rw [hb2, List.all_cons, hbad]; rfl
                simp [init, argS, outsOf, solve, seen, frAt, fzAt, owAt, ownD, putN_eq, putO_eq, putT_nm, putT_tp, putT_tl, putTs, putPar, chg, setD, appD, isOL, wipeP, plainS, wipeS, back, argsOf, argD, avD, lendOk, lendP, pmA, avB, giveBack, pairD, runP, addP, subP, mulP, modP, negP, eqP, neP, eqD_int, eqD_bool, eqD_str, isBo_plain, allP, anyP, sumP, ltP, leP, gtP, geP, isNP, isnNP, lenP, isIP, isTy, tupOfP, min2P, max2P, minP, maxP, absP, intP, idxP, slcP, cut1, cutL, items, rngI, enumI, zipI, szl, Function.comp_def, h5, h6, h7, h8, c1, c2, a1, a2, x1, x2, c3, m1, m2, hr]
              · have g := nxt (by simp [badB, c3]) (.fr (.int v)) (.fr (.int w)) rfl rfl
                simp [init, argS, outsOf, solve, seen, frAt, fzAt, owAt, ownD, putN_eq, putO_eq, putT_nm, putT_tp, putT_tl, putTs, putPar, chg, setD, appD, isOL, wipeP, plainS, wipeS, back, argsOf, argD, avD, lendOk, lendP, pmA, avB, giveBack, pairD, runP, addP, subP, mulP, modP, negP, eqP, neP, eqD_int, eqD_bool, eqD_str, isBo_plain, allP, anyP, sumP, ltP, leP, gtP, geP, isNP, isnNP, lenP, isIP, isTy, tupOfP, min2P, max2P, minP, maxP, absP, intP, idxP, slcP, cut1, cutL, items, rngI, enumI, zipI, szl, Function.comp_def, h5, h6, h7, h8, c1, c2, a1, a2, x1, x2, c3, m1, m2]
                exact g
            · have g := nxt (by simp [badB, c2]) z7 z8 h7 h8
              simp [init, argS, outsOf, solve, seen, frAt, fzAt, owAt, ownD, putN_eq, putO_eq, putT_nm, putT_tp, putT_tl, putTs, putPar, chg, setD, appD, isOL, wipeP, plainS, wipeS, back, argsOf, argD, avD, lendOk, lendP, pmA, avB, giveBack, pairD, runP, addP, subP, mulP, modP, negP, eqP, neP, eqD_int, eqD_bool, eqD_str, isBo_plain, allP, anyP, sumP, ltP, leP, gtP, geP, isNP, isnNP, lenP, isIP, isTy, tupOfP, min2P, max2P, minP, maxP, absP, intP, idxP, slcP, cut1, cutL, items, rngI, enumI, zipI, szl, Function.comp_def, h5, h6, c1, c2]
              exact g
          · have g := nxt (by simp [badB, c1]) z7 z8 h7 h8
            simp [init, argS, outsOf, solve, seen, frAt, fzAt, owAt, ownD, putN_eq, putO_eq, putT_nm, putT_tp, putT_tl, putTs, putPar, chg, setD, appD, isOL, wipeP, plainS, wipeS, back, argsOf, argD, avD, lendOk, lendP, pmA, avB, giveBack, pairD, runP, addP, subP, mulP, modP, negP, eqP, neP, eqD_int, eqD_bool, eqD_str, isBo_plain, allP, anyP, sumP, ltP, leP, gtP, geP, isNP, isnNP, lenP, isIP, isTy, tupOfP, min2P, max2P, minP, maxP, absP, intP, idxP, slcP, cut1, cutL, items, rngI, enumI, zipI, szl, Function.comp_def, h5, h6, c1]
            exact g
      · rintro s ⟨z5, z6, z7, z8, qs, rfl, h5, h6, h7, h8, hy, hm2, hb2⟩
        cases qs with
        | cons q qs => simp at hy
        | nil =>
          simp [init, argS, outsOf, solve, seen, frAt, fzAt, owAt, ownD, putN_eq, putO_eq, putT_nm, putT_tp, putT_tl, putTs, putPar, chg, setD, appD, isOL, wipeP, plainS, wipeS, back, argsOf, argD, avD, lendOk, lendP, pmA, avB, giveBack, pairD, runP, addP, subP, mulP, modP, negP, eqP, neP, eqD_int, eqD_bool, eqD_str, isBo_plain, allP, anyP, sumP, ltP, leP, gtP, geP, isNP, isnNP, lenP, isIP, isTy, tupOfP, min2P, max2P, minP, maxP, absP, intP, idxP, slcP, cut1, cutL, items, rngI, enumI, zipI, szl, Function.comp_def]
          exact ⟨_, _, z5, z6, z7, z8, ps, rfl, rfl, rfl, h5, h6, h7, h8, rfl, fun p hp => hm p (List.mem_cons_of_mem _ hp), by rw [hb2]; rfl⟩
  · rintro s ⟨z3, z4, z5, z6, z7, z8, ps, rfl, h3, h4, h5, h6, h7, h8, hx, hm, hb⟩
    cases ps with
    | cons q qs => simp at hx
    | nil =>
      rw [show R = true from hb]
      simp [init, argS, outsOf, solve, seen, frAt, fzAt, owAt, ownD, putN_eq, putO_eq, putT_nm, putT_tp, putT_tl, putTs, putPar, chg, setD, appD, isOL, wipeP, plainS, wipeS, back, argsOf, argD, avD, lendOk, lendP, pmA, avB, giveBack, pairD, runP, addP, subP, mulP, modP, negP, eqP, neP, eqD_int, eqD_bool, eqD_str, isBo_plain, allP, anyP, sumP, ltP, leP, gtP, geP, isNP, isnNP, lenP, isIP, isTy, tupOfP, min2P, max2P, minP, maxP, absP, intP, idxP, slcP, cut1, cutL, items, rngI, enumI, zipI, szl, Function.comp_def]

/-! ### parts, judged -/
theorem law_from_ok (n : Nat) {x : Int} (h : 0 ≤ x) : callN T (n + 1) 23 [.int x] = .ok (.bl true) [.int x] := by
  refine WF.eq (WF_def (d := d23) rfl rfl ?_)
  simp [d23, c23, init, argS, outsOf, solve, seen, frAt, fzAt, owAt, ownD, putN_eq, putO_eq, putT_nm, putT_tp, putT_tl, putTs, putPar, chg, setD, appD, isOL, wipeP, plainS, wipeS, back, argsOf, argD, avD, lendOk, lendP, pmA, avB, giveBack, pairD, runP, addP, subP, mulP, modP, negP, eqP, neP, eqD_int, eqD_bool, eqD_str, isBo_plain, allP, anyP, sumP, ltP, leP, gtP, geP, isNP, isnNP, lenP, isIP, isTy, tupOfP, min2P, max2P, minP, maxP, absP, intP, idxP, slcP, cut1, cutL, items, rngI, enumI, zipI, szl, Function.comp_def, h]
structure Apart (l m cs ss : List Int) (k : Int) : Prop where
  lc : (cs.length : Int) = k
  ls : (ss.length : Int) = k
  pc : ∀ x ∈ cs, 0 ≤ x ∧ x ≤ 10 ^ 17
  ps : ∀ s ∈ ss, 0 ≤ s ∧ s ≤ l.length
  sm : ss.sum = l.length
  yes : resB l cs ss = true
  no : resB m cs ss = false
  pos : ∃ p ∈ cs.zip ss, 0 < p.2
theorem apart_of {l m : List Int} {k a b x0 x1 x2 r : Int} (h : Row l) (k2 : 2 ≤ k) (k6 : k ≤ 6) (hr : k = 2 → r = 0) (e : l.length = m.length) (hP : Parts l m a b x0 x1 x2 r) : Apart l m (csOf k x0 x1 x2) (csOf k a (b - 1) r) k := by
  have f := hP.fair (k := k) h
  have ha := hP.a1
  have hb := hP.b1
  have hab := hP.ab
  have hr0 := hP.r0
  have hx0 := hP.p0
  have hx1 := hP.p1
  have hx2 := hP.p2
  have hq0 := hP.q0
  have hq1 := hP.q1
  have hq2 := hP.q2
  have da := h.dv (a := a) ha (by omega)
  have len : ∀ x y z : Int, ((csOf k x y z).length : Int) = k := fun x y z => by unfold csOf; simp; omega
  have mem : (x0, a) ∈ (csOf k x0 x1 x2).zip (csOf k a (b - 1) r) ∧ (x1, b - 1) ∈ (csOf k x0 x1 x2).zip (csOf k a (b - 1) r) := by
    rw [zip6]
    obtain ⟨j, hj⟩ : ∃ j, k.toNat = j + 2 := ⟨k.toNat - 2, by omega⟩
    rw [hj]
    simp
  refine ⟨len .., len .., fun w hw => ?_, fun s hs => ?_, ?_, resB_true (x0 := x0) (da := dv l a) (by omega) h.rng (fun p hp => (f p hp).1) (fun p hp => (f p hp).2), resB_false mem.1 mem.2 (by omega) (by omega) (by rw [show b - 1 + 1 = b by omega, Int.mul_comm]; exact hP.brk), ⟨_, mem.1, by show 0 < a; omega⟩⟩
  · have := List.mem_of_mem_take hw
    simp at this
    omega
  · have := List.mem_of_mem_take hs
    simp at this
    omega
  · have : k = 2 ∨ k = 3 ∨ k = 4 ∨ k = 5 ∨ k = 6 := by omega
    rcases this with rfl | rfl | rfl | rfl | rfl
    · have := hr rfl
      simp [csOf]; omega
    all_goals simp [csOf]; omega
def PtInv (l m cs ss : List Int) (k : Int) (xs : List D) (s : Slots) : Prop := ∃ (z4 z5 : Sl) (ps : List (List Int)), s = [.fr (tI l), .fr (tI m), .fr (.int k), .fr (.tup [tI cs, tI ss]), z4, z5] ∧ z4.plain = true ∧ z5.plain = true ∧ xs = ps.map tI ∧ ∀ p ∈ ps, p = cs ∨ p = ss
theorem parts_them_ok (n : Nat) {l m cs ss : List Int} {k : Int} (h : Row l) (h' : Row m) (e : l.length = m.length) (k2 : 2 ≤ k) (k6 : k ≤ 6) (hA : Apart l m cs ss k) : callN T (n + 2) 27 [tI l, tI m, .int k, .tup [tI cs, tI ss]] = .ok (.bl true) [tI l, tI m, .int k, .tup [tI cs, tI ss]] := by
  have lc := hA.lc
  have ls := hA.ls
  have f1 := fits_ok n (l := l) (cs := cs) (ss := ss) h.rng hA.ps (by omega)
  have f2 := fits_ok n (l := m) (cs := cs) (ss := ss) h'.rng (by rw [← e]; exact hA.ps) (by omega)
  rw [hA.yes] at f1
  rw [hA.no] at f2
  refine WF.eq (WF_def (d := d27) rfl rfl ?_)
  simp [d27, c27, init, argS, outsOf, solve, seen, frAt, fzAt, owAt, ownD, putN_eq, putO_eq, putT_nm, putT_tp, putT_tl, putTs, putPar, chg, setD, appD, isOL, wipeP, plainS, wipeS, back, argsOf, argD, avD, lendOk, lendP, pmA, avB, giveBack, pairD, runP, addP, subP, mulP, modP, negP, eqP, neP, eqD_int, eqD_bool, eqD_str, isBo_plain, allP, anyP, sumP, ltP, leP, gtP, geP, isNP, isnNP, lenP, isIP, isTy, tupOfP, min2P, max2P, minP, maxP, absP, intP, idxP, slcP, cut1, cutL, items, rngI, enumI, zipI, szl, Function.comp_def]
  refine W_forL (PtInv l m cs ss k) ?_ ?_ _ _ ⟨.no, .no, [cs, ss], rfl, rfl, rfl, rfl, fun p hp => by simpa using hp⟩
  · rintro x xs s ⟨z4, z5, ps, rfl, h4, h5, hx, hm⟩
    cases ps with
    | nil => simp at hx
    | cons p ps =>
      simp at hx
      obtain ⟨rfl, rfl⟩ := hx
      have hp := hm p (List.mem_cons_self ..)
      have lp : (p.length : Int) = k := by rcases hp with rfl | rfl <;> assumption
      have pp : ∀ x ∈ p, 0 ≤ x := fun x hx => by
        rcases hp with rfl | rfl
        · exact (hA.pc x hx).1
        · exact (hA.ps x hx).1
      simp [init, argS, outsOf, solve, seen, frAt, fzAt, owAt, ownD, putN_eq, putO_eq, putT_nm, putT_tp, putT_tl, putTs, putPar, chg, setD, appD, isOL, wipeP, plainS, wipeS, back, argsOf, argD, avD, lendOk, lendP, pmA, avB, giveBack, pairD, runP, addP, subP, mulP, modP, negP, eqP, neP, eqD_int, eqD_bool, eqD_str, isBo_plain, allP, anyP, sumP, ltP, leP, gtP, geP, isNP, isnNP, lenP, isIP, isTy, tupOfP, min2P, max2P, minP, maxP, absP, intP, idxP, slcP, cut1, cutL, items, rngI, enumI, zipI, szl, Function.comp_def, h4, h5, lp]
      refine W_comp_map (fun _ => .bl true) (fun x hx => ?_) (by simp [szl]; omega) ?_
      · obtain ⟨y, hy, rfl⟩ := List.mem_map.mp hx
        simp [init, argS, outsOf, solve, seen, frAt, fzAt, owAt, ownD, putN_eq, putO_eq, putT_nm, putT_tp, putT_tl, putTs, putPar, chg, setD, appD, isOL, wipeP, plainS, wipeS, back, argsOf, argD, avD, lendOk, lendP, pmA, avB, giveBack, pairD, runP, addP, subP, mulP, modP, negP, eqP, neP, eqD_int, eqD_bool, eqD_str, isBo_plain, allP, anyP, sumP, ltP, leP, gtP, geP, isNP, isnNP, lenP, isIP, isTy, tupOfP, min2P, max2P, minP, maxP, absP, intP, idxP, slcP, cut1, cutL, items, rngI, enumI, zipI, szl, Function.comp_def, law_from_ok n (pp y hy)]
      · simp [init, argS, outsOf, solve, seen, frAt, fzAt, owAt, ownD, putN_eq, putO_eq, putT_nm, putT_tp, putT_tl, putTs, putPar, chg, setD, appD, isOL, wipeP, plainS, wipeS, back, argsOf, argD, avD, lendOk, lendP, pmA, avB, giveBack, pairD, runP, addP, subP, mulP, modP, negP, eqP, neP, eqD_int, eqD_bool, eqD_str, isBo_plain, allP, anyP, sumP, ltP, leP, gtP, geP, isNP, isnNP, lenP, isIP, isTy, tupOfP, min2P, max2P, minP, maxP, absP, intP, idxP, slcP, cut1, cutL, items, rngI, enumI, zipI, szl, Function.comp_def]
        exact ⟨_, _, ps, rfl, rfl, h5, rfl, fun q hq => hm q (List.mem_cons_of_mem _ hq)⟩
  · rintro s ⟨z4, z5, ps, rfl, h4, h5, hx, hm⟩
    simp [init, argS, outsOf, solve, seen, frAt, fzAt, owAt, ownD, putN_eq, putO_eq, putT_nm, putT_tp, putT_tl, putTs, putPar, chg, setD, appD, isOL, wipeP, plainS, wipeS, back, argsOf, argD, avD, lendOk, lendP, pmA, avB, giveBack, pairD, runP, addP, subP, mulP, modP, negP, eqP, neP, eqD_int, eqD_bool, eqD_str, isBo_plain, allP, anyP, sumP, ltP, leP, gtP, geP, isNP, isnNP, lenP, isIP, isTy, tupOfP, min2P, max2P, minP, maxP, absP, intP, idxP, slcP, cut1, cutL, items, rngI, enumI, zipI, szl, Function.comp_def, atI, ixN, hA.sm, f1, f2]

/-! ### certified, accepted -/
theorem are_counts_ok (n : Nat) {l : List Int} {k : Int} (hl : (l.length : Int) = k) (k6 : k ≤ 6) (h : ∀ x ∈ l, 0 ≤ x) : callN T (n + 2) 17 [tI l, .int k] = .ok (.bl true) [tI l, .int k] := by
  refine WF.eq (WF_def (d := d17) rfl rfl ?_)
  simp [d17, c17, init, argS, outsOf, solve, seen, frAt, fzAt, owAt, ownD, putN_eq, putO_eq, putT_nm, putT_tp, putT_tl, putTs, putPar, chg, setD, appD, isOL, wipeP, plainS, wipeS, back, argsOf, argD, avD, lendOk, lendP, pmA, avB, giveBack, pairD, runP, addP, subP, mulP, modP, negP, eqP, neP, eqD_int, eqD_bool, eqD_str, isBo_plain, allP, anyP, sumP, ltP, leP, gtP, geP, isNP, isnNP, lenP, isIP, isTy, tupOfP, min2P, max2P, minP, maxP, absP, intP, idxP, slcP, cut1, cutL, items, rngI, enumI, zipI, szl, Function.comp_def, is_tuple_of_ok, hl]
  refine W_comp_map (fun _ => .bl true) (fun x hx => ?_) (by simp [szl]; omega) ?_
  · obtain ⟨y, hy, rfl⟩ := List.mem_map.mp hx
    have := h y hy
    simp [init, argS, outsOf, solve, seen, frAt, fzAt, owAt, ownD, putN_eq, putO_eq, putT_nm, putT_tp, putT_tl, putTs, putPar, chg, setD, appD, isOL, wipeP, plainS, wipeS, back, argsOf, argD, avD, lendOk, lendP, pmA, avB, giveBack, pairD, runP, addP, subP, mulP, modP, negP, eqP, neP, eqD_int, eqD_bool, eqD_str, isBo_plain, allP, anyP, sumP, ltP, leP, gtP, geP, isNP, isnNP, lenP, isIP, isTy, tupOfP, min2P, max2P, minP, maxP, absP, intP, idxP, slcP, cut1, cutL, items, rngI, enumI, zipI, szl, Function.comp_def, is_whole_int, this]
  · simp [init, argS, outsOf, solve, seen, frAt, fzAt, owAt, ownD, putN_eq, putO_eq, putT_nm, putT_tp, putT_tl, putTs, putPar, chg, setD, appD, isOL, wipeP, plainS, wipeS, back, argsOf, argD, avD, lendOk, lendP, pmA, avB, giveBack, pairD, runP, addP, subP, mulP, modP, negP, eqP, neP, eqD_int, eqD_bool, eqD_str, isBo_plain, allP, anyP, sumP, ltP, leP, gtP, geP, isNP, isnNP, lenP, isIP, isTy, tupOfP, min2P, max2P, minP, maxP, absP, intP, idxP, slcP, cut1, cutL, items, rngI, enumI, zipI, szl, Function.comp_def]
theorem high_pos {d cs t : List Int} (hd : Row d) (ht : ∀ p ∈ cs.zip t, p.2 ≤ d.length) (h : ∃ p ∈ cs.zip t, 0 < p.2) : highF d cs t ≠ none := by
  intro z
  obtain ⟨i1, _⟩ := foldH hd (cs.zip t) none (fun f e => nomatch e) ht
  obtain ⟨p, hp, h0⟩ := h
  exact (i1.mp z).2 p hp h0
theorem resOk_B {d cs t : List Int} : resOk d cs t ↔ resB d cs t = true := by
  unfold resOk resB
  rw [List.all_eq_true]
  constructor
  · intro h p hp
    rw [List.all_eq_true]
    intro q hq
    simp only [badB, Bool.not_eq_true', Bool.and_eq_false_iff, decide_eq_false_iff_not]
    by_cases c1 : 0 < p.2
    · by_cases c2 : q.2 < d.length
      · have := h q hq p hp c2 c1
        exact .inr (.inr (by omega))
      · exact .inr (.inl c2)
    · exact .inl c1
  · intro h p hp q hq c1 c2
    have := h q hq
    rw [List.all_eq_true] at this
    have := this p hp
    simp only [badB, Bool.not_eq_true', Bool.and_eq_false_iff, decide_eq_false_iff_not] at this
    rcases this with g | g | g
    · exact absurd c2 g
    · exact absurd c1 g
    · omega
def unI : D → List Int
  | .tup xs => xs.map fun d => match d with | .int i => i | _ => 0
  | _ => []
theorem unI_tI {l : List Int} : unI (tI l) = l := by
  unfold unI tI
  simp only []
  rw [List.map_map]
  conv => rhs; rw [← List.map_id l]
  rfl
def rcl (w : Str) (l m : List Int) (k : Int) : D := .tup [.str w, tI l, tI m, .int k]
theorem accepts_rules_none (n : Nat) {l m : List Int} {k : Int} (h : Row l) (h' : Row m) (e : l.length = m.length) (k2 : 2 ≤ k) (k6 : k ≤ 6) (hz : pairsF l m k = []) : callN T (n + 6) 18 [rcl "alike" l m k, .tup []] = .ok (.bl true) [rcl "alike" l m k, .tup []] := by
  have i1 : atI [.str "alike", tI l, tI m, .int k] 0 = some (.str "alike") := rfl
  have i2 : atI [.str "alike", tI l, tI m, .int k] 1 = some (tI l) := rfl
  have i3 : atI [.str "alike", tI l, tI m, .int k] 2 = some (tI m) := rfl
  have i4 : atI [.str "alike", tI l, tI m, .int k] 3 = some (.int k) := rfl
  have p := pairs_for_ok (n + 1) (k := k) h h' e
  rw [hz] at p
  unfold rcl
  refine WF.eq (WF_def (d := d18) rfl rfl ?_)
  simp [d18, c18, init, argS, outsOf, solve, seen, frAt, fzAt, owAt, ownD, putN_eq, putO_eq, putT_nm, putT_tp, putT_tl, putTs, putPar, chg, setD, appD, isOL, wipeP, plainS, wipeS, back, argsOf, argD, avD, lendOk, lendP, pmA, avB, giveBack, pairD, runP, addP, subP, mulP, modP, negP, eqP, neP, eqD_int, eqD_bool, eqD_str, isBo_plain, allP, anyP, sumP, ltP, leP, gtP, geP, isNP, isnNP, lenP, isIP, isTy, tupOfP, min2P, max2P, minP, maxP, absP, intP, idxP, slcP, cut1, cutL, items, rngI, enumI, zipI, szl, Function.comp_def, i1, i2, i3, i4, are_divisors_ok _ h, are_divisors_ok _ h', e, is_integer_int, k2, k6, is_tuple_of_ok, p, show eqD (.tup []) (.tup []) = some true from rfl]
theorem accepts_rules_some (n : Nat) {l m cs ss : List Int} {k : Int} (h : Row l) (h' : Row m) (e : l.length = m.length) (k2 : 2 ≤ k) (k6 : k ≤ 6) (hA : Apart l m cs ss k) : callN T (n + 6) 18 [rcl "parted" l m k, .tup [tI cs, tI ss]] = .ok (.bl true) [rcl "parted" l m k, .tup [tI cs, tI ss]] := by
  have i1 : atI [.str "parted", tI l, tI m, .int k] 0 = some (.str "parted") := rfl
  have i2 : atI [.str "parted", tI l, tI m, .int k] 1 = some (tI l) := rfl
  have i3 : atI [.str "parted", tI l, tI m, .int k] 2 = some (tI m) := rfl
  have i4 : atI [.str "parted", tI l, tI m, .int k] 3 = some (.int k) := rfl
  have i5 : atI [tI cs, tI ss] 0 = some (tI cs) := rfl
  have i6 : atI [tI cs, tI ss] 1 = some (tI ss) := rfl
  have a1 := are_counts_ok (n + 3) hA.lc k6 fun x hx => (hA.pc x hx).1
  have a2 := are_counts_ok (n + 3) hA.ls k6 fun x hx => (hA.ps x hx).1
  have hz : ∀ p ∈ cs.zip ss, p.2 ≤ l.length := fun p hp => (hA.ps _ (List.of_mem_zip (show (p.1, p.2) ∈ cs.zip ss from hp)).2).2
  have g1 := high_pos h hz hA.pos
  have g2 := high_pos h' (by rw [← e]; exact hz) hA.pos
  have p1 := price_range_okT (n + 2) h (cs := cs) (t := ss) (fun x hx => by have := hA.pc x hx; omega) hA.ps g1
  have p2 := price_range_okT (n + 2) h' (cs := cs) (t := ss) (fun x hx => by have := hA.pc x hx; omega) (by rw [← e]; exact hA.ps) g2
  have f1 : prF l cs ss ≠ none := (prF_iff h (fun x hx => (hA.pc x hx).1) hA.ps g1).mpr (resOk_B.mpr hA.yes)
  have f2 : prF m cs ss = none := by
    cases z : prF m cs ss with
    | none => rfl
    | some f =>
      have := resOk_B.mp ((prF_iff h' (fun x hx => (hA.pc x hx).1) (by rw [← e]; exact hA.ps) g2).mp (by rw [z]; simp))
      rw [hA.no] at this
      cases this
  have y1 : D.isNon (prD (prF l cs ss)) = false := by
    cases z : prF l cs ss with
    | none => exact absurd z f1
    | some f => rfl
  have y2 : D.isNon (prD (prF m cs ss)) = true := by rw [f2]; rfl
  have sm := hA.sm
  have wd : ((Str.ofString "parted") == (Str.ofString "alike")) = false := by decide
  unfold rcl
  refine WF.eq (WF_def (d := d18) rfl rfl ?_)
  simp [d18, c18, init, argS, outsOf, solve, seen, frAt, fzAt, owAt, ownD, putN_eq, putO_eq, putT_nm, putT_tp, putT_tl, putTs, putPar, chg, setD, appD, isOL, wipeP, plainS, wipeS, back, argsOf, argD, avD, lendOk, lendP, pmA, avB, giveBack, pairD, runP, addP, subP, mulP, modP, negP, eqP, neP, eqD_int, eqD_bool, eqD_str, isBo_plain, allP, anyP, sumP, ltP, leP, gtP, geP, isNP, isnNP, lenP, isIP, isTy, tupOfP, min2P, max2P, minP, maxP, absP, intP, idxP, slcP, cut1, cutL, items, rngI, enumI, zipI, szl, Function.comp_def, i1, i2, i3, i4, are_divisors_ok _ h, are_divisors_ok _ h', e, is_integer_int, k2, k6, is_tuple_of_ok, wd]
  refine W_comp_map (fun _ => .bl true) (fun x hx => ?_) ?_ ?_
  · rcases List.mem_cons.mp hx with rfl | hx
    · simp [init, argS, outsOf, solve, seen, frAt, fzAt, owAt, ownD, putN_eq, putO_eq, putT_nm, putT_tp, putT_tl, putTs, putPar, chg, setD, appD, isOL, wipeP, plainS, wipeS, back, argsOf, argD, avD, lendOk, lendP, pmA, avB, giveBack, pairD, runP, addP, subP, mulP, modP, negP, eqP, neP, eqD_int, eqD_bool, eqD_str, isBo_plain, allP, anyP, sumP, ltP, leP, gtP, geP, isNP, isnNP, lenP, isIP, isTy, tupOfP, min2P, max2P, minP, maxP, absP, intP, idxP, slcP, cut1, cutL, items, rngI, enumI, zipI, szl, Function.comp_def, i4, a1]
    · rw [List.mem_singleton.mp hx]
      simp [init, argS, outsOf, solve, seen, frAt, fzAt, owAt, ownD, putN_eq, putO_eq, putT_nm, putT_tp, putT_tl, putTs, putPar, chg, setD, appD, isOL, wipeP, plainS, wipeS, back, argsOf, argD, avD, lendOk, lendP, pmA, avB, giveBack, pairD, runP, addP, subP, mulP, modP, negP, eqP, neP, eqD_int, eqD_bool, eqD_str, isBo_plain, allP, anyP, sumP, ltP, leP, gtP, geP, isNP, isnNP, lenP, isIP, isTy, tupOfP, min2P, max2P, minP, maxP, absP, intP, idxP, slcP, cut1, cutL, items, rngI, enumI, zipI, szl, Function.comp_def, i4, a2]
  · simp [szl]
  · simp [init, argS, outsOf, solve, seen, frAt, fzAt, owAt, ownD, putN_eq, putO_eq, putT_nm, putT_tp, putT_tl, putTs, putPar, chg, setD, appD, isOL, wipeP, plainS, wipeS, back, argsOf, argD, avD, lendOk, lendP, pmA, avB, giveBack, pairD, runP, addP, subP, mulP, modP, negP, eqP, neP, eqD_int, eqD_bool, eqD_str, isBo_plain, allP, anyP, sumP, ltP, leP, gtP, geP, isNP, isnNP, lenP, isIP, isTy, tupOfP, min2P, max2P, minP, maxP, absP, intP, idxP, slcP, cut1, cutL, items, rngI, enumI, zipI, szl, Function.comp_def, i5, i6, i2, i3, sm, e, boolsD]
    refine W_comp_map (fun d => .bl (D.isNon (prD (prF (unI d) cs ss)))) (fun x hx => ?_) ?_ ?_
    · rcases List.mem_cons.mp hx with rfl | hx
      · simp [init, argS, outsOf, solve, seen, frAt, fzAt, owAt, ownD, putN_eq, putO_eq, putT_nm, putT_tp, putT_tl, putTs, putPar, chg, setD, appD, isOL, wipeP, plainS, wipeS, back, argsOf, argD, avD, lendOk, lendP, pmA, avB, giveBack, pairD, runP, addP, subP, mulP, modP, negP, eqP, neP, eqD_int, eqD_bool, eqD_str, isBo_plain, allP, anyP, sumP, ltP, leP, gtP, geP, isNP, isnNP, lenP, isIP, isTy, tupOfP, min2P, max2P, minP, maxP, absP, intP, idxP, slcP, cut1, cutL, items, rngI, enumI, zipI, szl, Function.comp_def, i5, i6, p1, unI_tI, y1]
      · rw [List.mem_singleton.mp hx]
        simp [init, argS, outsOf, solve, seen, frAt, fzAt, owAt, ownD, putN_eq, putO_eq, putT_nm, putT_tp, putT_tl, putTs, putPar, chg, setD, appD, isOL, wipeP, plainS, wipeS, back, argsOf, argD, avD, lendOk, lendP, pmA, avB, giveBack, pairD, runP, addP, subP, mulP, modP, negP, eqP, neP, eqD_int, eqD_bool, eqD_str, isBo_plain, allP, anyP, sumP, ltP, leP, gtP, geP, isNP, isnNP, lenP, isIP, isTy, tupOfP, min2P, max2P, minP, maxP, absP, intP, idxP, slcP, cut1, cutL, items, rngI, enumI, zipI, szl, Function.comp_def, i5, i6, p2, unI_tI, y2]
    · simp [szl]
    · simp [init, argS, outsOf, solve, seen, frAt, fzAt, owAt, ownD, putN_eq, putO_eq, putT_nm, putT_tp, putT_tl, putTs, putPar, chg, setD, appD, isOL, wipeP, plainS, wipeS, back, argsOf, argD, avD, lendOk, lendP, pmA, avB, giveBack, pairD, runP, addP, subP, mulP, modP, negP, eqP, neP, eqD_int, eqD_bool, eqD_str, isBo_plain, allP, anyP, sumP, ltP, leP, gtP, geP, isNP, isnNP, lenP, isIP, isTy, tupOfP, min2P, max2P, minP, maxP, absP, intP, idxP, slcP, cut1, cutL, items, rngI, enumI, zipI, szl, Function.comp_def, atI, ixN, unI_tI, y1, y2]
theorem accepts_of (n : Nat) {l m : List Int} {k : Int} {w : Str} {d : D} (hw : w = "alike" ∨ w = "parted") (h : callN T (n + 6) 18 [rcl w l m k, d] = .ok (.bl true) [rcl w l m k, d]) : callN T (n + 7) 19 [rcl w l m k, d] = .ok (.bl true) [rcl w l m k, d] := by
  unfold rcl at *
  have i1 : atI [.str w, tI l, tI m, .int k] 0 = some (.str w) := rfl
  refine WF.eq (WF_def (d := d19) rfl rfl ?_)
  rcases hw with rfl | rfl
  · have j : inP [.str "alike", .tup [.str "alike", .str "parted"]] = some (.bl true) := rfl
    simp [d19, c19, init, argS, outsOf, solve, seen, frAt, fzAt, owAt, ownD, putN_eq, putO_eq, putT_nm, putT_tp, putT_tl, putTs, putPar, chg, setD, appD, isOL, wipeP, plainS, wipeS, back, argsOf, argD, avD, lendOk, lendP, pmA, avB, giveBack, pairD, runP, addP, subP, mulP, modP, negP, eqP, neP, eqD_int, eqD_bool, eqD_str, isBo_plain, allP, anyP, sumP, ltP, leP, gtP, geP, isNP, isnNP, lenP, isIP, isTy, tupOfP, min2P, max2P, minP, maxP, absP, intP, idxP, slcP, cut1, cutL, items, rngI, enumI, zipI, szl, Function.comp_def, i1, h, j]
  · have j : inP [.str "parted", .tup [.str "alike", .str "parted"]] = some (.bl true) := rfl
    simp [d19, c19, init, argS, outsOf, solve, seen, frAt, fzAt, owAt, ownD, putN_eq, putO_eq, putT_nm, putT_tp, putT_tl, putTs, putPar, chg, setD, appD, isOL, wipeP, plainS, wipeS, back, argsOf, argD, avD, lendOk, lendP, pmA, avB, giveBack, pairD, runP, addP, subP, mulP, modP, negP, eqP, neP, eqD_int, eqD_bool, eqD_str, isBo_plain, allP, anyP, sumP, ltP, leP, gtP, geP, isNP, isnNP, lenP, isIP, isTy, tupOfP, min2P, max2P, minP, maxP, absP, intP, idxP, slcP, cut1, cutL, items, rngI, enumI, zipI, szl, Function.comp_def, i1, h, j]
theorem certify_none (n : Nat) {l m : List Int} {k : Int} (h : Row l) (h' : Row m) (e : l.length = m.length) (k2 : 2 ≤ k) (k6 : k ≤ 6) (hz : pairsF l m k = []) : callN T (n + 7) 16 [tI l, tI m, .int k] = .ok (.tup [rcl "alike" l m k, .tup []]) [tI l, tI m, .int k] := by
  refine WF.eq (WF_def (d := d16) rfl rfl ?_)
  simp [d16, c16, init, argS, outsOf, solve, seen, frAt, fzAt, owAt, ownD, putN_eq, putO_eq, putT_nm, putT_tp, putT_tl, putTs, putPar, chg, setD, appD, isOL, wipeP, plainS, wipeS, back, argsOf, argD, avD, lendOk, lendP, pmA, avB, giveBack, pairD, runP, addP, subP, mulP, modP, negP, eqP, neP, eqD_int, eqD_bool, eqD_str, isBo_plain, allP, anyP, sumP, ltP, leP, gtP, geP, isNP, isnNP, lenP, isIP, isTy, tupOfP, min2P, max2P, minP, maxP, absP, intP, idxP, slcP, cut1, cutL, items, rngI, enumI, zipI, szl, Function.comp_def, check_question_ok _ h h' e k2 k6, parted_by_none _ h h' e hz, rcl]
theorem certify_some (n : Nat) {l m cs ss : List Int} {k : Int} (h : Row l) (h' : Row m) (e : l.length = m.length) (k2 : 2 ≤ k) (k6 : k ≤ 6) (hp : callN T (n + 6) 15 [tI l, tI m, .int k] = .ok (.tup [tI cs, tI ss]) [tI l, tI m, .int k]) : callN T (n + 7) 16 [tI l, tI m, .int k] = .ok (.tup [rcl "parted" l m k, .tup [tI cs, tI ss]]) [tI l, tI m, .int k] := by
  refine WF.eq (WF_def (d := d16) rfl rfl ?_)
  simp [d16, c16, init, argS, outsOf, solve, seen, frAt, fzAt, owAt, ownD, putN_eq, putO_eq, putT_nm, putT_tp, putT_tl, putTs, putPar, chg, setD, appD, isOL, wipeP, plainS, wipeS, back, argsOf, argD, avD, lendOk, lendP, pmA, avB, giveBack, pairD, runP, addP, subP, mulP, modP, negP, eqP, neP, eqD_int, eqD_bool, eqD_str, isBo_plain, allP, anyP, sumP, ltP, leP, gtP, geP, isNP, isnNP, lenP, isIP, isTy, tupOfP, min2P, max2P, minP, maxP, absP, intP, idxP, slcP, cut1, cutL, items, rngI, enumI, zipI, szl, Function.comp_def, check_question_ok _ h h' e k2 k6, hp, rcl]
theorem nil_repr : reprP [.tup []] = some (.str "()") := by rfl

/-! ### k59 -/
def ToInv (p x : D) (l m : List Int) (k : Int) (w : Str) (td : D) (xs : List D) (s : Slots) : Prop := ∃ z4 : Sl, s = [.bo p, .fr x, .fr (tI m), .fr (.str w), z4, .fr (tI l), .fr (.int k)] ∧ z4.plain = true ∧ ∀ y ∈ xs, y = td
def RtInv (B : Int) (xs : List D) (s : Slots) : Prop := ∃ (p : D) (z1 z2 z3 z4 z5 z6 : Sl), s = [.bo p, z1, z2, z3, z4, z5, z6] ∧ PV (B - 40 * xs.length) p ∧ z1.plain = true ∧ z2.plain = true ∧ z3.plain = true ∧ z4.plain = true ∧ z5.plain = true ∧ z6.plain = true ∧ xs.length ≤ 4
theorem strOk_list {s : Str} {l : List Nat} (h : s.cps.toList = l) (h2 : l.all (fun x => decide (x < 1114112)) = true) : PyData.strOk s = true := by
  unfold PyData.strOk
  rw [← Array.all_toList, h]
  exact h2
theorem rcl_repr {w : Str} {l m : List Int} {k : Int} (h : Row l) (h' : Row m) (k2 : 2 ≤ k) (k6 : k ≤ 6) (hw : PyData.strOk w = true) (hw2 : w.cps.size ≤ 10) : reprP [rcl w l m k] = some (.str (rpT (rcl w l m k))) := by
  have h2 := h.l2
  have h2' := h'.l2
  have i1 := nices_ints (l := l) fun x hx => by have := h.rng x hx; omega
  have i2 := nices_ints (l := m) fun x hx => by have := h'.rng x hx; omega
  have kk : k.natAbs < 10 ^ 47 := by omega
  refine repr_ok ?_ ?_ ?_
  · simp [rcl, nice, nices, i1.1, i2.1, hw]
    omega
  · simp [rcl, bk, bks, i1.2.1, i2.2.1]
    omega
  · simp [rcl, dp, dps, i1.2.2, i2.2.2]
theorem right_ok (n : Nat) {p : D} {Q : D → List D → Prop} (hp : PV 0 p) (hq : ∀ p', PV 200 p' → Q (.bl true) [p']) : WF (callN T (n + 9) 28 [p]) Q := by
  refine WF_def (d := d28) rfl rfl ?_
  simp [d28, c28, init, argS, outsOf, solve, seen, frAt, fzAt, owAt, ownD, putN_eq, putO_eq, putT_nm, putT_tp, putT_tl, putTs, putPar, chg, setD, appD, isOL, wipeP, plainS, wipeS, back, argsOf, argD, avD, lendOk, lendP, pmA, avB, giveBack, pairD, runP, addP, subP, mulP, modP, negP, eqP, neP, eqD_int, eqD_bool, eqD_str, isBo_plain, allP, anyP, sumP, ltP, leP, gtP, geP, isNP, isnNP, lenP, isIP, isTy, tupOfP, min2P, max2P, minP, maxP, absP, intP, idxP, slcP, cut1, cutL, items, rngI, enumI, zipI, szl, Function.comp_def]
  rw [rng_ok (a := 0) (b := 4) (by omega) (by omega) (by omega) (by omega) (by omega)]
  simp [init, argS, outsOf, solve, seen, frAt, fzAt, owAt, ownD, putN_eq, putO_eq, putT_nm, putT_tp, putT_tl, putTs, putPar, chg, setD, appD, isOL, wipeP, plainS, wipeS, back, argsOf, argD, avD, lendOk, lendP, pmA, avB, giveBack, pairD, runP, addP, subP, mulP, modP, negP, eqP, neP, eqD_int, eqD_bool, eqD_str, isBo_plain, allP, anyP, sumP, ltP, leP, gtP, geP, isNP, isnNP, lenP, isIP, isTy, tupOfP, min2P, max2P, minP, maxP, absP, intP, idxP, slcP, cut1, cutL, items, rngI, enumI, zipI, szl, Function.comp_def]
  refine W_forL (RtInv 200) ?_ ?_ _ _ ⟨p, .no, .no, .no, .no, .no, .no, rfl, hp.up (by simp [rg_length]), rfl, rfl, rfl, rfl, rfl, rfl, by simp [rg_length]⟩
  · rintro x xs s ⟨p, z1, z2, z3, z4, z5, z6, rfl, hp, h1, h2, h3, h4, h5, h6, hx⟩
    simp at hp hx
    obtain ⟨B, eB⟩ : ∃ B : Int, 200 - 40 * ((xs.length : Int) + 1) = B := ⟨_, rfl⟩
    rw [eB] at hp
    simp [init, argS, outsOf, solve, seen, frAt, fzAt, owAt, ownD, putN_eq, putO_eq, putT_nm, putT_tp, putT_tl, putTs, putPar, chg, setD, appD, isOL, wipeP, plainS, wipeS, back, argsOf, argD, avD, lendOk, lendP, pmA, avB, giveBack, pairD, runP, addP, subP, mulP, modP, negP, eqP, neP, eqD_int, eqD_bool, eqD_str, isBo_plain, allP, anyP, sumP, ltP, leP, gtP, geP, isNP, isnNP, lenP, isIP, isTy, tupOfP, min2P, max2P, minP, maxP, absP, intP, idxP, slcP, cut1, cutL, items, rngI, enumI, zipI, szl, Function.comp_def, h1]
    refine pull_ok (n + 7) hp (by omega) (by omega) (by omega) fun r1 p1 hp1 a0 a1 => ?_
    simp [init, argS, outsOf, solve, seen, frAt, fzAt, owAt, ownD, putN_eq, putO_eq, putT_nm, putT_tp, putT_tl, putTs, putPar, chg, setD, appD, isOL, wipeP, plainS, wipeS, back, argsOf, argD, avD, lendOk, lendP, pmA, avB, giveBack, pairD, runP, addP, subP, mulP, modP, negP, eqP, neP, eqD_int, eqD_bool, eqD_str, isBo_plain, allP, anyP, sumP, ltP, leP, gtP, geP, isNP, isnNP, lenP, isIP, isTy, tupOfP, min2P, max2P, minP, maxP, absP, intP, idxP, slcP, cut1, cutL, items, rngI, enumI, zipI, szl, Function.comp_def]
    refine pull_ok (n + 7) hp1 (by omega) (by omega) (by omega) fun r2 p2 hp2 b0 b1 => ?_
    simp [init, argS, outsOf, solve, seen, frAt, fzAt, owAt, ownD, putN_eq, putO_eq, putT_nm, putT_tp, putT_tl, putTs, putPar, chg, setD, appD, isOL, wipeP, plainS, wipeS, back, argsOf, argD, avD, lendOk, lendP, pmA, avB, giveBack, pairD, runP, addP, subP, mulP, modP, negP, eqP, neP, eqD_int, eqD_bool, eqD_str, isBo_plain, allP, anyP, sumP, ltP, leP, gtP, geP, isNP, isnNP, lenP, isIP, isTy, tupOfP, min2P, max2P, minP, maxP, absP, intP, idxP, slcP, cut1, cutL, items, rngI, enumI, zipI, szl, Function.comp_def]
    refine ladder_ok (n + 6) hp2 (by omega) (by omega) (by omega) (by omega) (by omega) fun l p3 hp3 hl _ => ?_
    simp [init, argS, outsOf, solve, seen, frAt, fzAt, owAt, ownD, putN_eq, putO_eq, putT_nm, putT_tp, putT_tl, putTs, putPar, chg, setD, appD, isOL, wipeP, plainS, wipeS, back, argsOf, argD, avD, lendOk, lendP, pmA, avB, giveBack, pairD, runP, addP, subP, mulP, modP, negP, eqP, neP, eqD_int, eqD_bool, eqD_str, isBo_plain, allP, anyP, sumP, ltP, leP, gtP, geP, isNP, isnNP, lenP, isIP, isTy, tupOfP, min2P, max2P, minP, maxP, absP, intP, idxP, slcP, cut1, cutL, items, rngI, enumI, zipI, szl, Function.comp_def]
    refine pull_ok (n + 7) hp3 (by omega) (by omega) (by omega) fun r3 p4 hp4 c0 c1 => ?_
    simp [init, argS, outsOf, solve, seen, frAt, fzAt, owAt, ownD, putN_eq, putO_eq, putT_nm, putT_tp, putT_tl, putTs, putPar, chg, setD, appD, isOL, wipeP, plainS, wipeS, back, argsOf, argD, avD, lendOk, lendP, pmA, avB, giveBack, pairD, runP, addP, subP, mulP, modP, negP, eqP, neP, eqD_int, eqD_bool, eqD_str, isBo_plain, allP, anyP, sumP, ltP, leP, gtP, geP, isNP, isnNP, lenP, isIP, isTy, tupOfP, min2P, max2P, minP, maxP, absP, intP, idxP, slcP, cut1, cutL, items, rngI, enumI, zipI, szl, Function.comp_def, h5, h6, h2]
    refine mate_ok (n + 5) hp4 (by omega) hl fun m p5 hp5 hm e => ?_
    have e := e.symm
    have k2 : 2 ≤ 2 + r3 := by omega
    have k6 : 2 + r3 ≤ 6 := by omega
    generalize 2 + r3 = k at *
    have wa := law_alike_ok (n + 7) (k := k) hl hm e
    have hp6 : PV (200 - 40 * (xs.length : Int)) p5 := hp5.up (by omega)
    have j : ∀ (w : Str) (d : D), atI [rcl w l m k, d] 0 = some (rcl w l m k) ∧ atI [rcl w l m k, d] 1 = some d := fun w d => ⟨rfl, rfl⟩
    have ww : ((Str.ofString "parted") == (Str.ofString "alike")) = false := by decide
    have wv : ((Str.ofString "alike") == (Str.ofString "parted")) = false := by decide
    have u : ∀ w : Str, D.tup [.str w, tI l, tI m, .int k] = rcl w l m k := fun w => rfl
    by_cases hz : pairsF l m k = []
    · have wc := certify_none (n + 1) hl hm e k2 k6 hz
      have ac := accepts_of (n + 1) (.inl rfl) (accepts_rules_none (n + 1) hl hm e k2 k6 hz)
      have rp := rcl_repr (w := "alike") hl hm k2 k6 (strOk_list (l := [97, 108, 105, 107, 101]) (by decide) (by decide)) (by decide)
      rw [decide_eq_true hz] at wa
      simp [init, argS, outsOf, solve, seen, frAt, fzAt, owAt, ownD, putN_eq, putO_eq, putT_nm, putT_tp, putT_tl, putTs, putPar, chg, setD, appD, isOL, wipeP, plainS, wipeS, back, argsOf, argD, avD, lendOk, lendP, pmA, avB, giveBack, pairD, runP, addP, subP, mulP, modP, negP, eqP, neP, eqD_int, eqD_bool, eqD_str, isBo_plain, allP, anyP, sumP, ltP, leP, gtP, geP, isNP, isnNP, lenP, isIP, isTy, tupOfP, min2P, max2P, minP, maxP, absP, intP, idxP, slcP, cut1, cutL, items, rngI, enumI, zipI, szl, Function.comp_def, h2, h3, wa, wc]
      refine W_forL (ToInv p5 x l m k "alike" (.tup [rcl "alike" l m k, .tup []])) ?_ ?_ _ _ ⟨z4, rfl, h4, fun y hy => by simpa using hy⟩
      · rintro y ys s ⟨z4, rfl, h4, hy⟩
        have e1 := hy y (List.mem_cons_self ..)
        subst e1
        simp [init, argS, outsOf, solve, seen, frAt, fzAt, owAt, ownD, putN_eq, putO_eq, putT_nm, putT_tp, putT_tl, putTs, putPar, chg, setD, appD, isOL, wipeP, plainS, wipeS, back, argsOf, argD, avD, lendOk, lendP, pmA, avB, giveBack, pairD, runP, addP, subP, mulP, modP, negP, eqP, neP, eqD_int, eqD_bool, eqD_str, isBo_plain, allP, anyP, sumP, ltP, leP, gtP, geP, isNP, isnNP, lenP, isIP, isTy, tupOfP, min2P, max2P, minP, maxP, absP, intP, idxP, slcP, cut1, cutL, items, rngI, enumI, zipI, szl, Function.comp_def, h4, (j "alike" (.tup [])).1, (j "alike" (.tup [])).2, rp, u, nil_repr, wv, ac, isnbP]
        exact ⟨_, rfl, rfl, fun y hy' => hy y (List.mem_cons_of_mem _ hy')⟩
      · rintro s ⟨z4, rfl, h4, hy⟩
        simp [init, argS, outsOf, solve, seen, frAt, fzAt, owAt, ownD, putN_eq, putO_eq, putT_nm, putT_tp, putT_tl, putTs, putPar, chg, setD, appD, isOL, wipeP, plainS, wipeS, back, argsOf, argD, avD, lendOk, lendP, pmA, avB, giveBack, pairD, runP, addP, subP, mulP, modP, negP, eqP, neP, eqD_int, eqD_bool, eqD_str, isBo_plain, allP, anyP, sumP, ltP, leP, gtP, geP, isNP, isnNP, lenP, isIP, isTy, tupOfP, min2P, max2P, minP, maxP, absP, intP, idxP, slcP, cut1, cutL, items, rngI, enumI, zipI, szl, Function.comp_def]
        exact ⟨p5, _, _, _, _, _, _, rfl, hp6, rfl, rfl, rfl, h4, rfl, rfl, by omega⟩
    · obtain ⟨a, b, x0, x1, x2, r, hr2, hP, w5⟩ := parted_by_some (n + 2) (k := k) hl hm e k2 k6 hz
      rw [← List.map_take, ← List.map_take] at w5
      have hA := apart_of hl k2 k6 hr2 e hP
      have w5 : callN T (n + 1 + 6) 15 [tI l, tI m, .int k] = .ok (.tup [tI (csOf k x0 x1 x2), tI (csOf k a (b - 1) r)]) [tI l, tI m, .int k] := w5
      generalize csOf k x0 x1 x2 = cs at *
      generalize csOf k a (b - 1) r = ss at *
      have wc := certify_some (n + 1) hl hm e k2 k6 w5
      have pt := parts_them_ok (n + 6) hl hm e k2 k6 hA
      have ac := accepts_of (n + 1) (.inr rfl) (accepts_rules_some (n + 1) hl hm e k2 k6 hA)
      have rp := rcl_repr (w := "parted") hl hm k2 k6 (strOk_list (l := [112, 97, 114, 116, 101, 100]) (by decide) (by decide)) (by decide)
      rw [decide_eq_false hz] at wa
      generalize D.tup [tI cs, tI ss] = paper at *
      simp [init, argS, outsOf, solve, seen, frAt, fzAt, owAt, ownD, putN_eq, putO_eq, putT_nm, putT_tp, putT_tl, putTs, putPar, chg, setD, appD, isOL, wipeP, plainS, wipeS, back, argsOf, argD, avD, lendOk, lendP, pmA, avB, giveBack, pairD, runP, addP, subP, mulP, modP, negP, eqP, neP, eqD_int, eqD_bool, eqD_str, isBo_plain, allP, anyP, sumP, ltP, leP, gtP, geP, isNP, isnNP, lenP, isIP, isTy, tupOfP, min2P, max2P, minP, maxP, absP, intP, idxP, slcP, cut1, cutL, items, rngI, enumI, zipI, szl, Function.comp_def, h2, h3, wa, wc]
      refine W_forL (ToInv p5 x l m k "parted" (.tup [rcl "parted" l m k, paper])) ?_ ?_ _ _ ⟨z4, rfl, h4, fun y hy => by simpa using hy⟩
      · rintro y ys s ⟨z4, rfl, h4, hy⟩
        have e1 := hy y (List.mem_cons_self ..)
        subst e1
        simp [init, argS, outsOf, solve, seen, frAt, fzAt, owAt, ownD, putN_eq, putO_eq, putT_nm, putT_tp, putT_tl, putTs, putPar, chg, setD, appD, isOL, wipeP, plainS, wipeS, back, argsOf, argD, avD, lendOk, lendP, pmA, avB, giveBack, pairD, runP, addP, subP, mulP, modP, negP, eqP, neP, eqD_int, eqD_bool, eqD_str, isBo_plain, allP, anyP, sumP, ltP, leP, gtP, geP, isNP, isnNP, lenP, isIP, isTy, tupOfP, min2P, max2P, minP, maxP, absP, intP, idxP, slcP, cut1, cutL, items, rngI, enumI, zipI, szl, Function.comp_def, h4, (j "parted" paper).1, (j "parted" paper).2, rp, u, ww, pt, ac, isnbP]
        exact ⟨_, rfl, rfl, fun y hy' => hy y (List.mem_cons_of_mem _ hy')⟩
      · rintro s ⟨z4, rfl, h4, hy⟩
        simp [init, argS, outsOf, solve, seen, frAt, fzAt, owAt, ownD, putN_eq, putO_eq, putT_nm, putT_tp, putT_tl, putTs, putPar, chg, setD, appD, isOL, wipeP, plainS, wipeS, back, argsOf, argD, avD, lendOk, lendP, pmA, avB, giveBack, pairD, runP, addP, subP, mulP, modP, negP, eqP, neP, eqD_int, eqD_bool, eqD_str, isBo_plain, allP, anyP, sumP, ltP, leP, gtP, geP, isNP, isnNP, lenP, isIP, isTy, tupOfP, min2P, max2P, minP, maxP, absP, intP, idxP, slcP, cut1, cutL, items, rngI, enumI, zipI, szl, Function.comp_def]
        exact ⟨p5, _, _, _, _, _, _, rfl, hp6, rfl, rfl, rfl, h4, rfl, rfl, by omega⟩
  · rintro s ⟨p, z1, z2, z3, z4, z5, z6, rfl, hp, h1, h2, h3, h4, h5, h6, hx⟩
    simp [init, argS, outsOf, solve, seen, frAt, fzAt, owAt, ownD, putN_eq, putO_eq, putT_nm, putT_tp, putT_tl, putTs, putPar, chg, setD, appD, isOL, wipeP, plainS, wipeS, back, argsOf, argD, avD, lendOk, lendP, pmA, avB, giveBack, pairD, runP, addP, subP, mulP, modP, negP, eqP, neP, eqD_int, eqD_bool, eqD_str, isBo_plain, allP, anyP, sumP, ltP, leP, gtP, geP, isNP, isnNP, lenP, isIP, isTy, tupOfP, min2P, max2P, minP, maxP, absP, intP, idxP, slcP, cut1, cutL, items, rngI, enumI, zipI, szl, Function.comp_def]
    exact hq p (hp.up (by simp))
theorem plain (ns : List Int) (h : ns.length ≤ 63) (h2 : ∀ z ∈ ns, Builtin.Int.intBits z ≤ 1048576) : ∃ outs, callN T 40 29 [.scr ns] = .ok (.bl true) outs := by
  refine ⟨[.scr ns], WF.eq (WF_def (n := 39) (d := d29) rfl rfl ?_)⟩
  obtain ⟨m, em, m0, m1⟩ : ∃ m : Int, (if 2 < (if 5 < (ns.length : Int) then 5 else (ns.length : Int)) then (if 5 < (ns.length : Int) then 5 else (ns.length : Int)) else 2) = m ∧ 0 ≤ m ∧ m ≤ 5 := ⟨_, rfl, by split <;> split <;> omega, by split <;> split <;> omega⟩
  simp [d29, c29, init, argS, outsOf, solve, seen, frAt, fzAt, owAt, ownD, putN_eq, putO_eq, putT_nm, putT_tp, putT_tl, putTs, putPar, chg, setD, appD, isOL, wipeP, plainS, wipeS, back, argsOf, argD, avD, lendOk, lendP, pmA, avB, giveBack, pairD, runP, addP, subP, mulP, modP, negP, eqP, neP, eqD_int, eqD_bool, eqD_str, isBo_plain, allP, anyP, sumP, ltP, leP, gtP, geP, isNP, isnNP, lenP, isIP, isTy, tupOfP, min2P, max2P, minP, maxP, absP, intP, idxP, slcP, cut1, cutL, items, rngI, enumI, zipI, szl, Function.comp_def]
  rw [em]
  rw [rng_ok (a := 0) (b := m) (by omega) (by omega) (by omega) (by omega) (by omega)]
  simp [init, argS, outsOf, solve, seen, frAt, fzAt, owAt, ownD, putN_eq, putO_eq, putT_nm, putT_tp, putT_tl, putTs, putPar, chg, setD, appD, isOL, wipeP, plainS, wipeS, back, argsOf, argD, avD, lendOk, lendP, pmA, avB, giveBack, pairD, runP, addP, subP, mulP, modP, negP, eqP, neP, eqD_int, eqD_bool, eqD_str, isBo_plain, allP, anyP, sumP, ltP, leP, gtP, geP, isNP, isnNP, lenP, isIP, isTy, tupOfP, min2P, max2P, minP, maxP, absP, intP, idxP, slcP, cut1, cutL, items, rngI, enumI, zipI, szl, Function.comp_def]
  refine W_comp_map (fun _ => .bl true) (fun x hx => ?_) (by simp [szl, rg_length]; omega) ?_
  · obtain ⟨k, hk, rfl⟩ := List.mem_map.mp hx
    have hk := mem_rg.mp hk
    simp [init, argS, outsOf, solve, seen, frAt, fzAt, owAt, ownD, putN_eq, putO_eq, putT_nm, putT_tp, putT_tl, putTs, putPar, chg, setD, appD, isOL, wipeP, plainS, wipeS, back, argsOf, argD, avD, lendOk, lendP, pmA, avB, giveBack, pairD, runP, addP, subP, mulP, modP, negP, eqP, neP, eqD_int, eqD_bool, eqD_str, isBo_plain, allP, anyP, sumP, ltP, leP, gtP, geP, isNP, isnNP, lenP, isIP, isTy, tupOfP, min2P, max2P, minP, maxP, absP, intP, idxP, slcP, cut1, cutL, items, rngI, enumI, zipI, szl, Function.comp_def]
    refine urn_ok 38 (by omega) (by omega) fun p hp => ?_
    simp [init, argS, outsOf, solve, seen, frAt, fzAt, owAt, ownD, putN_eq, putO_eq, putT_nm, putT_tp, putT_tl, putTs, putPar, chg, setD, appD, isOL, wipeP, plainS, wipeS, back, argsOf, argD, avD, lendOk, lendP, pmA, avB, giveBack, pairD, runP, addP, subP, mulP, modP, negP, eqP, neP, eqD_int, eqD_bool, eqD_str, isBo_plain, allP, anyP, sumP, ltP, leP, gtP, geP, isNP, isnNP, lenP, isIP, isTy, tupOfP, min2P, max2P, minP, maxP, absP, intP, idxP, slcP, cut1, cutL, items, rngI, enumI, zipI, szl, Function.comp_def]
    refine right_ok 30 hp fun p' hp' => ?_
    simp [init, argS, outsOf, solve, seen, frAt, fzAt, owAt, ownD, putN_eq, putO_eq, putT_nm, putT_tp, putT_tl, putTs, putPar, chg, setD, appD, isOL, wipeP, plainS, wipeS, back, argsOf, argD, avD, lendOk, lendP, pmA, avB, giveBack, pairD, runP, addP, subP, mulP, modP, negP, eqP, neP, eqD_int, eqD_bool, eqD_str, isBo_plain, allP, anyP, sumP, ltP, leP, gtP, geP, isNP, isnNP, lenP, isIP, isTy, tupOfP, min2P, max2P, minP, maxP, absP, intP, idxP, slcP, cut1, cutL, items, rngI, enumI, zipI, szl, Function.comp_def]
  · simp [init, argS, outsOf, solve, seen, frAt, fzAt, owAt, ownD, putN_eq, putO_eq, putT_nm, putT_tp, putT_tl, putTs, putPar, chg, setD, appD, isOL, wipeP, plainS, wipeS, back, argsOf, argD, avD, lendOk, lendP, pmA, avB, giveBack, pairD, runP, addP, subP, mulP, modP, negP, eqP, neP, eqD_int, eqD_bool, eqD_str, isBo_plain, allP, anyP, sumP, ltP, leP, gtP, geP, isNP, isnNP, lenP, isIP, isTy, tupOfP, min2P, max2P, minP, maxP, absP, intP, idxP, slcP, cut1, cutL, items, rngI, enumI, zipI, szl, Function.comp_def]


end DL.Pl
set_option Elab.async false
set_option linter.all false
set_option maxRecDepth 100000
set_option maxHeartbeats 4000000
set_option exponentiation.threshold 5000
namespace DL
open PySem L2 PyProof.Rows
def N0 : List Str := [("value" : Str)]
def N1 : List Str := [("value" : Str), ("least" : Str), ("greatest" : Str)]
def N2 : List Str := [("value" : Str), ("many" : Str)]
def N3 : List Str := [("one" : Str), ("other" : Str)]
def N4 : List Str := [("top" : Str), ("bottom" : Str), ("shared" : Str)]
def N5 : List Str := [("one" : Str), ("other" : Str)]
def N6 : List Str := [("value" : Str), ("each" : Str), ("one" : Str), ("other" : Str)]
def N7 : List Str := [("value" : Str)]
def N8 : List Str := [("divisors" : Str), ("counts" : Str), ("table" : Str), ("low" : Str), ("high" : Str), ("count" : Str), ("seats" : Str), ("each" : Str)]
def N9 : List Str := [("one" : Str), ("other" : Str)]
def N10 : List Str := [("one" : Str), ("other" : Str), ("many" : Str)]
def N11 : List Str := [("divisors" : Str), ("a" : Str), ("b" : Str)]
def N12 : List Str := [("one" : Str), ("other" : Str), ("many" : Str), ("seats" : Str), ("found" : Str), ("a" : Str), ("b" : Str)]
def N13 : List Str := [("low" : Str), ("high" : Str)]
def N14 : List Str := [("one" : Str), ("other" : Str), ("many" : Str), ("pair" : Str), ("a" : Str), ("b" : Str), ("low" : Str), ("second" : Str), ("rest" : Str), ("third" : Str), ("whole" : Str), ("counts" : Str)]
def N15 : List Str := [("one" : Str), ("other" : Str), ("many" : Str), ("pairs" : Str)]
def N16 : List Str := [("one" : Str), ("other" : Str), ("many" : Str), ("found" : Str)]
def N17 : List Str := [("value" : Str), ("many" : Str), ("count" : Str)]
def N18 : List Str := [("claim" : Str), ("certificate" : Str), ("part" : Str), ("told" : Str), ("divisors" : Str)]
def N19 : List Str := [("claim" : Str), ("certificate" : Str)]
def N20 : List Str := [("_law_script" : Str), ("_law_turn" : Str), ("_law_blend" : Str), ("_law_cell" : Str), ("_law_own" : Str), ("_law_long_own" : Str)]
def N21 : List Str := [("_law_urn_here" : Str), ("_law_wide" : Str), ("_law_figure" : Str), ("_law_turns" : Str)]
def N22 : List Str := [("_law_ladder_here" : Str), ("_law_tallies" : Str), ("_law_split" : Str), ("_law_i" : Str), ("_law_won" : Str), ("_law_j" : Str), ("_law_got" : Str), ("_law_mine" : Str), ("_law_yours" : Str)]
def N23 : List Str := [("_law_value" : Str)]
def N24 : List Str := [("_law_urn_here" : Str), ("_law_chairs" : Str), ("_law_step" : Str), ("_law_found" : Str), ("_law_turn" : Str)]
def N25 : List Str := [("_law_urn_here" : Str), ("_law_ladder_here" : Str), ("_law_way" : Str), ("_law_by" : Str), ("_law_row" : Str), ("_law_each" : Str), ("_law_at" : Str)]
def N26 : List Str := [("_law_first" : Str), ("_law_last" : Str), ("_law_clubs" : Str), ("_law_chairs" : Str), ("_law_a" : Str), ("_law_b" : Str), ("_law_near" : Str)]
def N27 : List Str := [("_law_first" : Str), ("_law_last" : Str), ("_law_clubs" : Str), ("_law_paper" : Str), ("_law_row" : Str), ("_law_each" : Str)]
def N28 : List Str := [("_law_urn_here" : Str), ("_law_turn" : Str), ("_law_last" : Str), ("_law_word" : Str), ("_law_told" : Str), ("_law_first" : Str), ("_law_clubs" : Str)]
def N29 : List Str := [("_law_script" : Str), ("_law_turn" : Str)]
def gGlb0 : List (Str × Nat) := [(("MOST_SEATS" : Str), 0), (("MOST_DIVISOR" : Str), 1), (("MOST_PARTIES" : Str), 2), (("MOST_PILES" : Str), 3), (("MOST_COUNT" : Str), 4), (("LETTERS" : Str), 5), (("DIGITS" : Str), 6), (("LONGEST_NAME" : Str), 7)]
def gGlb1 : List (Str × Nat) := [(("LONGEST_NUMBER" : Str), 8), (("ZERO" : Str), 9)]
def gGlb : List (Str × Nat) := gGlb0 ++ gGlb1
def gFns0 : List (Str × Nat) := [(("is_whole" : Str), 0), (("is_integer" : Str), 1), (("is_tuple_of" : Str), 2), (("common" : Str), 3), (("lowest" : Str), 4), (("is_above" : Str), 5), (("are_divisors" : Str), 6), (("check_divisors" : Str), 7)]
def gFns1 : List (Str × Nat) := [(("price_range" : Str), 8), (("check_rows" : Str), 9), (("check_question" : Str), 10), (("quotient" : Str), 11), (("pairs_for" : Str), 12), (("middle" : Str), 13), (("counts_for" : Str), 14), (("parted_by" : Str), 15)]
def gFns2 : List (Str × Nat) := [(("certify_rules" : Str), 16), (("are_counts" : Str), 17), (("accepts_rules" : Str), 18), (("accepts" : Str), 19), (("_law_urn" : Str), 20), (("_law_pull" : Str), 21), (("_law_fits" : Str), 22), (("_law_from" : Str), 23)]
def gFns3 : List (Str × Nat) := [(("_law_ladder" : Str), 24), (("_law_mate" : Str), 25), (("_law_are_alike" : Str), 26), (("_law_parts_them" : Str), 27), (("_law_right" : Str), 28), (("law" : Str), 29)]
def gFns : List (Str × Nat) := gFns0 ++ gFns1 ++ gFns2 ++ gFns3
def gShp0 : List (Nat × Nat × List Str × List PM) := [(29, 1, [], [.a 0]), (0, 1, [], [.a 0]), (3, 2, [], [.a 0, .a 1]), (1, 3, [], [.a 0, .a 1, .a 2]), (6, 1, [], [.a 0]), (5, 2, [], [.a 0, .a 1])]
def gShp1 : List (Nat × Nat × List Str × List PM) := [(4, 2, [], [.a 0, .a 1]), (7, 1, [], [.a 0]), (9, 2, [], [.a 0, .a 1]), (11, 3, [], [.a 0, .a 1, .a 2]), (13, 2, [], [.a 0, .a 1]), (14, 4, [], [.a 0, .a 1, .a 2, .a 3])]
def gShp2 : List (Nat × Nat × List Str × List PM) := [(12, 3, [], [.a 0, .a 1, .a 2]), (15, 3, [], [.a 0, .a 1, .a 2]), (10, 3, [], [.a 0, .a 1, .a 2]), (2, 2, [], [.a 0, .a 1]), (8, 3, [], [.a 0, .a 1, .a 2]), (17, 2, [], [.a 0, .a 1])]
def gShp3 : List (Nat × Nat × List Str × List PM) := [(18, 2, [], [.a 0, .a 1]), (21, 2, [], [.a 0, .a 1]), (24, 3, [], [.a 0, .a 1, .a 2]), (22, 3, [], [.a 0, .a 1, .a 2]), (23, 1, [], [.a 0]), (16, 0, [("many" : Str), ("other" : Str), ("one" : Str)], [.a 2, .a 1, .a 0])]
def gShp4 : List (Nat × Nat × List Str × List PM) := [(16, 3, [], [.a 0, .a 1, .a 2]), (19, 2, [], [.a 0, .a 1]), (27, 4, [], [.a 0, .a 1, .a 2, .a 3]), (26, 3, [], [.a 0, .a 1, .a 2]), (25, 2, [], [.a 0, .a 1]), (28, 1, [], [.a 0])]
def gShp5 : List (Nat × Nat × List Str × List PM) := [(20, 2, [], [.a 0, .a 1])]
def gShp : List (Nat × Nat × List Str × List PM) := gShp0 ++ gShp1 ++ gShp2 ++ gShp3 ++ gShp4 ++ gShp5
def gBlt0 : List Str := [("abs" : Str), ("all" : Str), ("bool" : Str), ("enumerate" : Str), ("int" : Str), ("isinstance" : Str), ("len" : Str), ("max" : Str)]
def gBlt1 : List Str := [("min" : Str), ("range" : Str), ("repr" : Str), ("str" : Str), ("sum" : Str), ("tuple" : Str), ("zip" : Str)]
def gBlt : List Str := gBlt0 ++ gBlt1
def gCls : List (Str × Nat) := [(("Night" : Str), 0)]
def gCfs : List (Nat × List Str) := [(0, [("held_divisors" : Str), ("held_parties" : Str), ("held_piles" : Str)])]
def gMth : List ((Nat × Str) × Nat) := []
def gPrp : List ((Nat × Str) × Nat) := []
def gCmt : List ((Nat × Str) × Nat) := []
def gIni : List (Str × Nat × Nat) := []
def ge : GE := ⟨gGlb, gFns, [20], gCls, gCfs, gShp, gBlt, gMth, gPrp, gIni, gCmt⟩
abbrev prg : Program := PySem.Challenge.pw_restballots_k59_whole_rules_certified
noncomputable def t0 : PySem.DefRec := HandSHeadRun.topDef prg 20
noncomputable def D0 : He.DefD := ⟨(("" : Str), none), ("is_whole" : Str), ("is_whole" : Str), t0.params, t0.body, t0.scope, [], []⟩
noncomputable def e0 : Ent := ⟨.glo ("is_whole" : Str), 0, D0, N0, [("value" : Str)], d0⟩
noncomputable def t1 : PySem.DefRec := HandSHeadRun.topDef prg 21
noncomputable def D1 : He.DefD := ⟨(("" : Str), none), ("is_integer" : Str), ("is_integer" : Str), t1.params, t1.body, t1.scope, [], []⟩
noncomputable def e1 : Ent := ⟨.glo ("is_integer" : Str), 1, D1, N1, [("value" : Str), ("least" : Str), ("greatest" : Str)], d1⟩
noncomputable def t2 : PySem.DefRec := HandSHeadRun.topDef prg 23
noncomputable def D2 : He.DefD := ⟨(("" : Str), none), ("is_tuple_of" : Str), ("is_tuple_of" : Str), t2.params, t2.body, t2.scope, [], []⟩
noncomputable def e2 : Ent := ⟨.glo ("is_tuple_of" : Str), 2, D2, N2, [("value" : Str), ("many" : Str)], d2⟩
noncomputable def t3 : PySem.DefRec := HandSHeadRun.topDef prg 25
noncomputable def D3 : He.DefD := ⟨(("" : Str), none), ("common" : Str), ("common" : Str), t3.params, t3.body, t3.scope, [], []⟩
noncomputable def e3 : Ent := ⟨.glo ("common" : Str), 3, D3, N3, [("one" : Str), ("other" : Str)], d3⟩
noncomputable def t4 : PySem.DefRec := HandSHeadRun.topDef prg 26
noncomputable def D4 : He.DefD := ⟨(("" : Str), none), ("lowest" : Str), ("lowest" : Str), t4.params, t4.body, t4.scope, [], []⟩
noncomputable def e4 : Ent := ⟨.glo ("lowest" : Str), 4, D4, N4, [("top" : Str), ("bottom" : Str)], d4⟩
noncomputable def t5 : PySem.DefRec := HandSHeadRun.topDef prg 28
noncomputable def D5 : He.DefD := ⟨(("" : Str), none), ("is_above" : Str), ("is_above" : Str), t5.params, t5.body, t5.scope, [], []⟩
noncomputable def e5 : Ent := ⟨.glo ("is_above" : Str), 5, D5, N5, [("one" : Str), ("other" : Str)], d5⟩
noncomputable def t6 : PySem.DefRec := HandSHeadRun.topDef prg 31
noncomputable def D6 : He.DefD := ⟨(("" : Str), none), ("are_divisors" : Str), ("are_divisors" : Str), t6.params, t6.body, t6.scope, [], []⟩
noncomputable def e6 : Ent := ⟨.glo ("are_divisors" : Str), 6, D6, N6, [("value" : Str)], d6⟩
noncomputable def t7 : PySem.DefRec := HandSHeadRun.topDef prg 32
noncomputable def D7 : He.DefD := ⟨(("" : Str), none), ("check_divisors" : Str), ("check_divisors" : Str), t7.params, t7.body, t7.scope, [], []⟩
noncomputable def e7 : Ent := ⟨.glo ("check_divisors" : Str), 7, D7, N7, [("value" : Str)], d7⟩
noncomputable def t8 : PySem.DefRec := HandSHeadRun.topDef prg 43
noncomputable def D8 : He.DefD := ⟨(("" : Str), none), ("price_range" : Str), ("price_range" : Str), t8.params, t8.body, t8.scope, [], []⟩
noncomputable def e8 : Ent := ⟨.glo ("price_range" : Str), 8, D8, N8, [("divisors" : Str), ("counts" : Str), ("table" : Str)], d8⟩
noncomputable def t9 : PySem.DefRec := HandSHeadRun.topDef prg 56
noncomputable def D9 : He.DefD := ⟨(("" : Str), none), ("check_rows" : Str), ("check_rows" : Str), t9.params, t9.body, t9.scope, [], []⟩
noncomputable def e9 : Ent := ⟨.glo ("check_rows" : Str), 9, D9, N9, [("one" : Str), ("other" : Str)], d9⟩
noncomputable def t10 : PySem.DefRec := HandSHeadRun.topDef prg 57
noncomputable def D10 : He.DefD := ⟨(("" : Str), none), ("check_question" : Str), ("check_question" : Str), t10.params, t10.body, t10.scope, [], []⟩
noncomputable def e10 : Ent := ⟨.glo ("check_question" : Str), 10, D10, N10, [("one" : Str), ("other" : Str), ("many" : Str)], d10⟩
noncomputable def t11 : PySem.DefRec := HandSHeadRun.topDef prg 58
noncomputable def D11 : He.DefD := ⟨(("" : Str), none), ("quotient" : Str), ("quotient" : Str), t11.params, t11.body, t11.scope, [], []⟩
noncomputable def e11 : Ent := ⟨.glo ("quotient" : Str), 11, D11, N11, [("divisors" : Str), ("a" : Str), ("b" : Str)], d11⟩
noncomputable def t12 : PySem.DefRec := HandSHeadRun.topDef prg 59
noncomputable def D12 : He.DefD := ⟨(("" : Str), none), ("pairs_for" : Str), ("pairs_for" : Str), t12.params, t12.body, t12.scope, [], []⟩
noncomputable def e12 : Ent := ⟨.glo ("pairs_for" : Str), 12, D12, N12, [("one" : Str), ("other" : Str), ("many" : Str)], d12⟩
noncomputable def t13 : PySem.DefRec := HandSHeadRun.topDef prg 60
noncomputable def D13 : He.DefD := ⟨(("" : Str), none), ("middle" : Str), ("middle" : Str), t13.params, t13.body, t13.scope, [], []⟩
noncomputable def e13 : Ent := ⟨.glo ("middle" : Str), 13, D13, N13, [("low" : Str), ("high" : Str)], d13⟩
noncomputable def t14 : PySem.DefRec := HandSHeadRun.topDef prg 61
noncomputable def D14 : He.DefD := ⟨(("" : Str), none), ("counts_for" : Str), ("counts_for" : Str), t14.params, t14.body, t14.scope, [], []⟩
noncomputable def e14 : Ent := ⟨.glo ("counts_for" : Str), 14, D14, N14, [("one" : Str), ("other" : Str), ("many" : Str), ("pair" : Str)], d14⟩
noncomputable def t15 : PySem.DefRec := HandSHeadRun.topDef prg 62
noncomputable def D15 : He.DefD := ⟨(("" : Str), none), ("parted_by" : Str), ("parted_by" : Str), t15.params, t15.body, t15.scope, [], []⟩
noncomputable def e15 : Ent := ⟨.glo ("parted_by" : Str), 15, D15, N15, [("one" : Str), ("other" : Str), ("many" : Str)], d15⟩
noncomputable def t16 : PySem.DefRec := HandSHeadRun.topDef prg 64
noncomputable def D16 : He.DefD := ⟨(("" : Str), none), ("certify_rules" : Str), ("certify_rules" : Str), t16.params, t16.body, t16.scope, [], []⟩
noncomputable def e16 : Ent := ⟨.glo ("certify_rules" : Str), 16, D16, N16, [("one" : Str), ("other" : Str), ("many" : Str)], d16⟩
noncomputable def t17 : PySem.DefRec := HandSHeadRun.topDef prg 76
noncomputable def D17 : He.DefD := ⟨(("" : Str), none), ("are_counts" : Str), ("are_counts" : Str), t17.params, t17.body, t17.scope, [], []⟩
noncomputable def e17 : Ent := ⟨.glo ("are_counts" : Str), 17, D17, N17, [("value" : Str), ("many" : Str)], d17⟩
noncomputable def t18 : PySem.DefRec := HandSHeadRun.topDef prg 77
noncomputable def D18 : He.DefD := ⟨(("" : Str), none), ("accepts_rules" : Str), ("accepts_rules" : Str), t18.params, t18.body, t18.scope, [], []⟩
noncomputable def e18 : Ent := ⟨.glo ("accepts_rules" : Str), 18, D18, N18, [("claim" : Str), ("certificate" : Str)], d18⟩
noncomputable def t19 : PySem.DefRec := HandSHeadRun.topDef prg 78
noncomputable def D19 : He.DefD := ⟨(("" : Str), none), ("accepts" : Str), ("accepts" : Str), t19.params, t19.body, t19.scope, [], []⟩
noncomputable def e19 : Ent := ⟨.glo ("accepts" : Str), 19, D19, N19, [("claim" : Str), ("certificate" : Str)], d19⟩
noncomputable def t20 : PySem.DefRec := HandSHeadRun.topDef prg 80
noncomputable def D20 : He.DefD := ⟨(("" : Str), none), ("_law_urn" : Str), ("_law_urn" : Str), t20.params, t20.body, t20.scope, [], []⟩
noncomputable def e20 : Ent := ⟨.glo ("_law_urn" : Str), 20, D20, N20, [("_law_script" : Str), ("_law_turn" : Str)], d20⟩
noncomputable def t21 : PySem.DefRec := HandSHeadRun.topDef prg 81
noncomputable def D21 : He.DefD := ⟨(("" : Str), none), ("_law_pull" : Str), ("_law_pull" : Str), t21.params, t21.body, t21.scope, [], []⟩
noncomputable def e21 : Ent := ⟨.glo ("_law_pull" : Str), 21, D21, N21, [("_law_urn_here" : Str), ("_law_wide" : Str)], d21⟩
noncomputable def t22 : PySem.DefRec := HandSHeadRun.topDef prg 82
noncomputable def D22 : He.DefD := ⟨(("" : Str), none), ("_law_fits" : Str), ("_law_fits" : Str), t22.params, t22.body, t22.scope, [], []⟩
noncomputable def e22 : Ent := ⟨.glo ("_law_fits" : Str), 22, D22, N22, [("_law_ladder_here" : Str), ("_law_tallies" : Str), ("_law_split" : Str)], d22⟩
noncomputable def t23 : PySem.DefRec := HandSHeadRun.topDef prg 83
noncomputable def D23 : He.DefD := ⟨(("" : Str), none), ("_law_from" : Str), ("_law_from" : Str), t23.params, t23.body, t23.scope, [], []⟩
noncomputable def e23 : Ent := ⟨.glo ("_law_from" : Str), 23, D23, N23, [("_law_value" : Str)], d23⟩
noncomputable def t24 : PySem.DefRec := HandSHeadRun.topDef prg 84
noncomputable def D24 : He.DefD := ⟨(("" : Str), none), ("_law_ladder" : Str), ("_law_ladder" : Str), t24.params, t24.body, t24.scope, [], []⟩
noncomputable def e24 : Ent := ⟨.glo ("_law_ladder" : Str), 24, D24, N24, [("_law_urn_here" : Str), ("_law_chairs" : Str), ("_law_step" : Str)], d24⟩
noncomputable def t25 : PySem.DefRec := HandSHeadRun.topDef prg 85
noncomputable def D25 : He.DefD := ⟨(("" : Str), none), ("_law_mate" : Str), ("_law_mate" : Str), t25.params, t25.body, t25.scope, [], []⟩
noncomputable def e25 : Ent := ⟨.glo ("_law_mate" : Str), 25, D25, N25, [("_law_urn_here" : Str), ("_law_ladder_here" : Str)], d25⟩
noncomputable def t26 : PySem.DefRec := HandSHeadRun.topDef prg 86
noncomputable def D26 : He.DefD := ⟨(("" : Str), none), ("_law_are_alike" : Str), ("_law_are_alike" : Str), t26.params, t26.body, t26.scope, [], []⟩
noncomputable def e26 : Ent := ⟨.glo ("_law_are_alike" : Str), 26, D26, N26, [("_law_first" : Str), ("_law_last" : Str), ("_law_clubs" : Str)], d26⟩
noncomputable def t27 : PySem.DefRec := HandSHeadRun.topDef prg 87
noncomputable def D27 : He.DefD := ⟨(("" : Str), none), ("_law_parts_them" : Str), ("_law_parts_them" : Str), t27.params, t27.body, t27.scope, [], []⟩
noncomputable def e27 : Ent := ⟨.glo ("_law_parts_them" : Str), 27, D27, N27, [("_law_first" : Str), ("_law_last" : Str), ("_law_clubs" : Str), ("_law_paper" : Str)], d27⟩
noncomputable def t28 : PySem.DefRec := HandSHeadRun.topDef prg 88
noncomputable def D28 : He.DefD := ⟨(("" : Str), none), ("_law_right" : Str), ("_law_right" : Str), t28.params, t28.body, t28.scope, [], []⟩
noncomputable def e28 : Ent := ⟨.glo ("_law_right" : Str), 28, D28, N28, [("_law_urn_here" : Str)], d28⟩
noncomputable def t29 : PySem.DefRec := HandSHeadRun.topDef prg 89
noncomputable def D29 : He.DefD := ⟨(("" : Str), none), ("law" : Str), ("law" : Str), t29.params, t29.body, t29.scope, [], []⟩
noncomputable def e29 : Ent := ⟨.glo ("law" : Str), 29, D29, N29, [("_law_script" : Str)], d29⟩
noncomputable def es0 : List Ent := [e0, e1, e2, e3, e4, e5, e6, e7, e8, e9, e10, e11, e12, e13, e14, e15, e16, e17, e18, e19, e20, e21, e22, e23, e24, e25, e26, e27, e28, e29]
theorem me0 : e0 ∈ es0 := List.mem_of_getElem? (i := 0) rfl
theorem me1 : e1 ∈ es0 := List.mem_of_getElem? (i := 1) rfl
theorem me2 : e2 ∈ es0 := List.mem_of_getElem? (i := 2) rfl
theorem me3 : e3 ∈ es0 := List.mem_of_getElem? (i := 3) rfl
theorem me4 : e4 ∈ es0 := List.mem_of_getElem? (i := 4) rfl
theorem me5 : e5 ∈ es0 := List.mem_of_getElem? (i := 5) rfl
theorem me6 : e6 ∈ es0 := List.mem_of_getElem? (i := 6) rfl
theorem me7 : e7 ∈ es0 := List.mem_of_getElem? (i := 7) rfl
theorem me8 : e8 ∈ es0 := List.mem_of_getElem? (i := 8) rfl
theorem me9 : e9 ∈ es0 := List.mem_of_getElem? (i := 9) rfl
theorem me10 : e10 ∈ es0 := List.mem_of_getElem? (i := 10) rfl
theorem me11 : e11 ∈ es0 := List.mem_of_getElem? (i := 11) rfl
theorem me12 : e12 ∈ es0 := List.mem_of_getElem? (i := 12) rfl
theorem me13 : e13 ∈ es0 := List.mem_of_getElem? (i := 13) rfl
theorem me14 : e14 ∈ es0 := List.mem_of_getElem? (i := 14) rfl
theorem me15 : e15 ∈ es0 := List.mem_of_getElem? (i := 15) rfl
theorem me16 : e16 ∈ es0 := List.mem_of_getElem? (i := 16) rfl
theorem me17 : e17 ∈ es0 := List.mem_of_getElem? (i := 17) rfl
theorem me18 : e18 ∈ es0 := List.mem_of_getElem? (i := 18) rfl
theorem me19 : e19 ∈ es0 := List.mem_of_getElem? (i := 19) rfl
theorem me20 : e20 ∈ es0 := List.mem_of_getElem? (i := 20) rfl
theorem me21 : e21 ∈ es0 := List.mem_of_getElem? (i := 21) rfl
theorem me22 : e22 ∈ es0 := List.mem_of_getElem? (i := 22) rfl
theorem me23 : e23 ∈ es0 := List.mem_of_getElem? (i := 23) rfl
theorem me24 : e24 ∈ es0 := List.mem_of_getElem? (i := 24) rfl
theorem me25 : e25 ∈ es0 := List.mem_of_getElem? (i := 25) rfl
theorem me26 : e26 ∈ es0 := List.mem_of_getElem? (i := 26) rfl
theorem me27 : e27 ∈ es0 := List.mem_of_getElem? (i := 27) rfl
theorem me28 : e28 ∈ es0 := List.mem_of_getElem? (i := 28) rfl
theorem me29 : e29 ∈ es0 := List.mem_of_getElem? (i := 29) rfl
def cl0 : Cs := ⟨("Night" : Str), [("held_divisors" : Str), ("held_parties" : Str), ("held_piles" : Str)], [], [], []⟩
def cl0s : List Cs := [cl0]
def gl0 : List (Str × D) := [(("MOST_SEATS" : Str), (.int 12)), (("MOST_DIVISOR" : Str), (.int 100)), (("MOST_PARTIES" : Str), (.int 6)), (("MOST_PILES" : Str), (.int 6)), (("MOST_COUNT" : Str), (.int 1000000)), (("LETTERS" : Str), (.str "abcdefghijklmnopqrstuvwxyz")), (("DIGITS" : Str), (.str "0123456789")), (("LONGEST_NAME" : Str), (.int 8)), (("LONGEST_NUMBER" : Str), (.int 8)), (("ZERO" : Str), (.tup [(.int 0), (.int 1)]))]
noncomputable def txt : Txt0 := ⟨cl0s, gl0, gBlt, es0, []⟩
theorem ck0 : chkB ge ⟨N0, t0.scope, none⟩ d0.sg.fresh d0.body t0.body = true := by decide +kernel
theorem sc0 : scopeB N0 e0.ps t0.scope = true := by decide +kernel
def sh0 : List (Nat × List Str × List PM) := [(1, [], [.a 0])]
theorem shm0 : ∀ s ∈ gShp, s.1 = 0 → s.2 ∈ sh0 := by decide +kernel
theorem b0_0 (kV doc pn : Value) (an : Option Addr) (cdv ct : Value) (us ws : List Value) (h1 : us.length = 1) (h2 : ws.length = ([] : List Str).length) : bindArgs (PySem.W.fnOf D0.name D0.qual D0.params D0.body D0.scope .none kV doc pn an cdv ct) ⟨us, ([] : List Str).zip ws⟩ = pure (e0.ps.zip (gp (us ++ ws) [] [.a 0])) := by
  match us, h1, ws, h2 with
  | [u0], _, [], _ => kernel_rfl
theorem fd0 (K : PySem.W.Frag) (F : ∃ fd, FunD K e0.d.name e0.d.qual e0.d.params e0.d.body e0.d.scope (e0.d.dvs K) (e0.d.kws K) (e0.ad.at_ K) fd) : ∃ fd, FunD K e0.d.name e0.d.qual e0.d.params e0.d.body e0.d.scope (e0.d.dvs K) (e0.d.kws K) (e0.ad.at_ K) fd ∧ ∀ (n : Nat) (ks : List Str) (pm : List PM), (e0.f, n, ks, pm) ∈ ge.shp → Shp K fd e0.ps n ks pm (e0.d.dvs K) := by
  obtain ⟨fd, F⟩ := F
  refine ⟨fd, F, fun n ks pm h => ?_⟩
  have h2 := shm0 _ h rfl
  simp only [sh0, List.mem_cons, List.not_mem_nil, or_false, Prod.mk.injEq] at h2
  obtain ⟨rfl, rfl, rfl⟩ := h2
  exact shp_of F b0_0
theorem ck1 : chkB ge ⟨N1, t1.scope, none⟩ d1.sg.fresh d1.body t1.body = true := by decide +kernel
theorem sc1 : scopeB N1 e1.ps t1.scope = true := by decide +kernel
def sh1 : List (Nat × List Str × List PM) := [(3, [], [.a 0, .a 1, .a 2])]
theorem shm1 : ∀ s ∈ gShp, s.1 = 1 → s.2 ∈ sh1 := by decide +kernel
theorem b1_0 (kV doc pn : Value) (an : Option Addr) (cdv ct : Value) (us ws : List Value) (h1 : us.length = 3) (h2 : ws.length = ([] : List Str).length) : bindArgs (PySem.W.fnOf D1.name D1.qual D1.params D1.body D1.scope .none kV doc pn an cdv ct) ⟨us, ([] : List Str).zip ws⟩ = pure (e1.ps.zip (gp (us ++ ws) [] [.a 0, .a 1, .a 2])) := by
  match us, h1, ws, h2 with
  | [u0, u1, u2], _, [], _ => kernel_rfl
theorem fd1 (K : PySem.W.Frag) (F : ∃ fd, FunD K e1.d.name e1.d.qual e1.d.params e1.d.body e1.d.scope (e1.d.dvs K) (e1.d.kws K) (e1.ad.at_ K) fd) : ∃ fd, FunD K e1.d.name e1.d.qual e1.d.params e1.d.body e1.d.scope (e1.d.dvs K) (e1.d.kws K) (e1.ad.at_ K) fd ∧ ∀ (n : Nat) (ks : List Str) (pm : List PM), (e1.f, n, ks, pm) ∈ ge.shp → Shp K fd e1.ps n ks pm (e1.d.dvs K) := by
  obtain ⟨fd, F⟩ := F
  refine ⟨fd, F, fun n ks pm h => ?_⟩
  have h2 := shm1 _ h rfl
  simp only [sh1, List.mem_cons, List.not_mem_nil, or_false, Prod.mk.injEq] at h2
  obtain ⟨rfl, rfl, rfl⟩ := h2
  exact shp_of F b1_0
theorem ck2 : chkB ge ⟨N2, t2.scope, none⟩ d2.sg.fresh d2.body t2.body = true := by decide +kernel
theorem sc2 : scopeB N2 e2.ps t2.scope = true := by decide +kernel
def sh2 : List (Nat × List Str × List PM) := [(2, [], [.a 0, .a 1])]
theorem shm2 : ∀ s ∈ gShp, s.1 = 2 → s.2 ∈ sh2 := by decide +kernel
theorem b2_0 (kV doc pn : Value) (an : Option Addr) (cdv ct : Value) (us ws : List Value) (h1 : us.length = 2) (h2 : ws.length = ([] : List Str).length) : bindArgs (PySem.W.fnOf D2.name D2.qual D2.params D2.body D2.scope .none kV doc pn an cdv ct) ⟨us, ([] : List Str).zip ws⟩ = pure (e2.ps.zip (gp (us ++ ws) [] [.a 0, .a 1])) := by
  match us, h1, ws, h2 with
  | [u0, u1], _, [], _ => kernel_rfl
theorem fd2 (K : PySem.W.Frag) (F : ∃ fd, FunD K e2.d.name e2.d.qual e2.d.params e2.d.body e2.d.scope (e2.d.dvs K) (e2.d.kws K) (e2.ad.at_ K) fd) : ∃ fd, FunD K e2.d.name e2.d.qual e2.d.params e2.d.body e2.d.scope (e2.d.dvs K) (e2.d.kws K) (e2.ad.at_ K) fd ∧ ∀ (n : Nat) (ks : List Str) (pm : List PM), (e2.f, n, ks, pm) ∈ ge.shp → Shp K fd e2.ps n ks pm (e2.d.dvs K) := by
  obtain ⟨fd, F⟩ := F
  refine ⟨fd, F, fun n ks pm h => ?_⟩
  have h2 := shm2 _ h rfl
  simp only [sh2, List.mem_cons, List.not_mem_nil, or_false, Prod.mk.injEq] at h2
  obtain ⟨rfl, rfl, rfl⟩ := h2
  exact shp_of F b2_0
theorem ck3 : chkB ge ⟨N3, t3.scope, none⟩ d3.sg.fresh d3.body t3.body = true := by decide +kernel
theorem sc3 : scopeB N3 e3.ps t3.scope = true := by decide +kernel
def sh3 : List (Nat × List Str × List PM) := [(2, [], [.a 0, .a 1])]
theorem shm3 : ∀ s ∈ gShp, s.1 = 3 → s.2 ∈ sh3 := by decide +kernel
theorem b3_0 (kV doc pn : Value) (an : Option Addr) (cdv ct : Value) (us ws : List Value) (h1 : us.length = 2) (h2 : ws.length = ([] : List Str).length) : bindArgs (PySem.W.fnOf D3.name D3.qual D3.params D3.body D3.scope .none kV doc pn an cdv ct) ⟨us, ([] : List Str).zip ws⟩ = pure (e3.ps.zip (gp (us ++ ws) [] [.a 0, .a 1])) := by
  match us, h1, ws, h2 with
  | [u0, u1], _, [], _ => kernel_rfl
theorem fd3 (K : PySem.W.Frag) (F : ∃ fd, FunD K e3.d.name e3.d.qual e3.d.params e3.d.body e3.d.scope (e3.d.dvs K) (e3.d.kws K) (e3.ad.at_ K) fd) : ∃ fd, FunD K e3.d.name e3.d.qual e3.d.params e3.d.body e3.d.scope (e3.d.dvs K) (e3.d.kws K) (e3.ad.at_ K) fd ∧ ∀ (n : Nat) (ks : List Str) (pm : List PM), (e3.f, n, ks, pm) ∈ ge.shp → Shp K fd e3.ps n ks pm (e3.d.dvs K) := by
  obtain ⟨fd, F⟩ := F
  refine ⟨fd, F, fun n ks pm h => ?_⟩
  have h2 := shm3 _ h rfl
  simp only [sh3, List.mem_cons, List.not_mem_nil, or_false, Prod.mk.injEq] at h2
  obtain ⟨rfl, rfl, rfl⟩ := h2
  exact shp_of F b3_0
theorem ck4 : chkB ge ⟨N4, t4.scope, none⟩ d4.sg.fresh d4.body t4.body = true := by decide +kernel
theorem sc4 : scopeB N4 e4.ps t4.scope = true := by decide +kernel
def sh4 : List (Nat × List Str × List PM) := [(2, [], [.a 0, .a 1])]
theorem shm4 : ∀ s ∈ gShp, s.1 = 4 → s.2 ∈ sh4 := by decide +kernel
theorem b4_0 (kV doc pn : Value) (an : Option Addr) (cdv ct : Value) (us ws : List Value) (h1 : us.length = 2) (h2 : ws.length = ([] : List Str).length) : bindArgs (PySem.W.fnOf D4.name D4.qual D4.params D4.body D4.scope .none kV doc pn an cdv ct) ⟨us, ([] : List Str).zip ws⟩ = pure (e4.ps.zip (gp (us ++ ws) [] [.a 0, .a 1])) := by
  match us, h1, ws, h2 with
  | [u0, u1], _, [], _ => kernel_rfl
theorem fd4 (K : PySem.W.Frag) (F : ∃ fd, FunD K e4.d.name e4.d.qual e4.d.params e4.d.body e4.d.scope (e4.d.dvs K) (e4.d.kws K) (e4.ad.at_ K) fd) : ∃ fd, FunD K e4.d.name e4.d.qual e4.d.params e4.d.body e4.d.scope (e4.d.dvs K) (e4.d.kws K) (e4.ad.at_ K) fd ∧ ∀ (n : Nat) (ks : List Str) (pm : List PM), (e4.f, n, ks, pm) ∈ ge.shp → Shp K fd e4.ps n ks pm (e4.d.dvs K) := by
  obtain ⟨fd, F⟩ := F
  refine ⟨fd, F, fun n ks pm h => ?_⟩
  have h2 := shm4 _ h rfl
  simp only [sh4, List.mem_cons, List.not_mem_nil, or_false, Prod.mk.injEq] at h2
  obtain ⟨rfl, rfl, rfl⟩ := h2
  exact shp_of F b4_0
theorem ck5 : chkB ge ⟨N5, t5.scope, none⟩ d5.sg.fresh d5.body t5.body = true := by decide +kernel
theorem sc5 : scopeB N5 e5.ps t5.scope = true := by decide +kernel
def sh5 : List (Nat × List Str × List PM) := [(2, [], [.a 0, .a 1])]
theorem shm5 : ∀ s ∈ gShp, s.1 = 5 → s.2 ∈ sh5 := by decide +kernel
theorem b5_0 (kV doc pn : Value) (an : Option Addr) (cdv ct : Value) (us ws : List Value) (h1 : us.length = 2) (h2 : ws.length = ([] : List Str).length) : bindArgs (PySem.W.fnOf D5.name D5.qual D5.params D5.body D5.scope .none kV doc pn an cdv ct) ⟨us, ([] : List Str).zip ws⟩ = pure (e5.ps.zip (gp (us ++ ws) [] [.a 0, .a 1])) := by
  match us, h1, ws, h2 with
  | [u0, u1], _, [], _ => kernel_rfl
theorem fd5 (K : PySem.W.Frag) (F : ∃ fd, FunD K e5.d.name e5.d.qual e5.d.params e5.d.body e5.d.scope (e5.d.dvs K) (e5.d.kws K) (e5.ad.at_ K) fd) : ∃ fd, FunD K e5.d.name e5.d.qual e5.d.params e5.d.body e5.d.scope (e5.d.dvs K) (e5.d.kws K) (e5.ad.at_ K) fd ∧ ∀ (n : Nat) (ks : List Str) (pm : List PM), (e5.f, n, ks, pm) ∈ ge.shp → Shp K fd e5.ps n ks pm (e5.d.dvs K) := by
  obtain ⟨fd, F⟩ := F
  refine ⟨fd, F, fun n ks pm h => ?_⟩
  have h2 := shm5 _ h rfl
  simp only [sh5, List.mem_cons, List.not_mem_nil, or_false, Prod.mk.injEq] at h2
  obtain ⟨rfl, rfl, rfl⟩ := h2
  exact shp_of F b5_0
theorem ck6 : chkB ge ⟨N6, t6.scope, none⟩ d6.sg.fresh d6.body t6.body = true := by decide +kernel
theorem sc6 : scopeB N6 e6.ps t6.scope = true := by decide +kernel
def sh6 : List (Nat × List Str × List PM) := [(1, [], [.a 0])]
theorem shm6 : ∀ s ∈ gShp, s.1 = 6 → s.2 ∈ sh6 := by decide +kernel
theorem b6_0 (kV doc pn : Value) (an : Option Addr) (cdv ct : Value) (us ws : List Value) (h1 : us.length = 1) (h2 : ws.length = ([] : List Str).length) : bindArgs (PySem.W.fnOf D6.name D6.qual D6.params D6.body D6.scope .none kV doc pn an cdv ct) ⟨us, ([] : List Str).zip ws⟩ = pure (e6.ps.zip (gp (us ++ ws) [] [.a 0])) := by
  match us, h1, ws, h2 with
  | [u0], _, [], _ => kernel_rfl
theorem fd6 (K : PySem.W.Frag) (F : ∃ fd, FunD K e6.d.name e6.d.qual e6.d.params e6.d.body e6.d.scope (e6.d.dvs K) (e6.d.kws K) (e6.ad.at_ K) fd) : ∃ fd, FunD K e6.d.name e6.d.qual e6.d.params e6.d.body e6.d.scope (e6.d.dvs K) (e6.d.kws K) (e6.ad.at_ K) fd ∧ ∀ (n : Nat) (ks : List Str) (pm : List PM), (e6.f, n, ks, pm) ∈ ge.shp → Shp K fd e6.ps n ks pm (e6.d.dvs K) := by
  obtain ⟨fd, F⟩ := F
  refine ⟨fd, F, fun n ks pm h => ?_⟩
  have h2 := shm6 _ h rfl
  simp only [sh6, List.mem_cons, List.not_mem_nil, or_false, Prod.mk.injEq] at h2
  obtain ⟨rfl, rfl, rfl⟩ := h2
  exact shp_of F b6_0
theorem ck7 : chkB ge ⟨N7, t7.scope, none⟩ d7.sg.fresh d7.body t7.body = true := by decide +kernel
theorem sc7 : scopeB N7 e7.ps t7.scope = true := by decide +kernel
def sh7 : List (Nat × List Str × List PM) := [(1, [], [.a 0])]
theorem shm7 : ∀ s ∈ gShp, s.1 = 7 → s.2 ∈ sh7 := by decide +kernel
theorem b7_0 (kV doc pn : Value) (an : Option Addr) (cdv ct : Value) (us ws : List Value) (h1 : us.length = 1) (h2 : ws.length = ([] : List Str).length) : bindArgs (PySem.W.fnOf D7.name D7.qual D7.params D7.body D7.scope .none kV doc pn an cdv ct) ⟨us, ([] : List Str).zip ws⟩ = pure (e7.ps.zip (gp (us ++ ws) [] [.a 0])) := by
  match us, h1, ws, h2 with
  | [u0], _, [], _ => kernel_rfl
theorem fd7 (K : PySem.W.Frag) (F : ∃ fd, FunD K e7.d.name e7.d.qual e7.d.params e7.d.body e7.d.scope (e7.d.dvs K) (e7.d.kws K) (e7.ad.at_ K) fd) : ∃ fd, FunD K e7.d.name e7.d.qual e7.d.params e7.d.body e7.d.scope (e7.d.dvs K) (e7.d.kws K) (e7.ad.at_ K) fd ∧ ∀ (n : Nat) (ks : List Str) (pm : List PM), (e7.f, n, ks, pm) ∈ ge.shp → Shp K fd e7.ps n ks pm (e7.d.dvs K) := by
  obtain ⟨fd, F⟩ := F
  refine ⟨fd, F, fun n ks pm h => ?_⟩
  have h2 := shm7 _ h rfl
  simp only [sh7, List.mem_cons, List.not_mem_nil, or_false, Prod.mk.injEq] at h2
  obtain ⟨rfl, rfl, rfl⟩ := h2
  exact shp_of F b7_0
theorem ck8 : chkB ge ⟨N8, t8.scope, none⟩ d8.sg.fresh d8.body t8.body = true := by decide +kernel
theorem sc8 : scopeB N8 e8.ps t8.scope = true := by decide +kernel
def sh8 : List (Nat × List Str × List PM) := [(3, [], [.a 0, .a 1, .a 2])]
theorem shm8 : ∀ s ∈ gShp, s.1 = 8 → s.2 ∈ sh8 := by decide +kernel
theorem b8_0 (kV doc pn : Value) (an : Option Addr) (cdv ct : Value) (us ws : List Value) (h1 : us.length = 3) (h2 : ws.length = ([] : List Str).length) : bindArgs (PySem.W.fnOf D8.name D8.qual D8.params D8.body D8.scope .none kV doc pn an cdv ct) ⟨us, ([] : List Str).zip ws⟩ = pure (e8.ps.zip (gp (us ++ ws) [] [.a 0, .a 1, .a 2])) := by
  match us, h1, ws, h2 with
  | [u0, u1, u2], _, [], _ => kernel_rfl
theorem fd8 (K : PySem.W.Frag) (F : ∃ fd, FunD K e8.d.name e8.d.qual e8.d.params e8.d.body e8.d.scope (e8.d.dvs K) (e8.d.kws K) (e8.ad.at_ K) fd) : ∃ fd, FunD K e8.d.name e8.d.qual e8.d.params e8.d.body e8.d.scope (e8.d.dvs K) (e8.d.kws K) (e8.ad.at_ K) fd ∧ ∀ (n : Nat) (ks : List Str) (pm : List PM), (e8.f, n, ks, pm) ∈ ge.shp → Shp K fd e8.ps n ks pm (e8.d.dvs K) := by
  obtain ⟨fd, F⟩ := F
  refine ⟨fd, F, fun n ks pm h => ?_⟩
  have h2 := shm8 _ h rfl
  simp only [sh8, List.mem_cons, List.not_mem_nil, or_false, Prod.mk.injEq] at h2
  obtain ⟨rfl, rfl, rfl⟩ := h2
  exact shp_of F b8_0
theorem ck9 : chkB ge ⟨N9, t9.scope, none⟩ d9.sg.fresh d9.body t9.body = true := by decide +kernel
theorem sc9 : scopeB N9 e9.ps t9.scope = true := by decide +kernel
def sh9 : List (Nat × List Str × List PM) := [(2, [], [.a 0, .a 1])]
theorem shm9 : ∀ s ∈ gShp, s.1 = 9 → s.2 ∈ sh9 := by decide +kernel
theorem b9_0 (kV doc pn : Value) (an : Option Addr) (cdv ct : Value) (us ws : List Value) (h1 : us.length = 2) (h2 : ws.length = ([] : List Str).length) : bindArgs (PySem.W.fnOf D9.name D9.qual D9.params D9.body D9.scope .none kV doc pn an cdv ct) ⟨us, ([] : List Str).zip ws⟩ = pure (e9.ps.zip (gp (us ++ ws) [] [.a 0, .a 1])) := by
  match us, h1, ws, h2 with
  | [u0, u1], _, [], _ => kernel_rfl
theorem fd9 (K : PySem.W.Frag) (F : ∃ fd, FunD K e9.d.name e9.d.qual e9.d.params e9.d.body e9.d.scope (e9.d.dvs K) (e9.d.kws K) (e9.ad.at_ K) fd) : ∃ fd, FunD K e9.d.name e9.d.qual e9.d.params e9.d.body e9.d.scope (e9.d.dvs K) (e9.d.kws K) (e9.ad.at_ K) fd ∧ ∀ (n : Nat) (ks : List Str) (pm : List PM), (e9.f, n, ks, pm) ∈ ge.shp → Shp K fd e9.ps n ks pm (e9.d.dvs K) := by
  obtain ⟨fd, F⟩ := F
  refine ⟨fd, F, fun n ks pm h => ?_⟩
  have h2 := shm9 _ h rfl
  simp only [sh9, List.mem_cons, List.not_mem_nil, or_false, Prod.mk.injEq] at h2
  obtain ⟨rfl, rfl, rfl⟩ := h2
  exact shp_of F b9_0
theorem ck10 : chkB ge ⟨N10, t10.scope, none⟩ d10.sg.fresh d10.body t10.body = true := by decide +kernel
theorem sc10 : scopeB N10 e10.ps t10.scope = true := by decide +kernel
def sh10 : List (Nat × List Str × List PM) := [(3, [], [.a 0, .a 1, .a 2])]
theorem shm10 : ∀ s ∈ gShp, s.1 = 10 → s.2 ∈ sh10 := by decide +kernel
theorem b10_0 (kV doc pn : Value) (an : Option Addr) (cdv ct : Value) (us ws : List Value) (h1 : us.length = 3) (h2 : ws.length = ([] : List Str).length) : bindArgs (PySem.W.fnOf D10.name D10.qual D10.params D10.body D10.scope .none kV doc pn an cdv ct) ⟨us, ([] : List Str).zip ws⟩ = pure (e10.ps.zip (gp (us ++ ws) [] [.a 0, .a 1, .a 2])) := by
  match us, h1, ws, h2 with
  | [u0, u1, u2], _, [], _ => kernel_rfl
theorem fd10 (K : PySem.W.Frag) (F : ∃ fd, FunD K e10.d.name e10.d.qual e10.d.params e10.d.body e10.d.scope (e10.d.dvs K) (e10.d.kws K) (e10.ad.at_ K) fd) : ∃ fd, FunD K e10.d.name e10.d.qual e10.d.params e10.d.body e10.d.scope (e10.d.dvs K) (e10.d.kws K) (e10.ad.at_ K) fd ∧ ∀ (n : Nat) (ks : List Str) (pm : List PM), (e10.f, n, ks, pm) ∈ ge.shp → Shp K fd e10.ps n ks pm (e10.d.dvs K) := by
  obtain ⟨fd, F⟩ := F
  refine ⟨fd, F, fun n ks pm h => ?_⟩
  have h2 := shm10 _ h rfl
  simp only [sh10, List.mem_cons, List.not_mem_nil, or_false, Prod.mk.injEq] at h2
  obtain ⟨rfl, rfl, rfl⟩ := h2
  exact shp_of F b10_0
theorem ck11 : chkB ge ⟨N11, t11.scope, none⟩ d11.sg.fresh d11.body t11.body = true := by decide +kernel
theorem sc11 : scopeB N11 e11.ps t11.scope = true := by decide +kernel
def sh11 : List (Nat × List Str × List PM) := [(3, [], [.a 0, .a 1, .a 2])]
theorem shm11 : ∀ s ∈ gShp, s.1 = 11 → s.2 ∈ sh11 := by decide +kernel
theorem b11_0 (kV doc pn : Value) (an : Option Addr) (cdv ct : Value) (us ws : List Value) (h1 : us.length = 3) (h2 : ws.length = ([] : List Str).length) : bindArgs (PySem.W.fnOf D11.name D11.qual D11.params D11.body D11.scope .none kV doc pn an cdv ct) ⟨us, ([] : List Str).zip ws⟩ = pure (e11.ps.zip (gp (us ++ ws) [] [.a 0, .a 1, .a 2])) := by
  match us, h1, ws, h2 with
  | [u0, u1, u2], _, [], _ => kernel_rfl
theorem fd11 (K : PySem.W.Frag) (F : ∃ fd, FunD K e11.d.name e11.d.qual e11.d.params e11.d.body e11.d.scope (e11.d.dvs K) (e11.d.kws K) (e11.ad.at_ K) fd) : ∃ fd, FunD K e11.d.name e11.d.qual e11.d.params e11.d.body e11.d.scope (e11.d.dvs K) (e11.d.kws K) (e11.ad.at_ K) fd ∧ ∀ (n : Nat) (ks : List Str) (pm : List PM), (e11.f, n, ks, pm) ∈ ge.shp → Shp K fd e11.ps n ks pm (e11.d.dvs K) := by
  obtain ⟨fd, F⟩ := F
  refine ⟨fd, F, fun n ks pm h => ?_⟩
  have h2 := shm11 _ h rfl
  simp only [sh11, List.mem_cons, List.not_mem_nil, or_false, Prod.mk.injEq] at h2
  obtain ⟨rfl, rfl, rfl⟩ := h2
  exact shp_of F b11_0
theorem ck12 : chkB ge ⟨N12, t12.scope, none⟩ d12.sg.fresh d12.body t12.body = true := by decide +kernel
theorem sc12 : scopeB N12 e12.ps t12.scope = true := by decide +kernel
def sh12 : List (Nat × List Str × List PM) := [(3, [], [.a 0, .a 1, .a 2])]
theorem shm12 : ∀ s ∈ gShp, s.1 = 12 → s.2 ∈ sh12 := by decide +kernel
theorem b12_0 (kV doc pn : Value) (an : Option Addr) (cdv ct : Value) (us ws : List Value) (h1 : us.length = 3) (h2 : ws.length = ([] : List Str).length) : bindArgs (PySem.W.fnOf D12.name D12.qual D12.params D12.body D12.scope .none kV doc pn an cdv ct) ⟨us, ([] : List Str).zip ws⟩ = pure (e12.ps.zip (gp (us ++ ws) [] [.a 0, .a 1, .a 2])) := by
  match us, h1, ws, h2 with
  | [u0, u1, u2], _, [], _ => kernel_rfl
theorem fd12 (K : PySem.W.Frag) (F : ∃ fd, FunD K e12.d.name e12.d.qual e12.d.params e12.d.body e12.d.scope (e12.d.dvs K) (e12.d.kws K) (e12.ad.at_ K) fd) : ∃ fd, FunD K e12.d.name e12.d.qual e12.d.params e12.d.body e12.d.scope (e12.d.dvs K) (e12.d.kws K) (e12.ad.at_ K) fd ∧ ∀ (n : Nat) (ks : List Str) (pm : List PM), (e12.f, n, ks, pm) ∈ ge.shp → Shp K fd e12.ps n ks pm (e12.d.dvs K) := by
  obtain ⟨fd, F⟩ := F
  refine ⟨fd, F, fun n ks pm h => ?_⟩
  have h2 := shm12 _ h rfl
  simp only [sh12, List.mem_cons, List.not_mem_nil, or_false, Prod.mk.injEq] at h2
  obtain ⟨rfl, rfl, rfl⟩ := h2
  exact shp_of F b12_0
theorem ck13 : chkB ge ⟨N13, t13.scope, none⟩ d13.sg.fresh d13.body t13.body = true := by decide +kernel
theorem sc13 : scopeB N13 e13.ps t13.scope = true := by decide +kernel
def sh13 : List (Nat × List Str × List PM) := [(2, [], [.a 0, .a 1])]
theorem shm13 : ∀ s ∈ gShp, s.1 = 13 → s.2 ∈ sh13 := by decide +kernel
theorem b13_0 (kV doc pn : Value) (an : Option Addr) (cdv ct : Value) (us ws : List Value) (h1 : us.length = 2) (h2 : ws.length = ([] : List Str).length) : bindArgs (PySem.W.fnOf D13.name D13.qual D13.params D13.body D13.scope .none kV doc pn an cdv ct) ⟨us, ([] : List Str).zip ws⟩ = pure (e13.ps.zip (gp (us ++ ws) [] [.a 0, .a 1])) := by
  match us, h1, ws, h2 with
  | [u0, u1], _, [], _ => kernel_rfl
theorem fd13 (K : PySem.W.Frag) (F : ∃ fd, FunD K e13.d.name e13.d.qual e13.d.params e13.d.body e13.d.scope (e13.d.dvs K) (e13.d.kws K) (e13.ad.at_ K) fd) : ∃ fd, FunD K e13.d.name e13.d.qual e13.d.params e13.d.body e13.d.scope (e13.d.dvs K) (e13.d.kws K) (e13.ad.at_ K) fd ∧ ∀ (n : Nat) (ks : List Str) (pm : List PM), (e13.f, n, ks, pm) ∈ ge.shp → Shp K fd e13.ps n ks pm (e13.d.dvs K) := by
  obtain ⟨fd, F⟩ := F
  refine ⟨fd, F, fun n ks pm h => ?_⟩
  have h2 := shm13 _ h rfl
  simp only [sh13, List.mem_cons, List.not_mem_nil, or_false, Prod.mk.injEq] at h2
  obtain ⟨rfl, rfl, rfl⟩ := h2
  exact shp_of F b13_0
theorem ck14 : chkB ge ⟨N14, t14.scope, none⟩ d14.sg.fresh d14.body t14.body = true := by decide +kernel
theorem sc14 : scopeB N14 e14.ps t14.scope = true := by decide +kernel
def sh14 : List (Nat × List Str × List PM) := [(4, [], [.a 0, .a 1, .a 2, .a 3])]
theorem shm14 : ∀ s ∈ gShp, s.1 = 14 → s.2 ∈ sh14 := by decide +kernel
theorem b14_0 (kV doc pn : Value) (an : Option Addr) (cdv ct : Value) (us ws : List Value) (h1 : us.length = 4) (h2 : ws.length = ([] : List Str).length) : bindArgs (PySem.W.fnOf D14.name D14.qual D14.params D14.body D14.scope .none kV doc pn an cdv ct) ⟨us, ([] : List Str).zip ws⟩ = pure (e14.ps.zip (gp (us ++ ws) [] [.a 0, .a 1, .a 2, .a 3])) := by
  match us, h1, ws, h2 with
  | [u0, u1, u2, u3], _, [], _ => kernel_rfl
theorem fd14 (K : PySem.W.Frag) (F : ∃ fd, FunD K e14.d.name e14.d.qual e14.d.params e14.d.body e14.d.scope (e14.d.dvs K) (e14.d.kws K) (e14.ad.at_ K) fd) : ∃ fd, FunD K e14.d.name e14.d.qual e14.d.params e14.d.body e14.d.scope (e14.d.dvs K) (e14.d.kws K) (e14.ad.at_ K) fd ∧ ∀ (n : Nat) (ks : List Str) (pm : List PM), (e14.f, n, ks, pm) ∈ ge.shp → Shp K fd e14.ps n ks pm (e14.d.dvs K) := by
  obtain ⟨fd, F⟩ := F
  refine ⟨fd, F, fun n ks pm h => ?_⟩
  have h2 := shm14 _ h rfl
  simp only [sh14, List.mem_cons, List.not_mem_nil, or_false, Prod.mk.injEq] at h2
  obtain ⟨rfl, rfl, rfl⟩ := h2
  exact shp_of F b14_0
theorem ck15 : chkB ge ⟨N15, t15.scope, none⟩ d15.sg.fresh d15.body t15.body = true := by decide +kernel
theorem sc15 : scopeB N15 e15.ps t15.scope = true := by decide +kernel
def sh15 : List (Nat × List Str × List PM) := [(3, [], [.a 0, .a 1, .a 2])]
theorem shm15 : ∀ s ∈ gShp, s.1 = 15 → s.2 ∈ sh15 := by decide +kernel
theorem b15_0 (kV doc pn : Value) (an : Option Addr) (cdv ct : Value) (us ws : List Value) (h1 : us.length = 3) (h2 : ws.length = ([] : List Str).length) : bindArgs (PySem.W.fnOf D15.name D15.qual D15.params D15.body D15.scope .none kV doc pn an cdv ct) ⟨us, ([] : List Str).zip ws⟩ = pure (e15.ps.zip (gp (us ++ ws) [] [.a 0, .a 1, .a 2])) := by
  match us, h1, ws, h2 with
  | [u0, u1, u2], _, [], _ => kernel_rfl
theorem fd15 (K : PySem.W.Frag) (F : ∃ fd, FunD K e15.d.name e15.d.qual e15.d.params e15.d.body e15.d.scope (e15.d.dvs K) (e15.d.kws K) (e15.ad.at_ K) fd) : ∃ fd, FunD K e15.d.name e15.d.qual e15.d.params e15.d.body e15.d.scope (e15.d.dvs K) (e15.d.kws K) (e15.ad.at_ K) fd ∧ ∀ (n : Nat) (ks : List Str) (pm : List PM), (e15.f, n, ks, pm) ∈ ge.shp → Shp K fd e15.ps n ks pm (e15.d.dvs K) := by
  obtain ⟨fd, F⟩ := F
  refine ⟨fd, F, fun n ks pm h => ?_⟩
  have h2 := shm15 _ h rfl
  simp only [sh15, List.mem_cons, List.not_mem_nil, or_false, Prod.mk.injEq] at h2
  obtain ⟨rfl, rfl, rfl⟩ := h2
  exact shp_of F b15_0
theorem ck16 : chkB ge ⟨N16, t16.scope, none⟩ d16.sg.fresh d16.body t16.body = true := by decide +kernel
theorem sc16 : scopeB N16 e16.ps t16.scope = true := by decide +kernel
def sh16 : List (Nat × List Str × List PM) := [(0, [("many" : Str), ("other" : Str), ("one" : Str)], [.a 2, .a 1, .a 0]), (3, [], [.a 0, .a 1, .a 2])]
theorem shm16 : ∀ s ∈ gShp, s.1 = 16 → s.2 ∈ sh16 := by decide +kernel
theorem b16_0 (kV doc pn : Value) (an : Option Addr) (cdv ct : Value) (us ws : List Value) (h1 : us.length = 0) (h2 : ws.length = ([("many" : Str), ("other" : Str), ("one" : Str)] : List Str).length) : bindArgs (PySem.W.fnOf D16.name D16.qual D16.params D16.body D16.scope .none kV doc pn an cdv ct) ⟨us, ([("many" : Str), ("other" : Str), ("one" : Str)] : List Str).zip ws⟩ = pure (e16.ps.zip (gp (us ++ ws) [] [.a 2, .a 1, .a 0])) := by
  match us, h1, ws, h2 with
  | [], _, [w0, w1, w2], _ => kernel_rfl
theorem b16_1 (kV doc pn : Value) (an : Option Addr) (cdv ct : Value) (us ws : List Value) (h1 : us.length = 3) (h2 : ws.length = ([] : List Str).length) : bindArgs (PySem.W.fnOf D16.name D16.qual D16.params D16.body D16.scope .none kV doc pn an cdv ct) ⟨us, ([] : List Str).zip ws⟩ = pure (e16.ps.zip (gp (us ++ ws) [] [.a 0, .a 1, .a 2])) := by
  match us, h1, ws, h2 with
  | [u0, u1, u2], _, [], _ => kernel_rfl
theorem fd16 (K : PySem.W.Frag) (F : ∃ fd, FunD K e16.d.name e16.d.qual e16.d.params e16.d.body e16.d.scope (e16.d.dvs K) (e16.d.kws K) (e16.ad.at_ K) fd) : ∃ fd, FunD K e16.d.name e16.d.qual e16.d.params e16.d.body e16.d.scope (e16.d.dvs K) (e16.d.kws K) (e16.ad.at_ K) fd ∧ ∀ (n : Nat) (ks : List Str) (pm : List PM), (e16.f, n, ks, pm) ∈ ge.shp → Shp K fd e16.ps n ks pm (e16.d.dvs K) := by
  obtain ⟨fd, F⟩ := F
  refine ⟨fd, F, fun n ks pm h => ?_⟩
  have h2 := shm16 _ h rfl
  simp only [sh16, List.mem_cons, List.not_mem_nil, or_false, Prod.mk.injEq] at h2
  rcases h2 with ⟨rfl, rfl, rfl⟩ | ⟨rfl, rfl, rfl⟩
  · exact shp_of F b16_0
  · exact shp_of F b16_1
theorem ck17 : chkB ge ⟨N17, t17.scope, none⟩ d17.sg.fresh d17.body t17.body = true := by decide +kernel
theorem sc17 : scopeB N17 e17.ps t17.scope = true := by decide +kernel
def sh17 : List (Nat × List Str × List PM) := [(2, [], [.a 0, .a 1])]
theorem shm17 : ∀ s ∈ gShp, s.1 = 17 → s.2 ∈ sh17 := by decide +kernel
theorem b17_0 (kV doc pn : Value) (an : Option Addr) (cdv ct : Value) (us ws : List Value) (h1 : us.length = 2) (h2 : ws.length = ([] : List Str).length) : bindArgs (PySem.W.fnOf D17.name D17.qual D17.params D17.body D17.scope .none kV doc pn an cdv ct) ⟨us, ([] : List Str).zip ws⟩ = pure (e17.ps.zip (gp (us ++ ws) [] [.a 0, .a 1])) := by
  match us, h1, ws, h2 with
  | [u0, u1], _, [], _ => kernel_rfl
theorem fd17 (K : PySem.W.Frag) (F : ∃ fd, FunD K e17.d.name e17.d.qual e17.d.params e17.d.body e17.d.scope (e17.d.dvs K) (e17.d.kws K) (e17.ad.at_ K) fd) : ∃ fd, FunD K e17.d.name e17.d.qual e17.d.params e17.d.body e17.d.scope (e17.d.dvs K) (e17.d.kws K) (e17.ad.at_ K) fd ∧ ∀ (n : Nat) (ks : List Str) (pm : List PM), (e17.f, n, ks, pm) ∈ ge.shp → Shp K fd e17.ps n ks pm (e17.d.dvs K) := by
  obtain ⟨fd, F⟩ := F
  refine ⟨fd, F, fun n ks pm h => ?_⟩
  have h2 := shm17 _ h rfl
  simp only [sh17, List.mem_cons, List.not_mem_nil, or_false, Prod.mk.injEq] at h2
  obtain ⟨rfl, rfl, rfl⟩ := h2
  exact shp_of F b17_0
theorem ck18 : chkB ge ⟨N18, t18.scope, none⟩ d18.sg.fresh d18.body t18.body = true := by decide +kernel
theorem sc18 : scopeB N18 e18.ps t18.scope = true := by decide +kernel
def sh18 : List (Nat × List Str × List PM) := [(2, [], [.a 0, .a 1])]
theorem shm18 : ∀ s ∈ gShp, s.1 = 18 → s.2 ∈ sh18 := by decide +kernel
theorem b18_0 (kV doc pn : Value) (an : Option Addr) (cdv ct : Value) (us ws : List Value) (h1 : us.length = 2) (h2 : ws.length = ([] : List Str).length) : bindArgs (PySem.W.fnOf D18.name D18.qual D18.params D18.body D18.scope .none kV doc pn an cdv ct) ⟨us, ([] : List Str).zip ws⟩ = pure (e18.ps.zip (gp (us ++ ws) [] [.a 0, .a 1])) := by
  match us, h1, ws, h2 with
  | [u0, u1], _, [], _ => kernel_rfl
theorem fd18 (K : PySem.W.Frag) (F : ∃ fd, FunD K e18.d.name e18.d.qual e18.d.params e18.d.body e18.d.scope (e18.d.dvs K) (e18.d.kws K) (e18.ad.at_ K) fd) : ∃ fd, FunD K e18.d.name e18.d.qual e18.d.params e18.d.body e18.d.scope (e18.d.dvs K) (e18.d.kws K) (e18.ad.at_ K) fd ∧ ∀ (n : Nat) (ks : List Str) (pm : List PM), (e18.f, n, ks, pm) ∈ ge.shp → Shp K fd e18.ps n ks pm (e18.d.dvs K) := by
  obtain ⟨fd, F⟩ := F
  refine ⟨fd, F, fun n ks pm h => ?_⟩
  have h2 := shm18 _ h rfl
  simp only [sh18, List.mem_cons, List.not_mem_nil, or_false, Prod.mk.injEq] at h2
  obtain ⟨rfl, rfl, rfl⟩ := h2
  exact shp_of F b18_0
theorem ck19 : chkB ge ⟨N19, t19.scope, none⟩ d19.sg.fresh d19.body t19.body = true := by decide +kernel
theorem sc19 : scopeB N19 e19.ps t19.scope = true := by decide +kernel
def sh19 : List (Nat × List Str × List PM) := [(2, [], [.a 0, .a 1])]
theorem shm19 : ∀ s ∈ gShp, s.1 = 19 → s.2 ∈ sh19 := by decide +kernel
theorem b19_0 (kV doc pn : Value) (an : Option Addr) (cdv ct : Value) (us ws : List Value) (h1 : us.length = 2) (h2 : ws.length = ([] : List Str).length) : bindArgs (PySem.W.fnOf D19.name D19.qual D19.params D19.body D19.scope .none kV doc pn an cdv ct) ⟨us, ([] : List Str).zip ws⟩ = pure (e19.ps.zip (gp (us ++ ws) [] [.a 0, .a 1])) := by
  match us, h1, ws, h2 with
  | [u0, u1], _, [], _ => kernel_rfl
theorem fd19 (K : PySem.W.Frag) (F : ∃ fd, FunD K e19.d.name e19.d.qual e19.d.params e19.d.body e19.d.scope (e19.d.dvs K) (e19.d.kws K) (e19.ad.at_ K) fd) : ∃ fd, FunD K e19.d.name e19.d.qual e19.d.params e19.d.body e19.d.scope (e19.d.dvs K) (e19.d.kws K) (e19.ad.at_ K) fd ∧ ∀ (n : Nat) (ks : List Str) (pm : List PM), (e19.f, n, ks, pm) ∈ ge.shp → Shp K fd e19.ps n ks pm (e19.d.dvs K) := by
  obtain ⟨fd, F⟩ := F
  refine ⟨fd, F, fun n ks pm h => ?_⟩
  have h2 := shm19 _ h rfl
  simp only [sh19, List.mem_cons, List.not_mem_nil, or_false, Prod.mk.injEq] at h2
  obtain ⟨rfl, rfl, rfl⟩ := h2
  exact shp_of F b19_0
theorem ck20 : chkB ge ⟨N20, t20.scope, none⟩ d20.sg.fresh d20.body t20.body = true := by decide +kernel
theorem sc20 : scopeB N20 e20.ps t20.scope = true := by decide +kernel
def sh20 : List (Nat × List Str × List PM) := [(2, [], [.a 0, .a 1])]
theorem shm20 : ∀ s ∈ gShp, s.1 = 20 → s.2 ∈ sh20 := by decide +kernel
theorem b20_0 (kV doc pn : Value) (an : Option Addr) (cdv ct : Value) (us ws : List Value) (h1 : us.length = 2) (h2 : ws.length = ([] : List Str).length) : bindArgs (PySem.W.fnOf D20.name D20.qual D20.params D20.body D20.scope .none kV doc pn an cdv ct) ⟨us, ([] : List Str).zip ws⟩ = pure (e20.ps.zip (gp (us ++ ws) [] [.a 0, .a 1])) := by
  match us, h1, ws, h2 with
  | [u0, u1], _, [], _ => kernel_rfl
theorem fd20 (K : PySem.W.Frag) (F : ∃ fd, FunD K e20.d.name e20.d.qual e20.d.params e20.d.body e20.d.scope (e20.d.dvs K) (e20.d.kws K) (e20.ad.at_ K) fd) : ∃ fd, FunD K e20.d.name e20.d.qual e20.d.params e20.d.body e20.d.scope (e20.d.dvs K) (e20.d.kws K) (e20.ad.at_ K) fd ∧ ∀ (n : Nat) (ks : List Str) (pm : List PM), (e20.f, n, ks, pm) ∈ ge.shp → Shp K fd e20.ps n ks pm (e20.d.dvs K) := by
  obtain ⟨fd, F⟩ := F
  refine ⟨fd, F, fun n ks pm h => ?_⟩
  have h2 := shm20 _ h rfl
  simp only [sh20, List.mem_cons, List.not_mem_nil, or_false, Prod.mk.injEq] at h2
  obtain ⟨rfl, rfl, rfl⟩ := h2
  exact shp_of F b20_0
theorem ck21 : chkB ge ⟨N21, t21.scope, none⟩ d21.sg.fresh d21.body t21.body = true := by decide +kernel
theorem sc21 : scopeB N21 e21.ps t21.scope = true := by decide +kernel
def sh21 : List (Nat × List Str × List PM) := [(2, [], [.a 0, .a 1])]
theorem shm21 : ∀ s ∈ gShp, s.1 = 21 → s.2 ∈ sh21 := by decide +kernel
theorem b21_0 (kV doc pn : Value) (an : Option Addr) (cdv ct : Value) (us ws : List Value) (h1 : us.length = 2) (h2 : ws.length = ([] : List Str).length) : bindArgs (PySem.W.fnOf D21.name D21.qual D21.params D21.body D21.scope .none kV doc pn an cdv ct) ⟨us, ([] : List Str).zip ws⟩ = pure (e21.ps.zip (gp (us ++ ws) [] [.a 0, .a 1])) := by
  match us, h1, ws, h2 with
  | [u0, u1], _, [], _ => kernel_rfl
theorem fd21 (K : PySem.W.Frag) (F : ∃ fd, FunD K e21.d.name e21.d.qual e21.d.params e21.d.body e21.d.scope (e21.d.dvs K) (e21.d.kws K) (e21.ad.at_ K) fd) : ∃ fd, FunD K e21.d.name e21.d.qual e21.d.params e21.d.body e21.d.scope (e21.d.dvs K) (e21.d.kws K) (e21.ad.at_ K) fd ∧ ∀ (n : Nat) (ks : List Str) (pm : List PM), (e21.f, n, ks, pm) ∈ ge.shp → Shp K fd e21.ps n ks pm (e21.d.dvs K) := by
  obtain ⟨fd, F⟩ := F
  refine ⟨fd, F, fun n ks pm h => ?_⟩
  have h2 := shm21 _ h rfl
  simp only [sh21, List.mem_cons, List.not_mem_nil, or_false, Prod.mk.injEq] at h2
  obtain ⟨rfl, rfl, rfl⟩ := h2
  exact shp_of F b21_0
theorem ck22 : chkB ge ⟨N22, t22.scope, none⟩ d22.sg.fresh d22.body t22.body = true := by decide +kernel
theorem sc22 : scopeB N22 e22.ps t22.scope = true := by decide +kernel
def sh22 : List (Nat × List Str × List PM) := [(3, [], [.a 0, .a 1, .a 2])]
theorem shm22 : ∀ s ∈ gShp, s.1 = 22 → s.2 ∈ sh22 := by decide +kernel
theorem b22_0 (kV doc pn : Value) (an : Option Addr) (cdv ct : Value) (us ws : List Value) (h1 : us.length = 3) (h2 : ws.length = ([] : List Str).length) : bindArgs (PySem.W.fnOf D22.name D22.qual D22.params D22.body D22.scope .none kV doc pn an cdv ct) ⟨us, ([] : List Str).zip ws⟩ = pure (e22.ps.zip (gp (us ++ ws) [] [.a 0, .a 1, .a 2])) := by
  match us, h1, ws, h2 with
  | [u0, u1, u2], _, [], _ => kernel_rfl
theorem fd22 (K : PySem.W.Frag) (F : ∃ fd, FunD K e22.d.name e22.d.qual e22.d.params e22.d.body e22.d.scope (e22.d.dvs K) (e22.d.kws K) (e22.ad.at_ K) fd) : ∃ fd, FunD K e22.d.name e22.d.qual e22.d.params e22.d.body e22.d.scope (e22.d.dvs K) (e22.d.kws K) (e22.ad.at_ K) fd ∧ ∀ (n : Nat) (ks : List Str) (pm : List PM), (e22.f, n, ks, pm) ∈ ge.shp → Shp K fd e22.ps n ks pm (e22.d.dvs K) := by
  obtain ⟨fd, F⟩ := F
  refine ⟨fd, F, fun n ks pm h => ?_⟩
  have h2 := shm22 _ h rfl
  simp only [sh22, List.mem_cons, List.not_mem_nil, or_false, Prod.mk.injEq] at h2
  obtain ⟨rfl, rfl, rfl⟩ := h2
  exact shp_of F b22_0
theorem ck23 : chkB ge ⟨N23, t23.scope, none⟩ d23.sg.fresh d23.body t23.body = true := by decide +kernel
theorem sc23 : scopeB N23 e23.ps t23.scope = true := by decide +kernel
def sh23 : List (Nat × List Str × List PM) := [(1, [], [.a 0])]
theorem shm23 : ∀ s ∈ gShp, s.1 = 23 → s.2 ∈ sh23 := by decide +kernel
theorem b23_0 (kV doc pn : Value) (an : Option Addr) (cdv ct : Value) (us ws : List Value) (h1 : us.length = 1) (h2 : ws.length = ([] : List Str).length) : bindArgs (PySem.W.fnOf D23.name D23.qual D23.params D23.body D23.scope .none kV doc pn an cdv ct) ⟨us, ([] : List Str).zip ws⟩ = pure (e23.ps.zip (gp (us ++ ws) [] [.a 0])) := by
  match us, h1, ws, h2 with
  | [u0], _, [], _ => kernel_rfl
theorem fd23 (K : PySem.W.Frag) (F : ∃ fd, FunD K e23.d.name e23.d.qual e23.d.params e23.d.body e23.d.scope (e23.d.dvs K) (e23.d.kws K) (e23.ad.at_ K) fd) : ∃ fd, FunD K e23.d.name e23.d.qual e23.d.params e23.d.body e23.d.scope (e23.d.dvs K) (e23.d.kws K) (e23.ad.at_ K) fd ∧ ∀ (n : Nat) (ks : List Str) (pm : List PM), (e23.f, n, ks, pm) ∈ ge.shp → Shp K fd e23.ps n ks pm (e23.d.dvs K) := by
  obtain ⟨fd, F⟩ := F
  refine ⟨fd, F, fun n ks pm h => ?_⟩
  have h2 := shm23 _ h rfl
  simp only [sh23, List.mem_cons, List.not_mem_nil, or_false, Prod.mk.injEq] at h2
  obtain ⟨rfl, rfl, rfl⟩ := h2
  exact shp_of F b23_0
theorem ck24 : chkB ge ⟨N24, t24.scope, none⟩ d24.sg.fresh d24.body t24.body = true := by decide +kernel
theorem sc24 : scopeB N24 e24.ps t24.scope = true := by decide +kernel
def sh24 : List (Nat × List Str × List PM) := [(3, [], [.a 0, .a 1, .a 2])]
theorem shm24 : ∀ s ∈ gShp, s.1 = 24 → s.2 ∈ sh24 := by decide +kernel
theorem b24_0 (kV doc pn : Value) (an : Option Addr) (cdv ct : Value) (us ws : List Value) (h1 : us.length = 3) (h2 : ws.length = ([] : List Str).length) : bindArgs (PySem.W.fnOf D24.name D24.qual D24.params D24.body D24.scope .none kV doc pn an cdv ct) ⟨us, ([] : List Str).zip ws⟩ = pure (e24.ps.zip (gp (us ++ ws) [] [.a 0, .a 1, .a 2])) := by
  match us, h1, ws, h2 with
  | [u0, u1, u2], _, [], _ => kernel_rfl
theorem fd24 (K : PySem.W.Frag) (F : ∃ fd, FunD K e24.d.name e24.d.qual e24.d.params e24.d.body e24.d.scope (e24.d.dvs K) (e24.d.kws K) (e24.ad.at_ K) fd) : ∃ fd, FunD K e24.d.name e24.d.qual e24.d.params e24.d.body e24.d.scope (e24.d.dvs K) (e24.d.kws K) (e24.ad.at_ K) fd ∧ ∀ (n : Nat) (ks : List Str) (pm : List PM), (e24.f, n, ks, pm) ∈ ge.shp → Shp K fd e24.ps n ks pm (e24.d.dvs K) := by
  obtain ⟨fd, F⟩ := F
  refine ⟨fd, F, fun n ks pm h => ?_⟩
  have h2 := shm24 _ h rfl
  simp only [sh24, List.mem_cons, List.not_mem_nil, or_false, Prod.mk.injEq] at h2
  obtain ⟨rfl, rfl, rfl⟩ := h2
  exact shp_of F b24_0
theorem ck25 : chkB ge ⟨N25, t25.scope, none⟩ d25.sg.fresh d25.body t25.body = true := by decide +kernel
theorem sc25 : scopeB N25 e25.ps t25.scope = true := by decide +kernel
def sh25 : List (Nat × List Str × List PM) := [(2, [], [.a 0, .a 1])]
theorem shm25 : ∀ s ∈ gShp, s.1 = 25 → s.2 ∈ sh25 := by decide +kernel
theorem b25_0 (kV doc pn : Value) (an : Option Addr) (cdv ct : Value) (us ws : List Value) (h1 : us.length = 2) (h2 : ws.length = ([] : List Str).length) : bindArgs (PySem.W.fnOf D25.name D25.qual D25.params D25.body D25.scope .none kV doc pn an cdv ct) ⟨us, ([] : List Str).zip ws⟩ = pure (e25.ps.zip (gp (us ++ ws) [] [.a 0, .a 1])) := by
  match us, h1, ws, h2 with
  | [u0, u1], _, [], _ => kernel_rfl
theorem fd25 (K : PySem.W.Frag) (F : ∃ fd, FunD K e25.d.name e25.d.qual e25.d.params e25.d.body e25.d.scope (e25.d.dvs K) (e25.d.kws K) (e25.ad.at_ K) fd) : ∃ fd, FunD K e25.d.name e25.d.qual e25.d.params e25.d.body e25.d.scope (e25.d.dvs K) (e25.d.kws K) (e25.ad.at_ K) fd ∧ ∀ (n : Nat) (ks : List Str) (pm : List PM), (e25.f, n, ks, pm) ∈ ge.shp → Shp K fd e25.ps n ks pm (e25.d.dvs K) := by
  obtain ⟨fd, F⟩ := F
  refine ⟨fd, F, fun n ks pm h => ?_⟩
  have h2 := shm25 _ h rfl
  simp only [sh25, List.mem_cons, List.not_mem_nil, or_false, Prod.mk.injEq] at h2
  obtain ⟨rfl, rfl, rfl⟩ := h2
  exact shp_of F b25_0
theorem ck26 : chkB ge ⟨N26, t26.scope, none⟩ d26.sg.fresh d26.body t26.body = true := by decide +kernel
theorem sc26 : scopeB N26 e26.ps t26.scope = true := by decide +kernel
def sh26 : List (Nat × List Str × List PM) := [(3, [], [.a 0, .a 1, .a 2])]
theorem shm26 : ∀ s ∈ gShp, s.1 = 26 → s.2 ∈ sh26 := by decide +kernel
theorem b26_0 (kV doc pn : Value) (an : Option Addr) (cdv ct : Value) (us ws : List Value) (h1 : us.length = 3) (h2 : ws.length = ([] : List Str).length) : bindArgs (PySem.W.fnOf D26.name D26.qual D26.params D26.body D26.scope .none kV doc pn an cdv ct) ⟨us, ([] : List Str).zip ws⟩ = pure (e26.ps.zip (gp (us ++ ws) [] [.a 0, .a 1, .a 2])) := by
  match us, h1, ws, h2 with
  | [u0, u1, u2], _, [], _ => kernel_rfl
theorem fd26 (K : PySem.W.Frag) (F : ∃ fd, FunD K e26.d.name e26.d.qual e26.d.params e26.d.body e26.d.scope (e26.d.dvs K) (e26.d.kws K) (e26.ad.at_ K) fd) : ∃ fd, FunD K e26.d.name e26.d.qual e26.d.params e26.d.body e26.d.scope (e26.d.dvs K) (e26.d.kws K) (e26.ad.at_ K) fd ∧ ∀ (n : Nat) (ks : List Str) (pm : List PM), (e26.f, n, ks, pm) ∈ ge.shp → Shp K fd e26.ps n ks pm (e26.d.dvs K) := by
  obtain ⟨fd, F⟩ := F
  refine ⟨fd, F, fun n ks pm h => ?_⟩
  have h2 := shm26 _ h rfl
  simp only [sh26, List.mem_cons, List.not_mem_nil, or_false, Prod.mk.injEq] at h2
  obtain ⟨rfl, rfl, rfl⟩ := h2
  exact shp_of F b26_0
theorem ck27 : chkB ge ⟨N27, t27.scope, none⟩ d27.sg.fresh d27.body t27.body = true := by decide +kernel
theorem sc27 : scopeB N27 e27.ps t27.scope = true := by decide +kernel
def sh27 : List (Nat × List Str × List PM) := [(4, [], [.a 0, .a 1, .a 2, .a 3])]
theorem shm27 : ∀ s ∈ gShp, s.1 = 27 → s.2 ∈ sh27 := by decide +kernel
theorem b27_0 (kV doc pn : Value) (an : Option Addr) (cdv ct : Value) (us ws : List Value) (h1 : us.length = 4) (h2 : ws.length = ([] : List Str).length) : bindArgs (PySem.W.fnOf D27.name D27.qual D27.params D27.body D27.scope .none kV doc pn an cdv ct) ⟨us, ([] : List Str).zip ws⟩ = pure (e27.ps.zip (gp (us ++ ws) [] [.a 0, .a 1, .a 2, .a 3])) := by
  match us, h1, ws, h2 with
  | [u0, u1, u2, u3], _, [], _ => kernel_rfl
theorem fd27 (K : PySem.W.Frag) (F : ∃ fd, FunD K e27.d.name e27.d.qual e27.d.params e27.d.body e27.d.scope (e27.d.dvs K) (e27.d.kws K) (e27.ad.at_ K) fd) : ∃ fd, FunD K e27.d.name e27.d.qual e27.d.params e27.d.body e27.d.scope (e27.d.dvs K) (e27.d.kws K) (e27.ad.at_ K) fd ∧ ∀ (n : Nat) (ks : List Str) (pm : List PM), (e27.f, n, ks, pm) ∈ ge.shp → Shp K fd e27.ps n ks pm (e27.d.dvs K) := by
  obtain ⟨fd, F⟩ := F
  refine ⟨fd, F, fun n ks pm h => ?_⟩
  have h2 := shm27 _ h rfl
  simp only [sh27, List.mem_cons, List.not_mem_nil, or_false, Prod.mk.injEq] at h2
  obtain ⟨rfl, rfl, rfl⟩ := h2
  exact shp_of F b27_0
theorem ck28 : chkB ge ⟨N28, t28.scope, none⟩ d28.sg.fresh d28.body t28.body = true := by decide +kernel
theorem sc28 : scopeB N28 e28.ps t28.scope = true := by decide +kernel
def sh28 : List (Nat × List Str × List PM) := [(1, [], [.a 0])]
theorem shm28 : ∀ s ∈ gShp, s.1 = 28 → s.2 ∈ sh28 := by decide +kernel
theorem b28_0 (kV doc pn : Value) (an : Option Addr) (cdv ct : Value) (us ws : List Value) (h1 : us.length = 1) (h2 : ws.length = ([] : List Str).length) : bindArgs (PySem.W.fnOf D28.name D28.qual D28.params D28.body D28.scope .none kV doc pn an cdv ct) ⟨us, ([] : List Str).zip ws⟩ = pure (e28.ps.zip (gp (us ++ ws) [] [.a 0])) := by
  match us, h1, ws, h2 with
  | [u0], _, [], _ => kernel_rfl
theorem fd28 (K : PySem.W.Frag) (F : ∃ fd, FunD K e28.d.name e28.d.qual e28.d.params e28.d.body e28.d.scope (e28.d.dvs K) (e28.d.kws K) (e28.ad.at_ K) fd) : ∃ fd, FunD K e28.d.name e28.d.qual e28.d.params e28.d.body e28.d.scope (e28.d.dvs K) (e28.d.kws K) (e28.ad.at_ K) fd ∧ ∀ (n : Nat) (ks : List Str) (pm : List PM), (e28.f, n, ks, pm) ∈ ge.shp → Shp K fd e28.ps n ks pm (e28.d.dvs K) := by
  obtain ⟨fd, F⟩ := F
  refine ⟨fd, F, fun n ks pm h => ?_⟩
  have h2 := shm28 _ h rfl
  simp only [sh28, List.mem_cons, List.not_mem_nil, or_false, Prod.mk.injEq] at h2
  obtain ⟨rfl, rfl, rfl⟩ := h2
  exact shp_of F b28_0
theorem ck29 : chkB ge ⟨N29, t29.scope, none⟩ d29.sg.fresh d29.body t29.body = true := by decide +kernel
theorem sc29 : scopeB N29 e29.ps t29.scope = true := by decide +kernel
def sh29 : List (Nat × List Str × List PM) := [(1, [], [.a 0])]
theorem shm29 : ∀ s ∈ gShp, s.1 = 29 → s.2 ∈ sh29 := by decide +kernel
theorem b29_0 (kV doc pn : Value) (an : Option Addr) (cdv ct : Value) (us ws : List Value) (h1 : us.length = 1) (h2 : ws.length = ([] : List Str).length) : bindArgs (PySem.W.fnOf D29.name D29.qual D29.params D29.body D29.scope .none kV doc pn an cdv ct) ⟨us, ([] : List Str).zip ws⟩ = pure (e29.ps.zip (gp (us ++ ws) [] [.a 0])) := by
  match us, h1, ws, h2 with
  | [u0], _, [], _ => kernel_rfl
theorem fd29 (K : PySem.W.Frag) (F : ∃ fd, FunD K e29.d.name e29.d.qual e29.d.params e29.d.body e29.d.scope (e29.d.dvs K) (e29.d.kws K) (e29.ad.at_ K) fd) : ∃ fd, FunD K e29.d.name e29.d.qual e29.d.params e29.d.body e29.d.scope (e29.d.dvs K) (e29.d.kws K) (e29.ad.at_ K) fd ∧ ∀ (n : Nat) (ks : List Str) (pm : List PM), (e29.f, n, ks, pm) ∈ ge.shp → Shp K fd e29.ps n ks pm (e29.d.dvs K) := by
  obtain ⟨fd, F⟩ := F
  refine ⟨fd, F, fun n ks pm h => ?_⟩
  have h2 := shm29 _ h rfl
  simp only [sh29, List.mem_cons, List.not_mem_nil, or_false, Prod.mk.injEq] at h2
  obtain ⟨rfl, rfl, rfl⟩ := h2
  exact shp_of F b29_0
theorem setupL {K : PySem.W.Frag} {mg : Str → Option Value} {h : Heap} (X : K.In h) (G : h.Ns mainGlobals mg) (c : txt.says K) : ∃ fdOf, Setup (wkC cl0s K) mg T ge es0 fdOf := by
  refine setup_of (t := txt) X G c (by decide) (by decide) ?_ rfl ?_ ?_ ?_ ?_ ?_ ?_ ?_ ?_ ?_ (by decide) ?_ ?_ ?_ ?_
  · exact List.forall_mem_cons.mpr ⟨⟨e0, me0, rfl, rfl⟩, List.forall_mem_cons.mpr ⟨⟨e1, me1, rfl, rfl⟩, List.forall_mem_cons.mpr ⟨⟨e2, me2, rfl, rfl⟩, List.forall_mem_cons.mpr ⟨⟨e3, me3, rfl, rfl⟩, List.forall_mem_cons.mpr ⟨⟨e4, me4, rfl, rfl⟩, List.forall_mem_cons.mpr ⟨⟨e5, me5, rfl, rfl⟩, List.forall_mem_cons.mpr ⟨⟨e6, me6, rfl, rfl⟩, List.forall_mem_cons.mpr ⟨⟨e7, me7, rfl, rfl⟩, List.forall_mem_cons.mpr ⟨⟨e8, me8, rfl, rfl⟩, List.forall_mem_cons.mpr ⟨⟨e9, me9, rfl, rfl⟩, List.forall_mem_cons.mpr ⟨⟨e10, me10, rfl, rfl⟩, List.forall_mem_cons.mpr ⟨⟨e11, me11, rfl, rfl⟩, List.forall_mem_cons.mpr ⟨⟨e12, me12, rfl, rfl⟩, List.forall_mem_cons.mpr ⟨⟨e13, me13, rfl, rfl⟩, List.forall_mem_cons.mpr ⟨⟨e14, me14, rfl, rfl⟩, List.forall_mem_cons.mpr ⟨⟨e15, me15, rfl, rfl⟩, List.forall_mem_cons.mpr ⟨⟨e16, me16, rfl, rfl⟩, List.forall_mem_cons.mpr ⟨⟨e17, me17, rfl, rfl⟩, List.forall_mem_cons.mpr ⟨⟨e18, me18, rfl, rfl⟩, List.forall_mem_cons.mpr ⟨⟨e19, me19, rfl, rfl⟩, List.forall_mem_cons.mpr ⟨⟨e20, me20, rfl, rfl⟩, List.forall_mem_cons.mpr ⟨⟨e21, me21, rfl, rfl⟩, List.forall_mem_cons.mpr ⟨⟨e22, me22, rfl, rfl⟩, List.forall_mem_cons.mpr ⟨⟨e23, me23, rfl, rfl⟩, List.forall_mem_cons.mpr ⟨⟨e24, me24, rfl, rfl⟩, List.forall_mem_cons.mpr ⟨⟨e25, me25, rfl, rfl⟩, List.forall_mem_cons.mpr ⟨⟨e26, me26, rfl, rfl⟩, List.forall_mem_cons.mpr ⟨⟨e27, me27, rfl, rfl⟩, List.forall_mem_cons.mpr ⟨⟨e28, me28, rfl, rfl⟩, List.forall_mem_cons.mpr ⟨⟨e29, me29, rfl, rfl⟩, (fun _ h => nomatch h)⟩⟩⟩⟩⟩⟩⟩⟩⟩⟩⟩⟩⟩⟩⟩⟩⟩⟩⟩⟩⟩⟩⟩⟩⟩⟩⟩⟩⟩⟩
  · exact List.forall_mem_cons.mpr ⟨⟨_, rfl, List.mem_of_getElem? (i := 0) rfl⟩, List.forall_mem_cons.mpr ⟨⟨_, rfl, List.mem_of_getElem? (i := 1) rfl⟩, List.forall_mem_cons.mpr ⟨⟨_, rfl, List.mem_of_getElem? (i := 2) rfl⟩, List.forall_mem_cons.mpr ⟨⟨_, rfl, List.mem_of_getElem? (i := 3) rfl⟩, List.forall_mem_cons.mpr ⟨⟨_, rfl, List.mem_of_getElem? (i := 4) rfl⟩, List.forall_mem_cons.mpr ⟨⟨_, rfl, List.mem_of_getElem? (i := 5) rfl⟩, List.forall_mem_cons.mpr ⟨⟨_, rfl, List.mem_of_getElem? (i := 6) rfl⟩, List.forall_mem_cons.mpr ⟨⟨_, rfl, List.mem_of_getElem? (i := 7) rfl⟩, List.forall_mem_cons.mpr ⟨⟨_, rfl, List.mem_of_getElem? (i := 8) rfl⟩, List.forall_mem_cons.mpr ⟨⟨_, rfl, List.mem_of_getElem? (i := 9) rfl⟩, (fun _ h => nomatch h)⟩⟩⟩⟩⟩⟩⟩⟩⟩⟩
  · exact (List.forall_mem_cons.mpr ⟨fd0, List.forall_mem_cons.mpr ⟨fd1, List.forall_mem_cons.mpr ⟨fd2, List.forall_mem_cons.mpr ⟨fd3, List.forall_mem_cons.mpr ⟨fd4, List.forall_mem_cons.mpr ⟨fd5, List.forall_mem_cons.mpr ⟨fd6, List.forall_mem_cons.mpr ⟨fd7, List.forall_mem_cons.mpr ⟨fd8, List.forall_mem_cons.mpr ⟨fd9, List.forall_mem_cons.mpr ⟨fd10, List.forall_mem_cons.mpr ⟨fd11, List.forall_mem_cons.mpr ⟨fd12, List.forall_mem_cons.mpr ⟨fd13, List.forall_mem_cons.mpr ⟨fd14, List.forall_mem_cons.mpr ⟨fd15, List.forall_mem_cons.mpr ⟨fd16, List.forall_mem_cons.mpr ⟨fd17, List.forall_mem_cons.mpr ⟨fd18, List.forall_mem_cons.mpr ⟨fd19, List.forall_mem_cons.mpr ⟨fd20, List.forall_mem_cons.mpr ⟨fd21, List.forall_mem_cons.mpr ⟨fd22, List.forall_mem_cons.mpr ⟨fd23, List.forall_mem_cons.mpr ⟨fd24, List.forall_mem_cons.mpr ⟨fd25, List.forall_mem_cons.mpr ⟨fd26, List.forall_mem_cons.mpr ⟨fd27, List.forall_mem_cons.mpr ⟨fd28, List.forall_mem_cons.mpr ⟨fd29, (fun _ h => nomatch h)⟩⟩⟩⟩⟩⟩⟩⟩⟩⟩⟩⟩⟩⟩⟩⟩⟩⟩⟩⟩⟩⟩⟩⟩⟩⟩⟩⟩⟩⟩)
  · exact (List.forall_mem_cons.mpr ⟨sc0, List.forall_mem_cons.mpr ⟨sc1, List.forall_mem_cons.mpr ⟨sc2, List.forall_mem_cons.mpr ⟨sc3, List.forall_mem_cons.mpr ⟨sc4, List.forall_mem_cons.mpr ⟨sc5, List.forall_mem_cons.mpr ⟨sc6, List.forall_mem_cons.mpr ⟨sc7, List.forall_mem_cons.mpr ⟨sc8, List.forall_mem_cons.mpr ⟨sc9, List.forall_mem_cons.mpr ⟨sc10, List.forall_mem_cons.mpr ⟨sc11, List.forall_mem_cons.mpr ⟨sc12, List.forall_mem_cons.mpr ⟨sc13, List.forall_mem_cons.mpr ⟨sc14, List.forall_mem_cons.mpr ⟨sc15, List.forall_mem_cons.mpr ⟨sc16, List.forall_mem_cons.mpr ⟨sc17, List.forall_mem_cons.mpr ⟨sc18, List.forall_mem_cons.mpr ⟨sc19, List.forall_mem_cons.mpr ⟨sc20, List.forall_mem_cons.mpr ⟨sc21, List.forall_mem_cons.mpr ⟨sc22, List.forall_mem_cons.mpr ⟨sc23, List.forall_mem_cons.mpr ⟨sc24, List.forall_mem_cons.mpr ⟨sc25, List.forall_mem_cons.mpr ⟨sc26, List.forall_mem_cons.mpr ⟨sc27, List.forall_mem_cons.mpr ⟨sc28, List.forall_mem_cons.mpr ⟨sc29, (fun _ h => nomatch h)⟩⟩⟩⟩⟩⟩⟩⟩⟩⟩⟩⟩⟩⟩⟩⟩⟩⟩⟩⟩⟩⟩⟩⟩⟩⟩⟩⟩⟩⟩)
  · exact (List.forall_mem_cons.mpr ⟨⟨rfl, rfl, rfl⟩, List.forall_mem_cons.mpr ⟨⟨rfl, rfl, rfl⟩, List.forall_mem_cons.mpr ⟨⟨rfl, rfl, rfl⟩, List.forall_mem_cons.mpr ⟨⟨rfl, rfl, rfl⟩, List.forall_mem_cons.mpr ⟨⟨rfl, rfl, rfl⟩, List.forall_mem_cons.mpr ⟨⟨rfl, rfl, rfl⟩, List.forall_mem_cons.mpr ⟨⟨rfl, rfl, rfl⟩, List.forall_mem_cons.mpr ⟨⟨rfl, rfl, rfl⟩, List.forall_mem_cons.mpr ⟨⟨rfl, rfl, rfl⟩, List.forall_mem_cons.mpr ⟨⟨rfl, rfl, rfl⟩, List.forall_mem_cons.mpr ⟨⟨rfl, rfl, rfl⟩, List.forall_mem_cons.mpr ⟨⟨rfl, rfl, rfl⟩, List.forall_mem_cons.mpr ⟨⟨rfl, rfl, rfl⟩, List.forall_mem_cons.mpr ⟨⟨rfl, rfl, rfl⟩, List.forall_mem_cons.mpr ⟨⟨rfl, rfl, rfl⟩, List.forall_mem_cons.mpr ⟨⟨rfl, rfl, rfl⟩, List.forall_mem_cons.mpr ⟨⟨rfl, rfl, rfl⟩, List.forall_mem_cons.mpr ⟨⟨rfl, rfl, rfl⟩, List.forall_mem_cons.mpr ⟨⟨rfl, rfl, rfl⟩, List.forall_mem_cons.mpr ⟨⟨rfl, rfl, rfl⟩, List.forall_mem_cons.mpr ⟨⟨rfl, rfl, rfl⟩, List.forall_mem_cons.mpr ⟨⟨rfl, rfl, rfl⟩, List.forall_mem_cons.mpr ⟨⟨rfl, rfl, rfl⟩, List.forall_mem_cons.mpr ⟨⟨rfl, rfl, rfl⟩, List.forall_mem_cons.mpr ⟨⟨rfl, rfl, rfl⟩, List.forall_mem_cons.mpr ⟨⟨rfl, rfl, rfl⟩, List.forall_mem_cons.mpr ⟨⟨rfl, rfl, rfl⟩, List.forall_mem_cons.mpr ⟨⟨rfl, rfl, rfl⟩, List.forall_mem_cons.mpr ⟨⟨rfl, rfl, rfl⟩, List.forall_mem_cons.mpr ⟨⟨rfl, rfl, rfl⟩, (fun _ h => nomatch h)⟩⟩⟩⟩⟩⟩⟩⟩⟩⟩⟩⟩⟩⟩⟩⟩⟩⟩⟩⟩⟩⟩⟩⟩⟩⟩⟩⟩⟩⟩)
  · exact (List.forall_mem_cons.mpr ⟨ck0, List.forall_mem_cons.mpr ⟨ck1, List.forall_mem_cons.mpr ⟨ck2, List.forall_mem_cons.mpr ⟨ck3, List.forall_mem_cons.mpr ⟨ck4, List.forall_mem_cons.mpr ⟨ck5, List.forall_mem_cons.mpr ⟨ck6, List.forall_mem_cons.mpr ⟨ck7, List.forall_mem_cons.mpr ⟨ck8, List.forall_mem_cons.mpr ⟨ck9, List.forall_mem_cons.mpr ⟨ck10, List.forall_mem_cons.mpr ⟨ck11, List.forall_mem_cons.mpr ⟨ck12, List.forall_mem_cons.mpr ⟨ck13, List.forall_mem_cons.mpr ⟨ck14, List.forall_mem_cons.mpr ⟨ck15, List.forall_mem_cons.mpr ⟨ck16, List.forall_mem_cons.mpr ⟨ck17, List.forall_mem_cons.mpr ⟨ck18, List.forall_mem_cons.mpr ⟨ck19, List.forall_mem_cons.mpr ⟨ck20, List.forall_mem_cons.mpr ⟨ck21, List.forall_mem_cons.mpr ⟨ck22, List.forall_mem_cons.mpr ⟨ck23, List.forall_mem_cons.mpr ⟨ck24, List.forall_mem_cons.mpr ⟨ck25, List.forall_mem_cons.mpr ⟨ck26, List.forall_mem_cons.mpr ⟨ck27, List.forall_mem_cons.mpr ⟨ck28, List.forall_mem_cons.mpr ⟨ck29, (fun _ h => nomatch h)⟩⟩⟩⟩⟩⟩⟩⟩⟩⟩⟩⟩⟩⟩⟩⟩⟩⟩⟩⟩⟩⟩⟩⟩⟩⟩⟩⟩⟩⟩)
  · exact (List.forall_mem_cons.mpr ⟨rfl, List.forall_mem_cons.mpr ⟨rfl, List.forall_mem_cons.mpr ⟨rfl, List.forall_mem_cons.mpr ⟨rfl, List.forall_mem_cons.mpr ⟨rfl, List.forall_mem_cons.mpr ⟨rfl, List.forall_mem_cons.mpr ⟨rfl, List.forall_mem_cons.mpr ⟨rfl, List.forall_mem_cons.mpr ⟨rfl, List.forall_mem_cons.mpr ⟨rfl, List.forall_mem_cons.mpr ⟨rfl, List.forall_mem_cons.mpr ⟨rfl, List.forall_mem_cons.mpr ⟨rfl, List.forall_mem_cons.mpr ⟨rfl, List.forall_mem_cons.mpr ⟨rfl, List.forall_mem_cons.mpr ⟨rfl, List.forall_mem_cons.mpr ⟨rfl, List.forall_mem_cons.mpr ⟨rfl, List.forall_mem_cons.mpr ⟨rfl, List.forall_mem_cons.mpr ⟨rfl, List.forall_mem_cons.mpr ⟨rfl, List.forall_mem_cons.mpr ⟨rfl, List.forall_mem_cons.mpr ⟨rfl, List.forall_mem_cons.mpr ⟨rfl, List.forall_mem_cons.mpr ⟨rfl, List.forall_mem_cons.mpr ⟨rfl, List.forall_mem_cons.mpr ⟨rfl, List.forall_mem_cons.mpr ⟨rfl, List.forall_mem_cons.mpr ⟨rfl, List.forall_mem_cons.mpr ⟨rfl, (fun _ h => nomatch h)⟩⟩⟩⟩⟩⟩⟩⟩⟩⟩⟩⟩⟩⟩⟩⟩⟩⟩⟩⟩⟩⟩⟩⟩⟩⟩⟩⟩⟩⟩)
  · exact (List.forall_mem_cons.mpr ⟨⟨[], .head _, rfl, rfl⟩, List.forall_mem_cons.mpr ⟨⟨[], .head _, rfl, rfl⟩, List.forall_mem_cons.mpr ⟨⟨[], .head _, rfl, rfl⟩, List.forall_mem_cons.mpr ⟨⟨[], .head _, rfl, rfl⟩, List.forall_mem_cons.mpr ⟨⟨[], .head _, rfl, rfl⟩, List.forall_mem_cons.mpr ⟨⟨[], .head _, rfl, rfl⟩, List.forall_mem_cons.mpr ⟨⟨[], .head _, rfl, rfl⟩, List.forall_mem_cons.mpr ⟨⟨[], .head _, rfl, rfl⟩, List.forall_mem_cons.mpr ⟨⟨[], .head _, rfl, rfl⟩, List.forall_mem_cons.mpr ⟨⟨[], .head _, rfl, rfl⟩, List.forall_mem_cons.mpr ⟨⟨[], .head _, rfl, rfl⟩, List.forall_mem_cons.mpr ⟨⟨[], .head _, rfl, rfl⟩, List.forall_mem_cons.mpr ⟨⟨[], .head _, rfl, rfl⟩, List.forall_mem_cons.mpr ⟨⟨[], .head _, rfl, rfl⟩, List.forall_mem_cons.mpr ⟨⟨[], .head _, rfl, rfl⟩, List.forall_mem_cons.mpr ⟨⟨[], .head _, rfl, rfl⟩, List.forall_mem_cons.mpr ⟨⟨[], .head _, rfl, rfl⟩, List.forall_mem_cons.mpr ⟨⟨[], .head _, rfl, rfl⟩, List.forall_mem_cons.mpr ⟨⟨[], .head _, rfl, rfl⟩, List.forall_mem_cons.mpr ⟨⟨[], .head _, rfl, rfl⟩, List.forall_mem_cons.mpr ⟨⟨[], .head _, rfl, rfl⟩, List.forall_mem_cons.mpr ⟨⟨[], .head _, rfl, rfl⟩, List.forall_mem_cons.mpr ⟨⟨[], .head _, rfl, rfl⟩, List.forall_mem_cons.mpr ⟨⟨[], .head _, rfl, rfl⟩, List.forall_mem_cons.mpr ⟨⟨[], .head _, rfl, rfl⟩, List.forall_mem_cons.mpr ⟨⟨[], .head _, rfl, rfl⟩, List.forall_mem_cons.mpr ⟨⟨[], .head _, rfl, rfl⟩, List.forall_mem_cons.mpr ⟨⟨[], .head _, rfl, rfl⟩, List.forall_mem_cons.mpr ⟨⟨[], .head _, rfl, rfl⟩, List.forall_mem_cons.mpr ⟨⟨[], .head _, rfl, rfl⟩, (fun _ h => nomatch h)⟩⟩⟩⟩⟩⟩⟩⟩⟩⟩⟩⟩⟩⟩⟩⟩⟩⟩⟩⟩⟩⟩⟩⟩⟩⟩⟩⟩⟩⟩)
  · exact List.forall_mem_cons.mpr ⟨⟨cl0, rfl, rfl⟩, (fun _ h => nomatch h)⟩
  · exact List.forall_mem_cons.mpr ⟨⟨cl0, rfl, rfl⟩, (fun _ h => nomatch h)⟩
  · exact (fun _ h => nomatch h)
  · exact (fun _ h => nomatch h)
  · exact (fun _ h => nomatch h)
  · exact (fun _ h => nomatch h)
def nms0 : List Str := [("_wall" : Str), ("BadValue" : Str), ("InvalidText" : Str), ("InvalidDivisors" : Str), ("InvalidNumber" : Str), ("OtherSeats" : Str), ("InvalidParties" : Str), ("InvalidPiles" : Str), ("MOST_SEATS" : Str), ("MOST_DIVISOR" : Str)]
def nms1 : List Str := [("MOST_PARTIES" : Str), ("MOST_PILES" : Str), ("MOST_COUNT" : Str), ("LETTERS" : Str), ("DIGITS" : Str), ("LONGEST_NAME" : Str), ("LONGEST_NUMBER" : Str), ("ZERO" : Str), ("is_whole" : Str), ("is_integer" : Str)]
def nms2 : List Str := [("is_name" : Str), ("is_tuple_of" : Str), ("written" : Str), ("common" : Str), ("lowest" : Str), ("times" : Str), ("is_above" : Str), ("is_fraction" : Str), ("are_divisors" : Str), ("check_divisors" : Str)]
def nms3 : List Str := [("check_parties" : Str), ("is_pile" : Str), ("check_piles" : Str), ("words_of" : Str), ("parts_of" : Str), ("Night" : Str), ("tables_of" : Str), ("are_ballots" : Str), ("is_table" : Str), ("price_range" : Str)]
def nms4 : List Str := [("counts_of" : Str), ("is_price" : Str), ("need_of" : Str), ("step_of" : Str), ("needs_at" : Str), ("given_to" : Str), ("is_bloc" : Str), ("seats_in" : Str), ("check_rows" : Str), ("check_question" : Str)]
def nms5 : List Str := [("quotient" : Str), ("pairs_for" : Str), ("middle" : Str), ("counts_for" : Str), ("parted_by" : Str), ("certify_rules" : Str), ("night_of" : Str), ("is_priced" : Str), ("accepts_can" : Str), ("last_price" : Str)]
def nms6 : List Str := [("lacks_at" : Str), ("do_bar" : Str), ("accepts_barred" : Str), ("accepts_bloc" : Str), ("accepts_distance" : Str), ("are_counts" : Str), ("accepts_rules" : Str), ("accepts" : Str), ("_law_urn" : Str), ("_law_pull" : Str)]
def nms7 : List Str := [("_law_fits" : Str), ("_law_from" : Str), ("_law_ladder" : Str), ("_law_mate" : Str), ("_law_are_alike" : Str), ("_law_parts_them" : Str), ("_law_right" : Str)]
def nms : List Str := nms0 ++ nms1 ++ nms2 ++ nms3 ++ nms4 ++ nms5 ++ nms6 ++ nms7
abbrev RR : PySem.W.OpenRow := PySem.W.OpenLaw.row PySem.Challenge.rw_restballots_k59_whole_rules_certified
def as00 : List Addr := [2, 3, 6, 4, 21, 31, 51, 70, 89, 108, 127, 146, 149, 156, 163, 168, 175, 180, 187, 194, 201, 208, 215, 220, 227, 234, 239, 246, 253, 258, 377, 386, 391, 396, 403, 408, 415, 422, 429, 434]
def as01 : List Addr := [439, 444, 449, 456, 463, 470, 477, 484, 491, 498, 505, 512, 519, 524, 531, 536, 541, 548, 553, 558, 563, 568, 575, 582, 589, 596, 603, 610, 615, 622, 627, 634, 639, 0, 20, 30, 50, 69, 88, 107]
def as02 : List Addr := [126, 145, 155, 162, 167, 174, 179, 186, 193, 200, 207, 214, 219, 226, 233, 238, 245, 252, 257, 376, 385, 390, 395, 402, 407, 414, 421, 428, 433, 438, 443, 448, 455, 462, 469, 476, 483, 490, 497, 504]
def as03 : List Addr := [511, 518, 523, 530, 535, 540, 547, 552, 557, 562, 567, 574, 581, 588, 595, 602, 609, 614, 621, 626, 633, 638, 15, 16, 17, 18, 19, 29, 32, 48, 49, 67, 68, 86, 87, 105, 106, 124, 125, 143]
def as04 : List Addr := [144, 150, 151, 152, 153, 154, 157, 158, 159, 160, 161, 164, 165, 166, 169, 170, 171, 172, 173, 176, 177, 178, 181, 182, 183, 184, 185, 188, 189, 190, 191, 192, 195, 196, 197, 198, 199, 202, 203, 204]
def as05 : List Addr := [205, 206, 209, 210, 211, 212, 213, 216, 217, 218, 221, 222, 223, 224, 225, 228, 229, 230, 231, 232, 235, 236, 237, 240, 241, 242, 243, 244, 247, 248, 249, 250, 251, 254, 255, 256, 272, 281, 290, 298]
def as06 : List Addr := [306, 312, 320, 327, 334, 341, 346, 353, 360, 367, 374, 375, 378, 379, 382, 383, 384, 387, 388, 389, 392, 393, 394, 397, 398, 399, 400, 401, 404, 405, 406, 409, 410, 411, 412, 413, 416, 417, 418, 419]
def as07 : List Addr := [420, 423, 424, 425, 426, 427, 430, 431, 432, 435, 436, 437, 440, 441, 442, 445, 446, 447, 450, 451, 452, 453, 454, 457, 458, 459, 460, 461, 464, 465, 466, 467, 468, 471, 472, 473, 474, 475, 478, 479]
def as08 : List Addr := [480, 481, 482, 485, 486, 487, 488, 489, 492, 493, 494, 495, 496, 499, 500, 501, 502, 503, 506, 507, 508, 509, 510, 513, 514, 515, 516, 517, 520, 521, 522, 525, 526, 527, 528, 529, 532, 533, 534, 537]
def as09 : List Addr := [538, 539, 542, 543, 544, 545, 546, 549, 550, 551, 554, 555, 556, 559, 560, 561, 564, 565, 566, 569, 570, 571, 572, 573, 576, 577, 578, 579, 580, 583, 584, 585, 586, 587, 590, 591, 592, 593, 594, 597]
def as010 : List Addr := [598, 599, 600, 601, 604, 605, 606, 607, 608, 611, 612, 613, 616, 617, 618, 619, 620, 623, 624, 625, 628, 629, 630, 631, 632, 635, 636, 637, 47, 66, 85, 104, 123, 142, 271, 267, 279, 280, 289, 297]
def as011 : List Addr := [305, 311, 319, 326, 333, 340, 345, 352, 359, 366, 373, 42, 43, 44, 45, 46, 61, 62, 63, 64, 65, 80, 81, 82, 83, 84, 99, 100, 101, 102, 103, 118, 119, 120, 121, 122, 137, 138, 139, 140]
def as012 : List Addr := [141, 268, 269, 270, 266, 278, 282, 288, 296, 304, 310, 318, 321, 322, 323, 324, 325, 328, 329, 330, 331, 332, 335, 336, 337, 338, 339, 342, 343, 344, 347, 348, 349, 350, 351, 354, 355, 356, 357, 358]
def as013 : List Addr := [361, 362, 363, 364, 365, 368, 369, 370, 371, 372]
def as0 : List Addr := as00 ++ as01 ++ as02 ++ as03 ++ as04 ++ as05 ++ as06 ++ as07 ++ as08 ++ as09 ++ as010 ++ as011 ++ as012 ++ as013
noncomputable abbrev hk : PySem.W.Hook := txt.hookL as0
noncomputable def ob (s : PySem.W.SharedT) : AlC := txt.obsL as0 (HandSHeadRun.getT s)
theorem ob_eq (s : PySem.W.SharedT) : ob s = hk.obs s.abs := Txt0.obsL_eq (HandSHeadRun.getT_eq s)
theorem run_split {S α β γ : Type} {e : Option S} {f1 : S → α} {f2 : S → β} {f3 : S → γ} {v1 : α} {v2 : β} {v3 : γ} (h1 : e.map f1 = some v1) (h2 : e.map f2 = some v2) (h3 : e.map f3 = some v3) : e.map (fun s => (f1 s, f2 s, f3 s)) = some (v1, v2, v3) := by
  cases e with
  | none => cases h1
  | some s =>
    simp only [Option.map_some, Option.some.injEq] at *
    rw [h1, h2, h3]
open PySem.W HandSHeadRun in
theorem run1 (w : World) (os : OsState) : (endF (stepQ (denQ tabQ) RR.prog w) 20000 RR.prog w os).map (fun s => looksF RR.prog (boot_heap w.params) s.abs) = some true := by kernel_rfl
open PySem.W HandSHeadRun in
theorem run2 (w : World) (os : OsState) : (endF (stepQ (denQ tabQ) RR.prog w) 20000 RR.prog w os).map (fun s => seenQ (PySem.W.view RR.prog [89]) nms (importedModules RR.prog.main.body) (fun s => xlAt (PySem.W.view RR.prog [89]) [] s && recOk RR.toRowW.records s) s.abs) = some (openGood (PySem.W.view RR.prog [89]) nms) := by kernel_rfl
open PySem.W HandSHeadRun in
theorem run3 (w : World) (os : OsState) : (endF (stepQ (denQ tabQ) RR.prog w) 20000 RR.prog w os).map ob = some (hk.val w) := by kernel_rfl
theorem run (w : World) : HandSHeadRun.RunEq RR (PySem.W.view RR.prog [89]) hk ob 20000 nms w := by
  intro os
  exact run_split (run1 w os) (run2 w os) (run3 w os)
end DL
open PySem PySem.W PySem.Calls PyProof.Rows
theorem PySem.Challenge.cw_restballots_k59_whole_rules_certified_holds : PySem.Challenge.rw_restballots_k59_whole_rules_certified.Holds := by
  w_on; o_law
  refine HandSHeadRun.head_any (r := OpenLaw.row PySem.Challenge.rw_restballots_k59_whole_rules_certified) (q := view (OpenLaw.row PySem.Challenge.rw_restballots_k59_whole_rules_certified).prog [89]) (H := DL.hk) (ob := DL.ob) (M := 20000) (loose := DL.nms) (d := HandSHeadRun.topDef (OpenLaw.row PySem.Challenge.rw_restballots_k59_whole_rules_certified).prog 89) (kwd := []) DL.ob_eq
    (by kernel_rfl) (fun s => by kernel_rfl) DL.run (by kernel_rfl) (by kernel_rfl) (by kernel_rfl) (by rfl) (by first | assumption | decide +kernel) (by decide +kernel) ⟨rfl, rfl, rfl, rfl, rfl, by decide +kernel⟩ ?hw ?hc
  case hw => w_witness2
  case hc =>
    refine DL.walkX (n := 63) (k := 2 * 40) (x := "_law_script") rfl (by decide) rfl ⟨rfl, by decide, by decide⟩ fun w mg fa h Y G hmg => ?_
    obtain ⟨K, X, c⟩ := Y
    obtain ⟨fdOf, S⟩ := DL.setupL X G c
    have z := DL.law_of (P := PySem.Challenge.pw_restballots_k59_whole_rules_certified) (w := w) (N := 40) (m := 63) (x := "_law_script") (e := DL.e29) S DL.me29 rfl hmg rfl (List.forall_mem_cons.mpr ⟨fun h => absurd h (by decide), List.forall_mem_cons.mpr ⟨fun h => absurd h (by decide), List.forall_mem_cons.mpr ⟨fun h => absurd h (by decide), List.forall_mem_cons.mpr ⟨fun h => absurd h (by decide), List.forall_mem_cons.mpr ⟨fun h => absurd h (by decide), List.forall_mem_cons.mpr ⟨fun h => absurd h (by decide), List.forall_mem_cons.mpr ⟨fun h => absurd h (by decide), List.forall_mem_cons.mpr ⟨fun h => absurd h (by decide), List.forall_mem_cons.mpr ⟨fun h => absurd h (by decide), List.forall_mem_cons.mpr ⟨fun h => absurd h (by decide), List.forall_mem_cons.mpr ⟨fun h => absurd h (by decide), List.forall_mem_cons.mpr ⟨fun h => absurd h (by decide), List.forall_mem_cons.mpr ⟨fun h => absurd h (by decide), List.forall_mem_cons.mpr ⟨fun h => absurd h (by decide), List.forall_mem_cons.mpr ⟨fun h => absurd h (by decide), List.forall_mem_cons.mpr ⟨fun h => absurd h (by decide), List.forall_mem_cons.mpr ⟨fun h => absurd h (by decide), List.forall_mem_cons.mpr ⟨fun h => absurd h (by decide), List.forall_mem_cons.mpr ⟨fun h => absurd h (by decide), List.forall_mem_cons.mpr ⟨fun h => absurd h (by decide), List.forall_mem_cons.mpr ⟨fun h => absurd h (by decide), List.forall_mem_cons.mpr ⟨fun h => absurd h (by decide), List.forall_mem_cons.mpr ⟨fun h => absurd h (by decide), List.forall_mem_cons.mpr ⟨fun h => absurd h (by decide), List.forall_mem_cons.mpr ⟨fun h => absurd h (by decide), List.forall_mem_cons.mpr ⟨fun h => absurd h (by decide), List.forall_mem_cons.mpr ⟨fun h => absurd h (by decide), List.forall_mem_cons.mpr ⟨fun h => absurd h (by decide), List.forall_mem_cons.mpr ⟨fun h => absurd h (by decide), List.forall_mem_cons.mpr ⟨fun _ => rfl, (fun _ h => nomatch h)⟩⟩⟩⟩⟩⟩⟩⟩⟩⟩⟩⟩⟩⟩⟩⟩⟩⟩⟩⟩⟩⟩⟩⟩⟩⟩⟩⟩⟩⟩) (by decide) ⟨rfl, rfl, rfl⟩ DL.Pl.plain
    obtain ⟨fd, sp, z1, z2, z3⟩ := z
    exact ⟨K, fd, sp, X, z1, z2, z3⟩
