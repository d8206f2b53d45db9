import PyProof.Rows.All
import Wide.All
import OpenK.AllK
import Wide.FinOn
import HandS.ForMost
import HandS.Deep
import HandS.DictComp
import HandS.IsInst
import HandS.Strs
import HandS.TupAny
import HandS.TupMul
import HandS.TupLe
import HandS.Wide
import HandS.Zip
import HandS.Rev
import HandS.Style
import HandS.TryOnly
import HandS.RaiseMore
import PyProof.ReprRoads
import HandS.Small
import PyProof.CallFns
import HandS.TupSets
import HandS.SetFor
import HandS.Defaults
import HandS.Head0
import HandS.Head1
import HandS.Head2
import HandS.HeadEnd
import HandS.HeadHook1
import HandS.HeadHook2
import KE.GoesMore
import KE.KStateDown
import PySem.Challenge.RW_allseen_k10_exchanges_put_together
set_option Elab.async false
set_option linter.all false
set_option maxRecDepth 100000
set_option maxHeartbeats 0
section
/-! Ir0: the data, slots and states of a small language of expressions and statements, and what its texts mean. No machine here. -/
namespace IR
open PySem

abbrev D := PyData
abbrev Cells := List (List Int)

inductive Slot where
  | emp
  | val (d : D)
  | box (ds : List D)
  | dbox (kvs : List (D × D))
  | brw (d : D)
  | cell (n : Nat)

inductive Arg where
  | val (d : D)
  | brw (d : D)
  | cell (n : Nat)

structure State where
  env : List Slot
  cs : Cells

abbrev FSem := List Arg → Cells → Option (D × Cells)

/-! ### small looks at data -/
mutual
def lf : D → Bool
  | .none | .bool _ | .int _ | .str _ => true
  | .tuple xs => lfAll xs
  | .list _ => false
  | .dict _ => false
def lfAll : List D → Bool
  | [] => true
  | x :: xs => lf x && lfAll xs
end
/-- what a borrowed thing must be so that it may be read -/
def brwOk : D → Bool
  | .list xs => lfAll xs
  | .dict _ => false
  | d => lf d

def truthy : D → Option Bool
  | .none => some false
  | .bool b => some b
  | .int i => some (i != 0)
  | .str x => if x.length ≤ sizeLine then some (x.length != 0) else none
  | .list xs => some (!xs.isEmpty)
  | .tuple xs => some (!xs.isEmpty)
  | .dict kvs => some (!kvs.isEmpty)

def rdSlot (cs : Cells) : Slot → Option D
  | .emp => none
  | .val d => some d
  | .box ds => some (.list ds)
  | .dbox kvs => some (.dict kvs)
  | .brw d => if brwOk d then some d else none
  | .cell n => (cs[n]?).map fun ns => .list (ns.map .int)

/-- a name read so that its thing may go elsewhere: a box is given up -/
def lkSlot (s : State) (i : Nat) : Option (D × State) :=
  match s.env[i]? with
  | some (.val d) => some (d, s)
  | some (.box ds) => some (.list ds, { s with env := s.env.set i (.val (.list ds)) })
  | some (.dbox kvs) => some (.dict kvs, { s with env := s.env.set i (.val (.dict kvs)) })
  | some (.brw d) => if lf d then some (d, s) else none
  | _ => none

inductive Pre where
  | late (i : Nat)
  | now (d : D)
def post (s : State) : Pre → Option D
  | .late i => (s.env[i]?).bind (rdSlot s.cs)
  | .now d => some d

/-! ### operators -/
inductive Bop where
  | add | sub | mul | fdiv | mod | pow
  deriving DecidableEq
inductive Cop where
  | eq | ne | lt | le | gt | ge | in_ | nin | is_ | isn
  deriving DecidableEq

def sizeOk (n : Nat) : Bool := decide (n ≤ 1000000)
def mkL (ds : List D) : Option D := if sizeOk ds.length then some (.list ds) else none
def mkT (ds : List D) : Option D := if sizeOk ds.length then some (.tuple ds) else none
def mulOk (i j : Int) : Bool := decide (i.natAbs < 2 ^ 64) || decide (j.natAbs < 2 ^ 64) || decide (i.natAbs.log2 + j.natAbs.log2 < 1000000)
def bitsOf (i : Int) : Nat := i.natAbs.log2 + 1

def binop : Bop → D → D → Option D
  | .add, .int i, .int j => some (.int (i + j))
  | .sub, .int i, .int j => some (.int (i - j))
  | .mul, .int i, .int j => if mulOk i j then some (.int (i * j)) else none
  | .fdiv, .int i, .int j => if 0 < j ∧ j.natAbs.log2 < 9000 then some (.int (i / j)) else none
  | .mod, .int i, .int j => if 0 < j then some (.int (i % j)) else none
  | .pow, .int i, .int j => if 0 ≤ j ∧ (bitsOf i : Int) * j ≤ 2 ^ 27 then some (.int (i ^ j.toNat)) else none
  | .add, .str x, .str y => if x.length + y.length ≤ sizeLine then some (.str (x ++ y)) else none
  | .add, .list xs, .list ys => mkL (xs ++ ys)
  | .add, .tuple xs, .tuple ys => mkT (xs ++ ys)
  | .mul, .list xs, .int k => if -(2 ^ 62) ≤ k ∧ k < 2 ^ 62 then mkL (List.replicate k.toNat xs).flatten else none
  | .mul, .tuple xs, .int k => if xs ≠ [] ∧ 2 ≤ k ∧ k ≤ 1000 ∧ xs.length ≤ 1000 then some (.tuple (List.replicate k.toNat xs).flatten) else none
  | _, _, _ => none

def isScal : D → Bool
  | .none | .bool _ | .int _ | .str _ => true
  | _ => false
/-- same kind and value (for scalars) -/
def eqD (a b : D) : Option Bool :=
  match a, b with
  | .int i, .int j => some (i == j)
  | .str x, .str y => some (decide (x = y))
  | a, b => if SeqAt.shaped a && SeqAt.shaped b then some (PyData.eqv a b) else none

def keyEq : D → D → Bool
  | .int i, .int j => decide (i = j)
  | .str x, .str y => decide (x = y)
  | _, _ => false
def inKeys (k : D) (kvs : List (D × D)) : Bool := kvs.any fun p => keyEq p.1 k
def look (k : D) (kvs : List (D × D)) : Option D := (kvs.find? fun p => keyEq p.1 k).map (·.2)
def put (k v : D) (kvs : List (D × D)) : List (D × D) := if inKeys k kvs then kvs.map (fun p => if keyEq p.1 k then (p.1, v) else p) else kvs ++ [(k, v)]
def isKey : D → Bool
  | .int _ | .str _ => true
  | _ => false

def inD (a b : D) : Option Bool :=
  match b with
  | .list ds => if SeqAt.shaped a && SeqAt.shaped (.list ds) then some (ds.any fun z => PyData.eqv z a) else none
  | .tuple ds => if SeqAt.shaped a && SeqAt.shaped (.tuple ds) then some (ds.any fun z => PyData.eqv z a) else none
  | .dict kvs => if isKey a then some (inKeys a kvs) else none
  | .str z => match a with
    | .str x => if x.cps.size = 1 then some (decide ((x.cps.getD 0 0) ∈ z.cps.toList)) else none
    | _ => none
  | _ => none
def isNone : D → Bool
  | .none => true
  | _ => false
def isD (a b : D) : Option Bool :=
  match b with
  | .none => some (isNone a)
  | .bool c => match a with
    | .bool d => some (d == c)
    | _ => none
  | _ => none

def cmpop : Cop → D → D → Option Bool
  | .eq, a, b => eqD a b
  | .ne, a, b => (eqD a b).map (!·)
  | .lt, .int i, .int j => some (decide (i < j))
  | .le, .int i, .int j => some (decide (i ≤ j))
  | .gt, .int i, .int j => some (decide (j < i))
  | .ge, .int i, .int j => some (decide (j ≤ i))
  | .in_, a, b => inD a b
  | .nin, a, b => (inD a b).map (!·)
  | .is_, a, b => isD a b
  | .isn, a, b => (isD a b).map (!·)
  | _, _, _ => none

/-! ### places, slices -/
def idxD (d k : D) : Option D :=
  match d with
  | .list ds => match k with
    | .int i => L2.atI ds i
    | _ => none
  | .tuple ds => match k with
    | .int i => L2.atI ds i
    | _ => none
  | .str z => match k with
    | .int i => if z.length ≤ sizeLine then (L2.atI z.cps.toList i).map fun c => .str ⟨#[c]⟩ else none
    | _ => none
  | .dict kvs => if isKey k then look k kvs else none
  | _ => none
def cut {α : Type} (xs : List α) (lo hi : Option Int) : List α := (xs.drop (HT.sIx xs.length 0 lo)).take (HT.sIx xs.length xs.length hi - HT.sIx xs.length 0 lo)
def sliceD (d : D) (lo hi : Option Int) : Option D :=
  match d with
  | .list ds => some (.list (cut ds lo hi))
  | .tuple ds => some (.tuple (cut ds lo hi))
  | _ => none
def sliceL (d : D) (lo hi : Option Int) : Option (List D) :=
  match d with
  | .list ds => some (cut ds lo hi)
  | _ => none
def partOf (d : D) : Option Int :=
  match d with
  | .int i => some i
  | _ => none

/-! ### built-in things of one operand -/
inductive Ty where
  | int | bool | str | tuple | list | dict
  deriving DecidableEq
def tyName : Ty → String
  | .int => "int"
  | .bool => "bool"
  | .str => "str"
  | .tuple => "tuple"
  | .list => "list"
  | .dict => "dict"
def isTy (d : D) : Ty → Bool
  | .int => match d with
    | .int _ => true
    | .bool _ => true
    | _ => false
  | .bool => match d with
    | .bool _ => true
    | _ => false
  | .str => match d with
    | .str _ => true
    | _ => false
  | .tuple => match d with
    | .tuple _ => true
    | _ => false
  | .list => match d with
    | .list _ => true
    | _ => false
  | .dict => match d with
    | .dict _ => true
    | _ => false

def lenD : D → Option D
  | .list ds => some (.int ds.length)
  | .tuple ds => some (.int ds.length)
  | .str x => if x.length ≤ sizeLine then some (.int x.length) else none
  | .dict kvs => some (.int kvs.length)
  | _ => none
def intD : D → Option D
  | .int i => some (.int i)
  | .bool b => some (.int (if b then 1 else 0))
  | _ => none
def strD : D → Option D
  | .int i => if i.natAbs.log2 < 1920 then some (.str (toString i : String)) else none
  | .str x => some (.str x)
  | _ => none
def allBools : List D → Option (List Bool)
  | [] => some []
  | .bool b :: r => (allBools r).map (b :: ·)
  | _ => none
def allInts : List D → Option (List Int)
  | [] => some []
  | .int b :: r => (allInts r).map (b :: ·)
  | _ => none
def allStrs : List D → Option (List Str)
  | [] => some []
  | .str b :: r => (allStrs r).map (b :: ·)
  | _ => none
def allD : D → Option D
  | .list ds => (allBools ds).map fun bs => .bool (bs.all id)
  | _ => none
def anyD : D → Option D
  | .list ds => (allBools ds).map fun bs => .bool (bs.any id)
  | _ => none
def sumD : D → Option D
  | .list ds => (allInts ds).map fun ns => .int ns.sum
  | _ => none
def listL : D → Option (List D)
  | .list ds => some ds
  | .tuple ds => some ds
  | _ => none
def listD (d : D) : Option D := (listL d).map .list
def tupleD : D → Option D
  | .list ds => some (.tuple ds)
  | .tuple ds => some (.tuple ds)
  | _ => none
def revL : D → Option (List D)
  | .list ds => some ds.reverse
  | _ => none
def revD : D → Option D
  | .list ds => some (.list ds.reverse)
  | .tuple ds => some (.tuple ds.reverse)
  | _ => none
def maxD : D → D → Option D
  | .int i, .int j => some (.int (if j > i then j else i))
  | _, _ => none
def minD : D → D → Option D
  | .int i, .int j => some (.int (if j < i then j else i))
  | _, _ => none
/-- the texts, sorted -/
def insS (x : Str) : List Str → List Str
  | [] => [x]
  | y :: r => if decide (x.cps.toList < y.cps.toList) then x :: y :: r else y :: insS x r
def sortS (xs : List Str) : List Str := xs.foldr insS []
def sortedL : D → Option (List D)
  | .list ds => (allStrs ds).bind fun xs => if xs.length < 64 then some ((sortS xs).map .str) else none
  | .tuple ds => (allStrs ds).bind fun xs => if xs.length < 64 then some ((sortS xs).map .str) else none
  | _ => none
/-- how many unlike scalars, or tuples of scalars -/
def keyOfD : D → Option L2.Key
  | .int i => some (.inl i)
  | .str x => some (.inr x)
  | _ => none
def keysOf : List D → Option (List L2.Key)
  | [] => some []
  | d :: r => (keyOfD d).bind fun k => (keysOf r).map (k :: ·)
def tupKeysOf : List D → Option (List (List L2.Key))
  | [] => some []
  | .tuple ds :: r => (keysOf ds).bind fun k => (tupKeysOf r).map (k :: ·)
  | _ => none
def uniq {α : Type} [DecidableEq α] (l : List α) : List α := l.foldl (fun acc x => if x ∈ acc then acc else acc ++ [x]) []
def lenSetL (ds : List D) : Option D := if ds.length < 64 then (match keysOf ds with
    | some ks => some (.int ((uniq ks).length : Nat))
    | none => (tupKeysOf ds).map fun kss => .int ((uniq kss).length : Nat)) else none
def lenSetD : D → Option D
  | .list ds => lenSetL ds
  | .tuple ds => lenSetL ds
  | _ => none
def reprD (d : D) : Option D := if d.canLay0 = true ∧ d.showable = true ∧ d.hasDict = false ∧ d.shown.length ≤ sizeLine ∧ d.depth ≤ 60 then some (.str d.shown) else none
/-- x.index(y) -/
def indexD (d k : D) : Option D :=
  match d with
  | .list ds => if SeqAt.shaped k && SeqAt.shaped (.list ds) then (ds.findIdx? fun z => PyData.eqv z k).map fun (j : Nat) => .int (j : Int) else none
  | .tuple ds => match k with
    | .str z => (allStrs ds).bind fun ys => (ys.findIdx? fun y => decide (y = z)).map fun (j : Nat) => .int (j : Int)
    | _ => none
  | _ => none
end IR

end
section
/-! Ir1: how data stand in the abstract heap of the hand layer; what holds between a state of the small language and a frame. -/
namespace IR
open PySem PySem.Spec L2

def keyD : Key → D
  | .inl i => .int i
  | .inr x => .str x
def mutk : Option HO → Prop
  | some (.lst _) => True
  | some (.dK _) => True
  | some (.dT _) => True
  | _ => False
theorem mutk_some {o : Option HO} (h : mutk o) : ∃ u, o = some u := by
  cases o with
  | none => exact h.elim
  | some u => exact ⟨u, rfl⟩

/-- a tuple that stands at a: a tracked one, its object known and without a dict of its own; or one of the module's own -/
def TupR (K : PySem.W.Frag) (H : Hp) (a : Addr) (vs : List V) : Prop :=
  (∃ o, H a = some (.frz o (.tup vs)) ∧ o.dict = none) ∨
    ∃ (o : Obj) (its : Array Value) (n : Nat), K.lookup a = some o ∧ o.cls = .type "tuple" ∧ o.dict = none ∧ o.data = .seq its n ∧ its.size ≤ sizeLine ∧ Vals vs its.toList
def TupAt (K : PySem.W.Frag) (W : Addr → Prop) (H : Hp) (a : Addr) (vs : List V) : Prop :=
  (∃ o, H a = some (.frz o (.tup vs)) ∧ o.dict = none ∧ ¬ W a) ∨
    ∃ (o : Obj) (its : Array Value) (n : Nat), K.lookup a = some o ∧ o.cls = .type "tuple" ∧ o.dict = none ∧ o.data = .seq its n ∧ its.size ≤ sizeLine ∧ Vals vs its.toList
theorem TupR.sq {K : PySem.W.Frag} {H : Hp} {a : Addr} {vs : List V} (t : TupR K H a vs) : SqT K H a vs := by
  rcases t with ⟨o, h, _⟩ | ⟨o, its, n, h1, h2, _, h3⟩
  · exact .inl (.inr ⟨o, h⟩)
  · exact .inr ⟨o, its, n, h1, h2, h3⟩
section
variable (K : PySem.W.Frag) (W : Addr → Prop) (H : Hp)
mutual
def Rep : D → V → Prop
  | .none, v => v = .non
  | .bool b, v => v = .bl b
  | .int i, v => v = .int i
  | .str x, v => v = .str x
  | .list ds, v => ∃ a vs, v = .ref a ∧ ¬ W a ∧ H a = some (.lst vs) ∧ RepL ds vs
  | .tuple ds, v => ∃ a vs, v = .ref a ∧ TupAt K W H a vs ∧ RepL ds vs
  | .dict kvs, v => ∃ a ks, v = .ref a ∧ ¬ W a ∧ H a = some (.dK ks) ∧ RepKV kvs ks
def RepL : List D → List V → Prop
  | [], vs => vs = []
  | d :: ds, vs => ∃ v r, vs = v :: r ∧ Rep d v ∧ RepL ds r
def RepKV : List (D × D) → List (Key × V) → Prop
  | [], ks => ks = []
  | (k, d) :: r, ks => ∃ q v t, ks = (q, v) :: t ∧ keyD q = k ∧ Rep d v ∧ RepKV r t
end
/-- what may be read: the thing's own address may be forbidden, or locked -/
def RepR (d : D) (v : V) : Prop := match d with
  | .list ds => ∃ a vs, v = .ref a ∧ Rd H a (.lst vs) ∧ RepL K W H ds vs
  | .tuple ds => ∃ a vs, v = .ref a ∧ TupR K H a vs ∧ RepL K W H ds vs
  | .dict kvs => ∃ a ks, v = .ref a ∧ H a = some (.dK ks) ∧ RepKV K W H kvs ks
  | d => Rep K W H d v
/-- .. and does not stand in W -/
def RepB (d : D) (v : V) : Prop := match d with
  | .list ds => ∃ a vs, v = .ref a ∧ ¬ W a ∧ Rd H a (.lst vs) ∧ RepL K W H ds vs
  | d => Rep K W H d v
end

def Stp (W : Addr → Prop) (H : Hp) (W' : Addr → Prop) (H' : Hp) : Prop := ∀ a o, H a = some o → ¬ W a → H' a = some o ∧ ¬ W' a
theorem Stp.refl {W : Addr → Prop} {H : Hp} : Stp W H W H := fun _ _ h n => ⟨h, n⟩
theorem Stp.trans {W W1 W2 : Addr → Prop} {H H1 H2 : Hp} (a : Stp W H W1 H1) (b : Stp W1 H1 W2 H2) : Stp W H W2 H2 := fun x o h n => by
  obtain ⟨h1, n1⟩ := a x o h n
  exact b x o h1 n1

section
variable {K : PySem.W.Frag} {W W' : Addr → Prop} {H H' : Hp}
theorem TupAt.stp (st : Stp W H W' H') {a : Addr} {vs : List V} (t : TupAt K W H a vs) : TupAt K W' H' a vs := by
  rcases t with ⟨o, h, d, n⟩ | h
  · obtain ⟨h', n'⟩ := st a _ h n
    exact .inl ⟨o, h', d, n'⟩
  · exact .inr h
mutual
theorem Rep.stp (st : Stp W H W' H') : ∀ (d : D) (v : V), Rep K W H d v → Rep K W' H' d v
  | .none, v, h => by simp only [Rep] at h ⊢; exact h
  | .bool b, v, h => by simp only [Rep] at h ⊢; exact h
  | .int i, v, h => by simp only [Rep] at h ⊢; exact h
  | .str x, v, h => by simp only [Rep] at h ⊢; exact h
  | .list ds, v, h => by
    simp only [Rep] at h ⊢
    obtain ⟨a, vs, e, n, ha, hl⟩ := h
    obtain ⟨ha', n'⟩ := st a _ ha n
    exact ⟨a, vs, e, n', ha', RepL.stp st ds vs hl⟩
  | .tuple ds, v, h => by
    simp only [Rep] at h ⊢
    obtain ⟨a, vs, e, t, hl⟩ := h
    exact ⟨a, vs, e, t.stp st, RepL.stp st ds vs hl⟩
  | .dict kvs, v, h => by
    simp only [Rep] at h ⊢
    obtain ⟨a, ks, e, n, ha, hl⟩ := h
    obtain ⟨ha', n'⟩ := st a _ ha n
    exact ⟨a, ks, e, n', ha', RepKV.stp st kvs ks hl⟩
theorem RepL.stp (st : Stp W H W' H') : ∀ (ds : List D) (vs : List V), RepL K W H ds vs → RepL K W' H' ds vs
  | [], vs, h => by simp only [RepL] at h ⊢; exact h
  | d :: ds, vs, h => by
    simp only [RepL] at h ⊢
    obtain ⟨v, r, e, h1, h2⟩ := h
    exact ⟨v, r, e, Rep.stp st d v h1, RepL.stp st ds r h2⟩
theorem RepKV.stp (st : Stp W H W' H') : ∀ (kvs : List (D × D)) (ks : List (Key × V)), RepKV K W H kvs ks → RepKV K W' H' kvs ks
  | [], ks, h => by simp only [RepKV] at h ⊢; exact h
  | (k, d) :: r, ks, h => by
    simp only [RepKV] at h ⊢
    obtain ⟨q, v, t, e, e2, h1, h2⟩ := h
    exact ⟨q, v, t, e, e2, Rep.stp st d v h1, RepKV.stp st r t h2⟩
end
/-- fewer are forbidden -/
theorem Rep.mono (hw : ∀ a, W' a → W a) {d : D} {v : V} (h : Rep K W H d v) : Rep K W' H d v := h.stp (fun a o e n => ⟨e, fun z => n (hw a z)⟩) d v
theorem RepL.mono (hw : ∀ a, W' a → W a) {d : List D} {v : List V} (h : RepL K W H d v) : RepL K W' H d v := h.stp (fun a o e n => ⟨e, fun z => n (hw a z)⟩) d v
theorem RepKV.mono (hw : ∀ a, W' a → W a) {d : List (D × D)} {v : List (Key × V)} (h : RepKV K W H d v) : RepKV K W' H d v := h.stp (fun a o e n => ⟨e, fun z => n (hw a z)⟩) d v

/-! list-free things hang on tuples alone -/
theorem TupAt.lf (st : ∀ a o u, H a = some (.frz o u) → H' a = some (.frz o u) ∧ ¬ W' a) {a : Addr} {vs : List V} (t : TupAt K W H a vs) : TupAt K W' H' a vs := by
  rcases t with ⟨o, h, d, _⟩ | h
  · obtain ⟨h', n'⟩ := st a _ _ h
    exact .inl ⟨o, h', d, n'⟩
  · exact .inr h
mutual
theorem Rep.lf (st : ∀ a o u, H a = some (.frz o u) → H' a = some (.frz o u) ∧ ¬ W' a) : ∀ (d : D) (v : V), lf d = true → Rep K W H d v → Rep K W' H' d v
  | .none, v, _, h => by simp only [Rep] at h ⊢; exact h
  | .bool b, v, _, h => by simp only [Rep] at h ⊢; exact h
  | .int i, v, _, h => by simp only [Rep] at h ⊢; exact h
  | .str x, v, _, h => by simp only [Rep] at h ⊢; exact h
  | .list ds, v, l, h => by simp [IR.lf] at l
  | .tuple ds, v, l, h => by
    simp only [Rep] at h ⊢
    obtain ⟨a, vs, e, t, hl⟩ := h
    exact ⟨a, vs, e, t.lf st, RepL.lf st ds vs (by simpa [IR.lf] using l) hl⟩
  | .dict kvs, v, l, h => by simp [IR.lf] at l
theorem RepL.lf (st : ∀ a o u, H a = some (.frz o u) → H' a = some (.frz o u) ∧ ¬ W' a) : ∀ (ds : List D) (vs : List V), lfAll ds = true → RepL K W H ds vs → RepL K W' H' ds vs
  | [], vs, _, h => by simp only [RepL] at h ⊢; exact h
  | d :: ds, vs, l, h => by
    simp only [RepL] at h ⊢
    obtain ⟨v, r, e, h1, h2⟩ := h
    have l' : IR.lf d = true ∧ lfAll ds = true := by simpa [lfAll] using l
    exact ⟨v, r, e, Rep.lf st d v l'.1 h1, RepL.lf st ds r l'.2 h2⟩
end

theorem TupAt.sq {a : Addr} {vs : List V} (t : TupAt K W H a vs) : TupR K H a vs := by
  rcases t with ⟨o, h, d, _⟩ | h
  · exact .inl ⟨o, h, d⟩
  · exact .inr h
theorem Rep.r {d : D} {v : V} (h : Rep K W H d v) : RepR K W H d v := by
  cases d with
  | list ds =>
    simp only [Rep] at h
    obtain ⟨a, vs, e, n, ha, hl⟩ := h
    exact ⟨a, vs, e, .inl ha, hl⟩
  | tuple ds =>
    simp only [Rep] at h
    obtain ⟨a, vs, e, t, hl⟩ := h
    exact ⟨a, vs, e, t.sq, hl⟩
  | dict kvs =>
    simp only [Rep] at h
    obtain ⟨a, ks, e, n, ha, hl⟩ := h
    exact ⟨a, ks, e, ha, hl⟩
  | none => exact h
  | bool b => exact h
  | int i => exact h
  | str x => exact h
theorem Rep.b {d : D} {v : V} (h : Rep K W H d v) : RepB K W H d v := by
  cases d with
  | list ds =>
    simp only [Rep] at h
    obtain ⟨a, vs, e, n, ha, hl⟩ := h
    exact ⟨a, vs, e, n, .inl ha, hl⟩
  | tuple ds => exact h
  | dict kvs => exact h
  | none => exact h
  | bool b => exact h
  | int i => exact h
  | str x => exact h
theorem RepB.r {d : D} {v : V} (h : RepB K W H d v) : RepR K W H d v := by
  cases d with
  | list ds =>
    obtain ⟨a, vs, e, n, ha, hl⟩ := h
    exact ⟨a, vs, e, ha, hl⟩
  | tuple ds => exact Rep.r h
  | dict kvs => exact Rep.r h
  | none => exact h
  | bool b => exact h
  | int i => exact h
  | str x => exact h
theorem RepB.stp (st : Stp W H W' H') {d : D} {v : V} (h : RepB K W H d v) : RepB K W' H' d v := by
  cases d with
  | list ds =>
    obtain ⟨a, vs, e, n, ha, hl⟩ := h
    rcases ha with ha | ⟨o, ha⟩
    · obtain ⟨ha', n'⟩ := st a _ ha n
      exact ⟨a, vs, e, n', .inl ha', hl.stp st _ _⟩
    · obtain ⟨ha', n'⟩ := st a _ ha n
      exact ⟨a, vs, e, n', .inr ⟨o, ha'⟩, hl.stp st _ _⟩
  | tuple ds => exact Rep.stp st _ v h
  | dict kvs => exact Rep.stp st _ v h
  | none => exact h
  | bool b => exact h
  | int i => exact h
  | str x => exact h
theorem RepL.length : ∀ {ds : List D} {vs : List V}, RepL K W H ds vs → vs.length = ds.length
  | [], vs, h => by simp only [RepL] at h; simp [h]
  | d :: ds, vs, h => by
    simp only [RepL] at h
    obtain ⟨v, r, e, h1, h2⟩ := h
    subst e
    simp [RepL.length h2]
theorem RepL.append : ∀ {ds es : List D} {vs us : List V}, RepL K W H ds vs → RepL K W H es us → RepL K W H (ds ++ es) (vs ++ us)
  | [], _, vs, us, h, h' => by simp only [RepL] at h; subst h; exact h'
  | d :: ds, es, vs, us, h, h' => by
    simp only [RepL] at h
    obtain ⟨v, r, e, h1, h2⟩ := h
    subst e
    simp only [List.cons_append, RepL]
    exact ⟨v, r ++ us, rfl, h1, RepL.append h2 h'⟩
theorem RepL.get : ∀ {ds : List D} {vs : List V} {i : Nat} {d : D}, RepL K W H ds vs → ds[i]? = some d → ∃ v, vs[i]? = some v ∧ Rep K W H d v
  | [], _, _, _, _, e => by simp at e
  | d :: ds, vs, 0, x, h, e => by
    simp only [RepL] at h
    obtain ⟨v, r, e', h1, h2⟩ := h
    subst e'
    simp at e
    subst e
    exact ⟨v, by simp, h1⟩
  | d :: ds, vs, i + 1, x, h, e => by
    simp only [RepL] at h
    obtain ⟨v, r, e', h1, h2⟩ := h
    subst e'
    obtain ⟨w, e1, e2⟩ := RepL.get (i := i) h2 (by simpa using e)
    exact ⟨w, by simpa using e1, e2⟩
theorem RepL.take : ∀ (n : Nat) {ds : List D} {vs : List V}, RepL K W H ds vs → RepL K W H (ds.take n) (vs.take n)
  | 0, _, _, _ => by simp [RepL]
  | n + 1, [], _, h => by simp only [RepL] at h; subst h; simp [RepL]
  | n + 1, d :: ds, vs, h => by
    simp only [RepL] at h
    obtain ⟨v, r, e, h1, h2⟩ := h
    subst e
    simp only [List.take_succ_cons, RepL]
    exact ⟨v, r.take n, rfl, h1, RepL.take n h2⟩
theorem RepL.drop : ∀ (n : Nat) {ds : List D} {vs : List V}, RepL K W H ds vs → RepL K W H (ds.drop n) (vs.drop n)
  | 0, _, _, h => by simpa using h
  | n + 1, [], _, h => by simp only [RepL] at h; subst h; simp [RepL]
  | n + 1, d :: ds, vs, h => by
    simp only [RepL] at h
    obtain ⟨v, r, e, h1, h2⟩ := h
    subst e
    simpa using RepL.drop n h2
theorem RepL.nil : RepL K W H [] [] := by simp [RepL]
theorem RepL.one {d : D} {v : V} (h : Rep K W H d v) : RepL K W H [d] [v] := by
  simp only [RepL]; exact ⟨v, [], rfl, h, rfl⟩
theorem RepL.cons {d : D} {v : V} {ds : List D} {vs : List V} (h : Rep K W H d v) (h' : RepL K W H ds vs) : RepL K W H (d :: ds) (v :: vs) := by
  simp only [RepL]; exact ⟨v, vs, rfl, h, h'⟩
theorem RepL.reverse : ∀ {ds : List D} {vs : List V}, RepL K W H ds vs → RepL K W H ds.reverse vs.reverse
  | [], vs, h => by simp only [RepL] at h; subst h; simp [RepL]
  | d :: ds, vs, h => by
    simp only [RepL] at h
    obtain ⟨v, r, e, h1, h2⟩ := h
    subst e
    simp only [List.reverse_cons]
    exact RepL.append (RepL.reverse h2) (RepL.one h1)
theorem RepL.rep {ds : List D} {vs : List V} (h : RepL K W H ds vs) : ∀ n : Nat, RepL K W H (List.replicate n ds).flatten (List.replicate n vs).flatten
  | 0 => by simp [RepL]
  | n + 1 => by
    rw [List.replicate_succ, List.replicate_succ, List.flatten_cons, List.flatten_cons]
    exact RepL.append h (RepL.rep h n)
theorem RepL.set {x : D} {u : V} (hx : Rep K W H x u) : ∀ {ds : List D} {vs : List V} (i : Nat), RepL K W H ds vs → RepL K W H (ds.set i x) (vs.set i u)
  | [], vs, i, h => by simp only [RepL] at h; subst h; simp [RepL]
  | d :: ds, vs, 0, h => by
    simp only [RepL] at h
    obtain ⟨v, r, e, h1, h2⟩ := h
    subst e
    exact RepL.cons hx h2
  | d :: ds, vs, i + 1, h => by
    simp only [RepL] at h
    obtain ⟨v, r, e, h1, h2⟩ := h
    subst e
    exact RepL.cons h1 (RepL.set hx i h2)
theorem RepL.ints : ∀ (ns : List Int), RepL K W H (ns.map .int) (ns.map V.int)
  | [] => by simp [RepL]
  | n :: ns => by
    simp only [List.map_cons]
    exact RepL.cons (by simp [Rep]) (RepL.ints ns)
end
end IR

end
section
/-! Ir2: the invariant of a frame (Good) and how each kind of step keeps it. -/
namespace IR
open PySem PySem.Spec L2

structure Fr where
  K : PySem.W.Frag
  W0 : Addr → Prop
  H0 : Hp
  C0 : List Addr
  w0 : ∀ a, W0 a → mutk (H0 a)
  c0 : ∀ a ∈ C0, mutk (H0 a)

def isBox : Slot → Bool
  | .box _ => true
  | .dbox _ => true
  | _ => false
/-- the box of slot i stands at a -/
def bxAt (env : List Slot) (σ : St) (i : Nat) (a : Addr) : Prop := ∃ sl, env[i]? = some sl ∧ isBox sl = true ∧ σ[i]? = some (some (.ref a))
def Wf (F : Fr) (C : List Addr) (env : List Slot) (σ : St) : Addr → Prop := fun a => F.W0 a ∨ a ∈ C ∨ ∃ i, bxAt env σ i a

def CellsOk (H : Hp) (C : List Addr) (cs : Cells) : Prop := C.length = cs.length ∧ ∀ (n : Nat) (a : Addr), C[n]? = some a → ∃ ns, cs[n]? = some ns ∧ H a = some (.lst (ns.map V.int))

def SlotOk (F : Fr) (C : List Addr) (W : Addr → Prop) (σ : St) (H : Hp) (i : Nat) : Slot → Prop
  | .emp => True
  | .val d => ∃ v, σ[i]? = some (some v) ∧ Rep F.K W H d v
  | .box ds => ∃ a vs, σ[i]? = some (some (.ref a)) ∧ H a = some (.lst vs) ∧ RepL F.K W H ds vs
  | .dbox kvs => ∃ a ks, σ[i]? = some (some (.ref a)) ∧ H a = some (.dK ks) ∧ RepKV F.K W H kvs ks
  | .brw d => ∃ v, σ[i]? = some (some v) ∧ RepB F.K (fun a => a ∈ F.C0) F.H0 d v
  | .cell n => ∃ a, C[n]? = some a ∧ σ[i]? = some (some (.ref a))

/-- Z: what is forbidden besides -/
structure Good (F : Fr) (C : List Addr) (Z : Addr → Prop) (s : State) (σ : St) (H : Hp) : Prop where
  len : s.env.length = σ.length
  slot : ∀ i sl, s.env[i]? = some sl → SlotOk F C (fun a => Wf F C s.env σ a ∨ Z a) σ H i sl
  cell : CellsOk H C s.cs
  cnd : C.Nodup
  cpre : ∃ r, C = F.C0 ++ r ∧ ∀ a ∈ r, F.H0 a = none
  sep : ∀ i j a, bxAt s.env σ i a → bxAt s.env σ j a → i = j
  apart : ∀ i a, bxAt s.env σ i a → a ∉ C
  fresh : ∀ i a, bxAt s.env σ i a → F.H0 a = none
  ext : ∀ a o, F.H0 a = some o → a ∉ F.C0 → H a = some o

abbrev Z0 : Addr → Prop := fun _ => False

section
variable {F : Fr} {C C' : List Addr} {Z Z' : Addr → Prop} {s s' : State} {σ : St} {H H' : Hp}

theorem Good.c0 (G : Good F C Z s σ H) {a : Addr} (h : a ∈ F.C0) : a ∈ C := by
  obtain ⟨r, e, _⟩ := G.cpre
  rw [e]
  exact List.mem_append_left _ h
theorem CellsOk.mem (c : CellsOk H C cs) {a : Addr} (h : a ∈ C) : ∃ ns : List Int, H a = some (.lst (ns.map V.int)) := by
  obtain ⟨n, hn, e⟩ := List.getElem_of_mem h
  obtain ⟨ns, _, q⟩ := c.2 n a (by rw [List.getElem?_eq_getElem hn, e])
  exact ⟨ns, q⟩
theorem Good.bx (G : Good F C Z s σ H) {i : Nat} {a : Addr} (h : bxAt s.env σ i a) : mutk (H a) := by
  obtain ⟨sl, e1, e2, e3⟩ := h
  have q := G.slot i sl e1
  cases sl with
  | box ds =>
    obtain ⟨b, vs, e4, e5, _⟩ := q
    rw [e3] at e4
    cases e4
    rw [e5]
    trivial
  | dbox ks =>
    obtain ⟨b, vs, e4, e5, _⟩ := q
    rw [e3] at e4
    cases e4
    rw [e5]
    trivial
  | emp => cases e2
  | val d => cases e2
  | brw d => cases e2
  | cell n => cases e2
theorem Good.mut (G : Good F C Z s σ H) {a : Addr} (h : Wf F C s.env σ a) : mutk (H a) := by
  rcases h with h | h | ⟨i, h⟩
  · have q := F.w0 a h
    obtain ⟨o, e⟩ := mutk_some q
    by_cases hc : a ∈ F.C0
    · obtain ⟨ns, e2⟩ := G.cell.mem (G.c0 hc)
      rw [e2]
      trivial
    · rw [G.ext a o e hc, ← e]
      exact q
  · obtain ⟨ns, e2⟩ := G.cell.mem h
    rw [e2]
    trivial
  · exact G.bx h
theorem Good.nw (G : Good F C Z s σ H) {a : Addr} (h : H a = none) : ¬ Wf F C s.env σ a := fun w => by
  obtain ⟨o, e⟩ := mutk_some (G.mut w)
  rw [h] at e
  cases e
theorem Good.h0 (G : Good F C Z s σ H) {a : Addr} (h : H a = none) : F.H0 a = none := by
  cases e : F.H0 a with
  | none => rfl
  | some o =>
    by_cases hc : a ∈ F.C0
    · obtain ⟨ns, e2⟩ := G.cell.mem (G.c0 hc)
      rw [h] at e2
      cases e2
    · rw [G.ext a o e hc] at h
      cases h
theorem Good.tup (G : Good F C Z s σ H) {a : Addr} {o : Obj} {u : HO} (h : H a = some (.frz o u)) : ¬ Wf F C s.env σ a := fun w => by
  have q := G.mut w
  rw [h] at q
  exact q

/-- the state's names and cells as they are, the heap stepped -/
theorem Good.heap (G : Good F C Z s σ H) (st : Stp (fun a => Wf F C s.env σ a ∨ Z a) H (fun a => Wf F C s.env σ a ∨ Z' a) H')
    (hb : ∀ i a, bxAt s.env σ i a → H' a = H a) (hc : ∀ a ∈ C, H' a = H a) (hx : ∀ a o, F.H0 a = some o → a ∉ F.C0 → H a = some o → H' a = some o) : Good F C Z' s σ H' where
  len := G.len
  slot := fun i sl e => by
    have q := G.slot i sl e
    cases sl with
    | emp => trivial
    | val d =>
      obtain ⟨v, e1, r⟩ := q
      exact ⟨v, e1, r.stp st d v⟩
    | box ds =>
      obtain ⟨a, vs, e1, e2, r⟩ := q
      exact ⟨a, vs, e1, (hb i a ⟨_, e, rfl, e1⟩).trans e2, r.stp st ds vs⟩
    | dbox ds =>
      obtain ⟨a, vs, e1, e2, r⟩ := q
      exact ⟨a, vs, e1, (hb i a ⟨_, e, rfl, e1⟩).trans e2, r.stp st ds vs⟩
    | brw d => exact q
    | cell n => exact q
  cell := ⟨G.cell.1, fun n a e => by
    obtain ⟨ns, e1, e2⟩ := G.cell.2 n a e
    exact ⟨ns, e1, (hc a (List.mem_of_getElem? e)).trans e2⟩⟩
  cnd := G.cnd
  cpre := G.cpre
  sep := G.sep
  apart := G.apart
  fresh := G.fresh
  ext := fun a o e n => hx a o e n (G.ext a o e n)

/-- a new thing is laid: nothing that stood leans on it -/
theorem Good.alloc (G : Good F C Z s σ H) {p : Addr} {o : HO} (hp : H p = none) (hz : ∀ a, Z' a → a = p ∨ Z a) : Good F C Z' s σ (upd H p o) := by
  have ne : ∀ {a u}, H a = some u → a ≠ p := fun {a u} e z => by
    rw [z, hp] at e
    cases e
  refine G.heap (fun a u e n => ⟨by rw [upd_ne (ne e)]; exact e, fun w => ?_⟩) (fun i a h => ?_) (fun a h => ?_) fun a u e n q => by rw [upd_ne (ne q)]; exact q
  · rcases w with w | w
    · exact n (.inl w)
    · rcases hz a w with w | w
      · exact ne e w
      · exact n (.inr w)
  · obtain ⟨u, e⟩ := mutk_some (G.bx h)
    exact upd_ne (ne e)
  · obtain ⟨ns, e⟩ := G.cell.mem h
    exact upd_ne (ne e)
theorem Stp.alloc {W W' : Addr → Prop} {p : Addr} {o : HO} (hp : H p = none) (hw : ∀ a, W' a → W a ∨ a = p) : Stp W H W' (upd H p o) := fun a u e n => by
  have ne : a ≠ p := fun z => by
    rw [z, hp] at e
    cases e
  exact ⟨by rw [upd_ne ne]; exact e, fun w => (hw a w).elim n ne⟩
theorem Good.drop (G : Good F C Z s σ H) : Good F C Z0 s σ H :=
  G.heap (fun a o e n => ⟨e, fun w => n (w.elim .inl (fun z => z.elim))⟩) (fun _ _ _ => rfl) (fun _ _ => rfl) fun _ _ _ _ q => q

/-! ### setting a slot -/
theorem bxAt_set {env : List Slot} {sl : Slot} {o : Option V} {i j : Nat} {a : Addr} (h : bxAt (env.set i sl) (σ.set i o) j a) : (j ≠ i ∧ bxAt env σ j a) ∨ (j = i ∧ isBox sl = true ∧ o = some (.ref a)) := by
  obtain ⟨u, e1, e2, e3⟩ := h
  by_cases hj : i = j
  · subst hj
    refine .inr ⟨rfl, ?_⟩
    rw [List.getElem?_set] at e1 e3
    simp only [if_true] at e1 e3
    split at e1
    · cases e1
      split at e3
      · cases e3
        exact ⟨e2, rfl⟩
      · cases e3
    · cases e1
  · rw [List.getElem?_set_ne hj] at e1 e3
    exact .inl ⟨fun z => hj z.symm, u, e1, e2, e3⟩

/-- the slot i is stored: what it holds from now on is said by ok -/
theorem Good.store (G : Good F C Z s σ H) {i : Nat} {sl : Slot} {o : Option V} {Z' : Addr → Prop} (hz : ∀ a, Z' a → Z a)
    (nb : ∀ a, isBox sl = true → o = some (.ref a) → Z a ∧ ¬ Wf F C s.env σ a ∧ F.H0 a = none)
    (ok : ∀ W, (∀ a, W a → (Wf F C s.env σ a ∨ Z a)) → i < σ.length → SlotOk F C W (σ.set i o) H i sl) :
    Good F C Z' { s with env := s.env.set i sl } (σ.set i o) H := by
  have wf : ∀ a, Wf F C (s.env.set i sl) (σ.set i o) a → Wf F C s.env σ a ∨ Z a := fun a w => by
    rcases w with w | w | ⟨j, w⟩
    · exact .inl (.inl w)
    · exact .inl (.inr (.inl w))
    · rcases bxAt_set w with ⟨_, w⟩ | ⟨_, w1, w2⟩
      · exact .inl (.inr (.inr ⟨j, w⟩))
      · exact .inr (nb a w1 w2).1
  have wf2 : ∀ a, (Wf F C (s.env.set i sl) (σ.set i o) a ∨ Z' a) → Wf F C s.env σ a ∨ Z a := fun a w => w.elim (wf a) fun w => .inr (hz a w)
  refine ⟨by simpa using G.len, fun j u e => ?_, G.cell, G.cnd, G.cpre, fun j k a h1 h2 => ?_, fun j a h => ?_, fun j a h => ?_, G.ext⟩
  · by_cases hj : i = j
    · subst hj
      have hi : i < s.env.length := by
        by_cases hi : i < s.env.length
        · exact hi
        · rw [List.getElem?_eq_none (by simpa using hi)] at e
          cases e
      rw [List.getElem?_set_self hi] at e
      cases e
      exact ok _ wf2 (by rw [← G.len]; exact hi)
    · have e' : s.env[j]? = some u := by rw [← e]; exact (List.getElem?_set_ne hj).symm
      have q := G.slot j u e'
      have es : (σ.set i o)[j]? = σ[j]? := List.getElem?_set_ne hj
      cases u with
      | emp => trivial
      | val d =>
        obtain ⟨v, e1, r⟩ := q
        exact ⟨v, es.trans e1, r.mono wf2⟩
      | box ds =>
        obtain ⟨a, vs, e1, e2, r⟩ := q
        exact ⟨a, vs, es.trans e1, e2, r.mono wf2⟩
      | dbox ds =>
        obtain ⟨a, vs, e1, e2, r⟩ := q
        exact ⟨a, vs, es.trans e1, e2, r.mono wf2⟩
      | brw d =>
        obtain ⟨v, e1, r⟩ := q
        exact ⟨v, es.trans e1, r⟩
      | cell n =>
        obtain ⟨a, e1, e2⟩ := q
        exact ⟨a, e1, es.trans e2⟩
  · rcases bxAt_set h1 with ⟨n1, w1⟩ | ⟨n1, w1, v1⟩
    · rcases bxAt_set h2 with ⟨n2, w2⟩ | ⟨n2, w2, v2⟩
      · exact G.sep j k a w1 w2
      · exact absurd (Or.inr (Or.inr ⟨j, w1⟩)) (nb a w2 v2).2.1
    · rcases bxAt_set h2 with ⟨n2, w2⟩ | ⟨n2, w2, v2⟩
      · exact absurd (Or.inr (Or.inr ⟨k, w2⟩)) (nb a w1 v1).2.1
      · rw [n1, n2]
  · rcases bxAt_set h with ⟨n1, w1⟩ | ⟨n1, w1, v1⟩
    · exact G.apart j a w1
    · exact fun z => (nb a w1 v1).2.1 (.inr (.inl z))
  · rcases bxAt_set h with ⟨n1, w1⟩ | ⟨n1, w1, v1⟩
    · exact G.fresh j a w1
    · exact (nb a w1 v1).2.2

theorem Good.set_val (G : Good F C Z0 s σ H) {i : Nat} {d : D} {v : V} (r : Rep F.K (Wf F C s.env σ) H d v) :
    Good F C Z0 { s with env := s.env.set i (.val d) } (σ.set i (some v)) H :=
  G.store (fun _ z => z) (fun a z => by cases z) fun W hw hi => ⟨v, List.getElem?_set_self hi, r.mono fun a w => (hw a w).elim id fun z => z.elim⟩
theorem Good.set_emp (G : Good F C Z0 s σ H) {i : Nat} {o : Option V} : Good F C Z0 { s with env := s.env.set i .emp } (σ.set i o) H :=
  G.store (fun _ z => z) (fun a z => by cases z) fun W hw hi => trivial
theorem Good.set_box {p : Addr} (G : Good F C (fun a => a = p) s σ H) {i : Nat} {ds : List D} {vs : List V} (hw : ¬ Wf F C s.env σ p) (h0 : F.H0 p = none) (hp : H p = some (.lst vs))
    (r : RepL F.K (fun a => Wf F C s.env σ a ∨ a = p) H ds vs) : Good F C Z0 { s with env := s.env.set i (.box ds) } (σ.set i (some (.ref p))) H :=
  G.store (fun _ z => z.elim) (fun a _ e => by cases e; exact ⟨rfl, hw, h0⟩) fun W hw' hi => ⟨p, vs, List.getElem?_set_self hi, hp, r.mono hw'⟩
theorem Good.set_dbox {p : Addr} (G : Good F C (fun a => a = p) s σ H) {i : Nat} {ds : List (D × D)} {vs : List (Key × V)} (hw : ¬ Wf F C s.env σ p) (h0 : F.H0 p = none) (hp : H p = some (.dK vs))
    (r : RepKV F.K (fun a => Wf F C s.env σ a ∨ a = p) H ds vs) : Good F C Z0 { s with env := s.env.set i (.dbox ds) } (σ.set i (some (.ref p))) H :=
  G.store (fun _ z => z.elim) (fun a _ e => by cases e; exact ⟨rfl, hw, h0⟩) fun W hw' hi => ⟨p, vs, List.getElem?_set_self hi, hp, r.mono hw'⟩
theorem set_same {α : Type} : ∀ {l : List α} {i : Nat} {x : α}, l[i]? = some x → l.set i x = l
  | [], _, _, h => by simp at h
  | y :: l, 0, x, h => by simp at h; subst h; rfl
  | y :: l, i + 1, x, h => by rw [List.set_cons_succ, set_same (by simpa using h)]
/-- a box is given up -/
theorem Good.freeze (G : Good F C Z0 s σ H) {i : Nat} {ds : List D} (e : s.env[i]? = some (.box ds)) :
    ∃ v, σ[i]? = some (some v) ∧ Good F C Z0 { s with env := s.env.set i (.val (.list ds)) } σ H ∧ Stp (Wf F C s.env σ) H (Wf F C (s.env.set i (.val (.list ds))) σ) H ∧
      Rep F.K (Wf F C (s.env.set i (.val (.list ds))) σ) H (.list ds) v := by
  obtain ⟨a, vs, e1, e2, r⟩ := G.slot i _ e
  have hi : i < s.env.length := (List.getElem?_eq_some_iff.mp e).1
  have es : σ.set i (some (.ref a)) = σ := set_same e1
  have wf : ∀ b, Wf F C (s.env.set i (.val (.list ds))) σ b → Wf F C s.env σ b ∧ b ≠ a := fun b w => by
    rcases w with w | w | ⟨j, w⟩
    · refine ⟨.inl w, fun z => ?_⟩
      subst z
      have q := F.w0 b w
      rw [G.fresh i b ⟨_, e, rfl, e1⟩] at q
      exact q
    · exact ⟨.inr (.inl w), fun z => G.apart i a ⟨_, e, rfl, e1⟩ (z ▸ w)⟩
    · rw [← es] at w
      rcases bxAt_set w with ⟨n, w2⟩ | ⟨_, w2, _⟩
      · refine ⟨.inr (.inr ⟨j, w2⟩), fun z => ?_⟩
        rw [z] at w2
        exact n (G.sep j i a w2 ⟨_, e, rfl, e1⟩)
      · cases w2
  have rep : ∀ W : Addr → Prop, (∀ b, W b → Wf F C s.env σ b ∧ b ≠ a) → Rep F.K W H (.list ds) (.ref a) := fun W hw => by
    simp only [Rep]
    exact ⟨a, vs, rfl, fun w => (hw a w).2 rfl, e2, r.mono fun b w => .inl (hw b w).1⟩
  refine ⟨.ref a, e1, ?_, fun b o h n => ⟨h, fun w => n (wf b w).1⟩, rep _ wf⟩
  refine ⟨by simpa using G.len, fun j u ej => ?_, G.cell, G.cnd, G.cpre, fun j k b h1 h2 => ?_, fun j b h => ?_, fun j b h => ?_, G.ext⟩
  · by_cases hj : i = j
    · subst hj
      rw [List.getElem?_set_self hi] at ej
      cases ej
      exact ⟨.ref a, e1, rep _ fun b w => w.elim (wf b) fun z => z.elim⟩
    · rw [List.getElem?_set_ne hj] at ej
      have q := G.slot j u ej
      have mono : ∀ b, (Wf F C (s.env.set i (.val (.list ds))) σ b ∨ Z0 b) → Wf F C s.env σ b ∨ Z0 b := fun b w => w.elim (fun w => .inl (wf b w).1) .inr
      cases u with
      | emp => trivial
      | val d =>
        obtain ⟨v, q1, r⟩ := q
        exact ⟨v, q1, r.mono mono⟩
      | box ds =>
        obtain ⟨b, us, q1, q2, r⟩ := q
        exact ⟨b, us, q1, q2, r.mono mono⟩
      | dbox ds =>
        obtain ⟨b, us, q1, q2, r⟩ := q
        exact ⟨b, us, q1, q2, r.mono mono⟩
      | brw d => exact q
      | cell n => exact q
  · rw [← es] at h1 h2
    rcases bxAt_set h1 with ⟨_, h1⟩ | ⟨_, z, _⟩
    · rcases bxAt_set h2 with ⟨_, h2⟩ | ⟨_, z, _⟩
      · exact G.sep j k b h1 h2
      · cases z
    · cases z
  · rw [← es] at h
    rcases bxAt_set h with ⟨_, h⟩ | ⟨_, z, _⟩
    · exact G.apart j b h
    · cases z
  · rw [← es] at h
    rcases bxAt_set h with ⟨_, h⟩ | ⟨_, z, _⟩
    · exact G.fresh j b h
    · cases z
theorem Good.freezeD (G : Good F C Z0 s σ H) {i : Nat} {ds : List (D × D)} (e : s.env[i]? = some (.dbox ds)) :
    ∃ v, σ[i]? = some (some v) ∧ Good F C Z0 { s with env := s.env.set i (.val (.dict ds)) } σ H ∧ Stp (Wf F C s.env σ) H (Wf F C (s.env.set i (.val (.dict ds))) σ) H ∧
      Rep F.K (Wf F C (s.env.set i (.val (.dict ds))) σ) H (.dict ds) v := by
  obtain ⟨a, vs, e1, e2, r⟩ := G.slot i _ e
  have hi : i < s.env.length := (List.getElem?_eq_some_iff.mp e).1
  have es : σ.set i (some (.ref a)) = σ := set_same e1
  have wf : ∀ b, Wf F C (s.env.set i (.val (.dict ds))) σ b → Wf F C s.env σ b ∧ b ≠ a := fun b w => by
    rcases w with w | w | ⟨j, w⟩
    · refine ⟨.inl w, fun z => ?_⟩
      subst z
      have q := F.w0 b w
      rw [G.fresh i b ⟨_, e, rfl, e1⟩] at q
      exact q
    · exact ⟨.inr (.inl w), fun z => G.apart i a ⟨_, e, rfl, e1⟩ (z ▸ w)⟩
    · rw [← es] at w
      rcases bxAt_set w with ⟨n, w2⟩ | ⟨_, w2, _⟩
      · refine ⟨.inr (.inr ⟨j, w2⟩), fun z => ?_⟩
        rw [z] at w2
        exact n (G.sep j i a w2 ⟨_, e, rfl, e1⟩)
      · cases w2
  have rep : ∀ W : Addr → Prop, (∀ b, W b → Wf F C s.env σ b ∧ b ≠ a) → Rep F.K W H (.dict ds) (.ref a) := fun W hw => by
    simp only [Rep]
    exact ⟨a, vs, rfl, fun w => (hw a w).2 rfl, e2, r.mono fun b w => .inl (hw b w).1⟩
  refine ⟨.ref a, e1, ?_, fun b o h n => ⟨h, fun w => n (wf b w).1⟩, rep _ wf⟩
  refine ⟨by simpa using G.len, fun j u ej => ?_, G.cell, G.cnd, G.cpre, fun j k b h1 h2 => ?_, fun j b h => ?_, fun j b h => ?_, G.ext⟩
  · by_cases hj : i = j
    · subst hj
      rw [List.getElem?_set_self hi] at ej
      cases ej
      exact ⟨.ref a, e1, rep _ fun b w => w.elim (wf b) fun z => z.elim⟩
    · rw [List.getElem?_set_ne hj] at ej
      have q := G.slot j u ej
      have mono : ∀ b, (Wf F C (s.env.set i (.val (.dict ds))) σ b ∨ Z0 b) → Wf F C s.env σ b ∨ Z0 b := fun b w => w.elim (fun w => .inl (wf b w).1) .inr
      cases u with
      | emp => trivial
      | val d =>
        obtain ⟨v, q1, r⟩ := q
        exact ⟨v, q1, r.mono mono⟩
      | box ds =>
        obtain ⟨b, us, q1, q2, r⟩ := q
        exact ⟨b, us, q1, q2, r.mono mono⟩
      | dbox ds =>
        obtain ⟨b, us, q1, q2, r⟩ := q
        exact ⟨b, us, q1, q2, r.mono mono⟩
      | brw d => exact q
      | cell n => exact q
  · rw [← es] at h1 h2
    rcases bxAt_set h1 with ⟨_, h1⟩ | ⟨_, z, _⟩
    · rcases bxAt_set h2 with ⟨_, h2⟩ | ⟨_, z, _⟩
      · exact G.sep j k b h1 h2
      · cases z
    · cases z
  · rw [← es] at h
    rcases bxAt_set h with ⟨_, h⟩ | ⟨_, z, _⟩
    · exact G.apart j b h
    · cases z
  · rw [← es] at h
    rcases bxAt_set h with ⟨_, h⟩ | ⟨_, z, _⟩
    · exact G.fresh j b h
    · cases z

/-! ### a box is changed -/
theorem Good.mut_box (G : Good F C Z0 s σ H) {i : Nat} {ds ds' : List D} {a : Addr} {vs' : List V} (e : s.env[i]? = some (.box ds)) (ea : σ[i]? = some (some (.ref a)))
    (r' : RepL F.K (Wf F C s.env σ) H ds' vs') :
    Good F C Z0 { s with env := s.env.set i (.box ds') } σ (upd H a (.lst vs')) ∧ Stp (Wf F C s.env σ) H (Wf F C (s.env.set i (.box ds')) σ) (upd H a (.lst vs')) := by
  have hi : i < s.env.length := (List.getElem?_eq_some_iff.mp e).1
  have es : σ.set i (some (.ref a)) = σ := set_same ea
  have hba : bxAt s.env σ i a := ⟨_, e, rfl, ea⟩
  have bx' : ∀ j b, bxAt (s.env.set i (.box ds')) σ j b ↔ bxAt s.env σ j b := fun j b => by
    constructor
    · intro w
      rw [← es] at w
      rcases bxAt_set w with ⟨_, w⟩ | ⟨e1, _, e2⟩
      · exact w
      · subst e1
        cases e2
        exact hba
    · rintro ⟨u, e1, e2, e3⟩
      by_cases hj : i = j
      · subst hj
        exact ⟨_, List.getElem?_set_self hi, rfl, e3⟩
      · exact ⟨u, (List.getElem?_set_ne hj).trans e1, e2, e3⟩
  have wf : ∀ b, Wf F C (s.env.set i (.box ds')) σ b ↔ Wf F C s.env σ b := fun b => by
    unfold Wf
    simp only [bx']
  have st : Stp (Wf F C s.env σ) H (Wf F C (s.env.set i (.box ds')) σ) (upd H a (.lst vs')) := fun b o h n => by
    have ne : b ≠ a := fun z => n (z ▸ .inr (.inr ⟨i, hba⟩))
    exact ⟨by rw [upd_ne ne]; exact h, fun w => n ((wf b).1 w)⟩
  have st0 : Stp (fun b => Wf F C s.env σ b ∨ Z0 b) H (fun b => Wf F C (s.env.set i (.box ds')) σ b ∨ Z0 b) (upd H a (.lst vs')) := fun b o h n => by
    obtain ⟨q1, q2⟩ := st b o h fun w => n (.inl w)
    exact ⟨q1, fun w => w.elim q2 fun z => z.elim⟩
  refine ⟨⟨by simpa using G.len, fun j u ej => ?_, ⟨G.cell.1, fun n b eb => ?_⟩, G.cnd, G.cpre, fun j k b h1 h2 => G.sep j k b ((bx' _ _).1 h1) ((bx' _ _).1 h2), fun j b h => G.apart j b ((bx' _ _).1 h),
    fun j b h => G.fresh j b ((bx' _ _).1 h), fun b o hb hc => ?_⟩, st⟩
  · by_cases hj : i = j
    · subst hj
      rw [List.getElem?_set_self hi] at ej
      cases ej
      exact ⟨a, vs', ea, upd_same, (r'.stp st _ _).mono fun b w => w.elim id fun z => z.elim⟩
    · rw [List.getElem?_set_ne hj] at ej
      have q := G.slot j u ej
      cases u with
      | emp => trivial
      | val d =>
        obtain ⟨v, q1, r⟩ := q
        exact ⟨v, q1, r.stp st0 _ _⟩
      | box es =>
        obtain ⟨b, us, q1, q2, r⟩ := q
        have ne : b ≠ a := fun z => hj (G.sep i j a hba ⟨_, ej, rfl, z ▸ q1⟩)
        exact ⟨b, us, q1, by rw [upd_ne ne]; exact q2, r.stp st0 _ _⟩
      | dbox es =>
        obtain ⟨b, us, q1, q2, r⟩ := q
        have ne : b ≠ a := fun z => hj (G.sep i j a hba ⟨_, ej, rfl, z ▸ q1⟩)
        exact ⟨b, us, q1, by rw [upd_ne ne]; exact q2, r.stp st0 _ _⟩
      | brw d => exact q
      | cell n => exact q
  · obtain ⟨ns, q1, q2⟩ := G.cell.2 n b eb
    have ne : b ≠ a := fun z => G.apart i a hba (z ▸ List.mem_of_getElem? eb)
    exact ⟨ns, q1, by rw [upd_ne ne]; exact q2⟩
  · have ne : b ≠ a := fun z => by
      have q := G.fresh i a hba
      rw [← z, hb] at q
      cases q
    rw [upd_ne ne]
    exact G.ext b o hb hc
theorem Good.mut_dbox (G : Good F C Z0 s σ H) {i : Nat} {ds ds' : List (D × D)} {a : Addr} {vs' : List (Key × V)} (e : s.env[i]? = some (.dbox ds)) (ea : σ[i]? = some (some (.ref a)))
    (r' : RepKV F.K (Wf F C s.env σ) H ds' vs') :
    Good F C Z0 { s with env := s.env.set i (.dbox ds') } σ (upd H a (.dK vs')) ∧ Stp (Wf F C s.env σ) H (Wf F C (s.env.set i (.dbox ds')) σ) (upd H a (.dK vs')) := by
  have hi : i < s.env.length := (List.getElem?_eq_some_iff.mp e).1
  have es : σ.set i (some (.ref a)) = σ := set_same ea
  have hba : bxAt s.env σ i a := ⟨_, e, rfl, ea⟩
  have bx' : ∀ j b, bxAt (s.env.set i (.dbox ds')) σ j b ↔ bxAt s.env σ j b := fun j b => by
    constructor
    · intro w
      rw [← es] at w
      rcases bxAt_set w with ⟨_, w⟩ | ⟨e1, _, e2⟩
      · exact w
      · subst e1
        cases e2
        exact hba
    · rintro ⟨u, e1, e2, e3⟩
      by_cases hj : i = j
      · subst hj
        exact ⟨_, List.getElem?_set_self hi, rfl, e3⟩
      · exact ⟨u, (List.getElem?_set_ne hj).trans e1, e2, e3⟩
  have wf : ∀ b, Wf F C (s.env.set i (.dbox ds')) σ b ↔ Wf F C s.env σ b := fun b => by
    unfold Wf
    simp only [bx']
  have st : Stp (Wf F C s.env σ) H (Wf F C (s.env.set i (.dbox ds')) σ) (upd H a (.dK vs')) := fun b o h n => by
    have ne : b ≠ a := fun z => n (z ▸ .inr (.inr ⟨i, hba⟩))
    exact ⟨by rw [upd_ne ne]; exact h, fun w => n ((wf b).1 w)⟩
  have st0 : Stp (fun b => Wf F C s.env σ b ∨ Z0 b) H (fun b => Wf F C (s.env.set i (.dbox ds')) σ b ∨ Z0 b) (upd H a (.dK vs')) := fun b o h n => by
    obtain ⟨q1, q2⟩ := st b o h fun w => n (.inl w)
    exact ⟨q1, fun w => w.elim q2 fun z => z.elim⟩
  refine ⟨⟨by simpa using G.len, fun j u ej => ?_, ⟨G.cell.1, fun n b eb => ?_⟩, G.cnd, G.cpre, fun j k b h1 h2 => G.sep j k b ((bx' _ _).1 h1) ((bx' _ _).1 h2), fun j b h => G.apart j b ((bx' _ _).1 h),
    fun j b h => G.fresh j b ((bx' _ _).1 h), fun b o hb hc => ?_⟩, st⟩
  · by_cases hj : i = j
    · subst hj
      rw [List.getElem?_set_self hi] at ej
      cases ej
      exact ⟨a, vs', ea, upd_same, (r'.stp st _ _).mono fun b w => w.elim id fun z => z.elim⟩
    · rw [List.getElem?_set_ne hj] at ej
      have q := G.slot j u ej
      cases u with
      | emp => trivial
      | val d =>
        obtain ⟨v, q1, r⟩ := q
        exact ⟨v, q1, r.stp st0 _ _⟩
      | box es =>
        obtain ⟨b, us, q1, q2, r⟩ := q
        have ne : b ≠ a := fun z => hj (G.sep i j a hba ⟨_, ej, rfl, z ▸ q1⟩)
        exact ⟨b, us, q1, by rw [upd_ne ne]; exact q2, r.stp st0 _ _⟩
      | dbox es =>
        obtain ⟨b, us, q1, q2, r⟩ := q
        have ne : b ≠ a := fun z => hj (G.sep i j a hba ⟨_, ej, rfl, z ▸ q1⟩)
        exact ⟨b, us, q1, by rw [upd_ne ne]; exact q2, r.stp st0 _ _⟩
      | brw d => exact q
      | cell n => exact q
  · obtain ⟨ns, q1, q2⟩ := G.cell.2 n b eb
    have ne : b ≠ a := fun z => G.apart i a hba (z ▸ List.mem_of_getElem? eb)
    exact ⟨ns, q1, by rw [upd_ne ne]; exact q2⟩
  · have ne : b ≠ a := fun z => by
      have q := G.fresh i a hba
      rw [← z, hb] at q
      cases q
    rw [upd_ne ne]
    exact G.ext b o hb hc

/-! ### behind a call; a cell is changed; a new cell -/
theorem Good.called (G : Good F C Z0 s σ H) {cs' : Cells} {Z' : Addr → Prop} (hz : ∀ a, Z' a → H a = none) (hk : ∀ a o, H a = some o → a ∉ C → H' a = some o) (hc : CellsOk H' C cs') :
    Good F C Z' { s with cs := cs' } σ H' ∧ Stp (Wf F C s.env σ) H (fun a => Wf F C s.env σ a ∨ Z' a) H' := by
  have nz : ∀ {a o}, H a = some o → ¬ Z' a := fun {a o} e z => by
    rw [hz a z] at e
    cases e
  have st : Stp (Wf F C s.env σ) H (fun a => Wf F C s.env σ a ∨ Z' a) H' := fun a o e n => ⟨hk a o e fun z => n (.inr (.inl z)), fun w => w.elim n (nz e)⟩
  have G1 : Good F C Z' { s with cs := cs' } σ H' := by
    refine ⟨G.len, fun i sl e => ?_, hc, G.cnd, G.cpre, G.sep, G.apart, G.fresh, fun a o e n => ?_⟩
    · have q := G.slot i sl e
      have st0 : Stp (fun b => Wf F C s.env σ b ∨ Z0 b) H (fun b => Wf F C s.env σ b ∨ Z' b) H' := fun b o h n => st b o h fun w => n (.inl w)
      cases sl with
      | emp => trivial
      | val d =>
        obtain ⟨v, q1, r⟩ := q
        exact ⟨v, q1, r.stp st0 _ _⟩
      | box es =>
        obtain ⟨b, us, q1, q2, r⟩ := q
        exact ⟨b, us, q1, hk b _ q2 (G.apart i b ⟨_, e, rfl, q1⟩), r.stp st0 _ _⟩
      | dbox es =>
        obtain ⟨b, us, q1, q2, r⟩ := q
        exact ⟨b, us, q1, hk b _ q2 (G.apart i b ⟨_, e, rfl, q1⟩), r.stp st0 _ _⟩
      | brw d => exact q
      | cell n => exact q
    · refine hk a o (G.ext a o e n) fun z => ?_
      obtain ⟨r, er, hr⟩ := G.cpre
      rw [er] at z
      rcases List.mem_append.mp z with z | z
      · exact n z
      · rw [hr a z] at e
        cases e
  exact ⟨G1, st⟩
theorem Good.called0 (G : Good F C Z0 s σ H) {cs' : Cells} (hk : ∀ a o, H a = some o → a ∉ C → H' a = some o) (hc : CellsOk H' C cs') :
    Good F C Z0 { s with cs := cs' } σ H' ∧ Stp (Wf F C s.env σ) H (Wf F C s.env σ) H' := by
  obtain ⟨G1, st⟩ := G.called (Z' := Z0) (fun _ z => z.elim) hk hc
  exact ⟨G1, fun a o e n => by
    obtain ⟨h1, h2⟩ := st a o e n
    exact ⟨h1, fun w => h2 (.inl w)⟩⟩
theorem CellsOk.set (c : CellsOk H C cs) (nd : C.Nodup) {n : Nat} {a : Addr} {ns : List Int} (e : C[n]? = some a) : CellsOk (upd H a (.lst (ns.map V.int))) C (cs.set n ns) := by
  refine ⟨by simpa using c.1, fun m b eb => ?_⟩
  obtain ⟨ms, q1, q2⟩ := c.2 m b eb
  by_cases h : n = m
  · subst h
    rw [e] at eb
    cases eb
    refine ⟨ns, List.getElem?_set_self (List.getElem?_eq_some_iff.mp q1).1, upd_same⟩
  · have ne : b ≠ a := fun z => by
      subst z
      obtain ⟨h1, e1⟩ := List.getElem?_eq_some_iff.mp e
      obtain ⟨h2, e2⟩ := List.getElem?_eq_some_iff.mp eb
      exact h ((List.getElem_inj nd).mp (e1.trans e2.symm))
    exact ⟨ms, (List.getElem?_set_ne h).trans q1, by rw [upd_ne ne]; exact q2⟩
theorem Good.cellset (G : Good F C Z0 s σ H) {n : Nat} {a : Addr} {ns : List Int} (e : C[n]? = some a) :
    Good F C Z0 { s with cs := s.cs.set n ns } σ (upd H a (.lst (ns.map V.int))) ∧ Stp (Wf F C s.env σ) H (Wf F C s.env σ) (upd H a (.lst (ns.map V.int))) :=
  G.called0 (fun b o h n => by
    have ne : b ≠ a := fun z => n (z ▸ List.mem_of_getElem? e)
    rw [upd_ne ne]
    exact h) (G.cell.set G.cnd e)
/-- a fresh list of ints becomes a cell -/
theorem Good.newcell {p : Addr} (G : Good F C (fun a => a = p) s σ H) {ns : List Int} (hw : ¬ Wf F C s.env σ p) (h0 : F.H0 p = none) (hp : H p = some (.lst (ns.map V.int))) :
    Good F (C ++ [p]) Z0 { s with cs := s.cs ++ [ns] } σ H ∧ (C ++ [p])[s.cs.length]? = some p ∧ ∀ a, Wf F (C ++ [p]) s.env σ a → Wf F C s.env σ a ∨ a = p := by
  have hl := G.cell.1
  have npc : p ∉ C := fun z => hw (.inr (.inl z))
  have wf : ∀ a, Wf F (C ++ [p]) s.env σ a → Wf F C s.env σ a ∨ a = p := fun a w => by
    rcases w with w | w | w
    · exact .inl (.inl w)
    · rcases List.mem_append.mp w with w | w
      · exact .inl (.inr (.inl w))
      · exact .inr (by simpa using w)
    · exact .inl (.inr (.inr w))
  have mono : ∀ a, (Wf F (C ++ [p]) s.env σ a ∨ Z0 a) → Wf F C s.env σ a ∨ a = p := fun a w => w.elim (wf a) fun z => z.elim
  refine ⟨⟨G.len, fun i sl e => ?_, ⟨by simp [hl], fun n a e => ?_⟩, ?_, ?_, G.sep, fun i a h => ?_, G.fresh, G.ext⟩, by rw [← hl, List.getElem?_append_right (Nat.le_refl _)]; simp, wf⟩
  · have q := G.slot i sl e
    cases sl with
    | emp => trivial
    | val d =>
      obtain ⟨v, q1, r⟩ := q
      exact ⟨v, q1, r.mono mono⟩
    | box es =>
      obtain ⟨b, us, q1, q2, r⟩ := q
      exact ⟨b, us, q1, q2, r.mono mono⟩
    | dbox es =>
      obtain ⟨b, us, q1, q2, r⟩ := q
      exact ⟨b, us, q1, q2, r.mono mono⟩
    | brw d => exact q
    | cell n =>
      obtain ⟨a, q1, q2⟩ := q
      exact ⟨a, by rw [List.getElem?_append_left (List.getElem?_eq_some_iff.mp q1).1]; exact q1, q2⟩
  · by_cases hn : n < C.length
    · rw [List.getElem?_append_left hn] at e
      obtain ⟨ms, q1, q2⟩ := G.cell.2 n a e
      exact ⟨ms, by rw [List.getElem?_append_left (hl ▸ hn)]; exact q1, q2⟩
    · have hn' : C.length ≤ n := Nat.le_of_not_lt hn
      rw [List.getElem?_append_right hn'] at e
      have hz : n - C.length = 0 := by
        obtain ⟨h1, _⟩ := List.getElem?_eq_some_iff.mp e
        simpa using h1
      rw [hz] at e
      simp at e
      subst e
      refine ⟨ns, ?_, hp⟩
      rw [List.getElem?_append_right (hl ▸ hn'), ← hl, hz]
      rfl
  · exact List.nodup_append.mpr ⟨G.cnd, by simp, fun a ha b hb => by
      have : b = p := by simpa using hb
      subst this
      exact fun z => npc (z ▸ ha)⟩
  · obtain ⟨r, er, hr⟩ := G.cpre
    refine ⟨r ++ [p], by rw [er, List.append_assoc], fun a ha => ?_⟩
    rcases List.mem_append.mp ha with ha | ha
    · exact hr a ha
    · have : a = p := by simpa using ha
      rw [this]
      exact h0
  · intro z
    rcases List.mem_append.mp z with z | z
    · exact G.apart i a h z
    · have : a = p := by simpa using z
      subst this
      exact hw (.inr (.inr ⟨i, h⟩))
end
end IR

end
section
/-! Ir3: the judgements: an expression of the text and what it means in the small language. -/
namespace IR
open PySem PySem.Spec PyProof.Rows L2

structure Sco where
  sc : Scope
  fn : Str → Bool

def bltNames : List Str := ["isinstance", "len", "list", "tuple", "sorted", "set", "int", "str", "repr", "bool", "all", "any", "sum", "max", "min", "range", "enumerate", "zip", "dict", "abs", "reversed"]

structure CtxOk (X : Cx) (N : List Str) (S : Sco) (k : Nat) : Prop where
  n : X.N = N
  nd : N.Nodup
  sc : X.env.scope = S.sc
  fn : ∀ x, S.fn x = true → X.fn x = true
  calm : X.calm = true
  xe : X.xe = fun _ _ => False
  room : Room k X.A
  guards : X.A.guards = some []
  blt : ∀ x ∈ bltNames, X.mg x = none

def Aft (F : Fr) (C : List Addr) (s : State) (σ : L2.St) (H : Hp) (C' : List Addr) (s' : State) (H' : Hp) : Prop :=
  Good F C' Z0 s' σ H' ∧ Stp (Wf F C s.env σ) H (Wf F C' s'.env σ) H'
theorem Aft.refl {F : Fr} {C : List Addr} {s : State} {σ : L2.St} {H : Hp} (G : Good F C Z0 s σ H) : Aft F C s σ H C s H := ⟨G, Stp.refl⟩
theorem Aft.trans {F : Fr} {C C1 C2 : List Addr} {s s1 s2 : State} {σ : L2.St} {H H1 H2 : Hp} (a : Aft F C s σ H C1 s1 H1) (b : Aft F C1 s1 σ H1 C2 s2 H2) : Aft F C s σ H C2 s2 H2 :=
  ⟨b.1, a.2.trans b.2⟩

def PreRep (F : Fr) (C : List Addr) (s : State) (σ : L2.St) (H : Hp) : Pre → V → Prop
  | .late i, v => σ[i]? = some (some v)
  | .now d, v => Rep F.K (Wf F C s.env σ) H d v
theorem PreRep.aft {F : Fr} {C C' : List Addr} {s s' : State} {σ : L2.St} {H H' : Hp} {p : Pre} {v : V} (h : PreRep F C s σ H p v) (a : Aft F C s σ H C' s' H') : PreRep F C' s' σ H' p v := by
  cases p with
  | late i => exact h
  | now d => exact Rep.stp a.2 d v h

section
variable (X : Cx)
def SVal (e : Expr) (f : State → Option (D × State)) : Prop := ∃ t : TE, PE X e t ∧ ∀ F C s σ H Q d s', F.K = X.K → Good F C Z0 s σ H → f s = some (d, s') →
  (∀ v C' H', Aft F C s σ H C' s' H' → Rep F.K (Wf F C' s'.env σ) H' d v → Q v H') → t σ H Q
def SPre (e : Expr) (f : State → Option (Pre × State)) : Prop := ∃ t : TE, PE X e t ∧ ∀ F C s σ H Q p s', F.K = X.K → Good F C Z0 s σ H → f s = some (p, s') →
  (∀ v C' H', Aft F C s σ H C' s' H' → PreRep F C' s' σ H' p v → Q v H') → t σ H Q
def STst (e : Expr) (f : State → Option (Bool × State)) : Prop := ∃ t : TT, PT X e t ∧ ∀ F C s σ H Q b s', F.K = X.K → Good F C Z0 s σ H → f s = some (b, s') →
  (∀ C' H', Aft F C s σ H C' s' H' → Q b H') → t σ H Q
/-- a test within and, or: whatever the whole is -/
def SWh (e : Expr) (f : State → Option (Bool × State)) : Prop := ∃ t : TT, PW X e t ∧ ∀ F C s σ H Q b s', F.K = X.K → Good F C Z0 s σ H → f s = some (b, s') →
  (∀ C' H', Aft F C s σ H C' s' H' → Q b H') → t σ H Q
def SList (es : List Expr) (f : State → Option (List D × State)) : Prop := ∃ t : TA, PA X es t ∧ ∀ F C s σ H Q ds s', F.K = X.K → Good F C Z0 s σ H → f s = some (ds, s') →
  (∀ vs C' H', Aft F C s σ H C' s' H' → RepL F.K (Wf F C' s'.env σ) H' ds vs → Q vs H') → t σ H Q
/-- what a fresh list leaves -/
def Fresh (F : Fr) (C : List Addr) (s : State) (σ : L2.St) (H : Hp) (C' : List Addr) (s' : State) (H' : Hp) (p : Addr) : Prop :=
  Good F C' (fun a => a = p) s' σ H' ∧ Stp (Wf F C s.env σ) H (fun a => Wf F C' s'.env σ a ∨ a = p) H' ∧ ¬ Wf F C' s'.env σ p ∧ F.H0 p = none
def SFr (e : Expr) (f : State → Option (List D × State)) : Prop := ∃ t : TE, PE X e t ∧ ∀ F C s σ H Q ds s', F.K = X.K → Good F C Z0 s σ H → f s = some (ds, s') →
  (∀ p vs C' H', Fresh F C s σ H C' s' H' p → H' p = some (.lst vs) → RepL F.K (fun a => Wf F C' s'.env σ a ∨ a = p) H' ds vs → Q (.ref p) H') → t σ H Q
def SFd (e : Expr) (f : State → Option (List (D × D) × State)) : Prop := ∃ t : TE, PE X e t ∧ ∀ F C s σ H Q ds s', F.K = X.K → Good F C Z0 s σ H → f s = some (ds, s') →
  (∀ p vs C' H', Fresh F C s σ H C' s' H' p → H' p = some (.dK vs) → RepKV F.K (fun a => Wf F C' s'.env σ a ∨ a = p) H' ds vs → Q (.ref p) H') → t σ H Q
end

/-! ### a new list, a new tuple -/
section
variable {F : Fr} {C : List Addr} {s : State} {σ : L2.St} {H : Hp}
theorem fresh_of (G : Good F C Z0 s σ H) {p : Addr} (hp : H p = none) {o : HO} : Fresh F C s σ H C s (upd H p o) p :=
  ⟨G.alloc hp fun a e => .inl e, Stp.alloc hp fun a w => w, G.nw hp, G.h0 hp⟩
theorem Fresh.after {C1 C2 : List Addr} {s1 s2 : State} {H1 H2 : Hp} {p : Addr} (a : Aft F C s σ H C1 s1 H1) (f : Fresh F C1 s1 σ H1 C2 s2 H2 p) : Fresh F C s σ H C2 s2 H2 p :=
  ⟨f.1, a.2.trans f.2.1, f.2.2.1, f.2.2.2⟩
/-- given up at once -/
theorem Fresh.aft {C' : List Addr} {s' : State} {H' : Hp} {p : Addr} (f : Fresh F C s σ H C' s' H' p) : Aft F C s σ H C' s' H' :=
  ⟨f.1.drop, fun a o e n => by
    obtain ⟨h1, h2⟩ := f.2.1 a o e n
    exact ⟨h1, fun w => h2 (.inl w)⟩⟩
theorem Fresh.rep {K : PySem.W.Frag} {C' : List Addr} {s' : State} {H' : Hp} {p : Addr} (f : Fresh F C s σ H C' s' H' p) {ds : List D} {vs : List V} (e : H' p = some (.lst vs))
    (r : RepL K (fun a => Wf F C' s'.env σ a ∨ a = p) H' ds vs) : Rep K (Wf F C' s'.env σ) H' (.list ds) (.ref p) := by
  simp only [Rep]
  exact ⟨p, vs, rfl, f.2.2.1, e, r.mono fun a w => .inl w⟩
theorem Fresh.repD {K : PySem.W.Frag} {C' : List Addr} {s' : State} {H' : Hp} {p : Addr} (f : Fresh F C s σ H C' s' H' p) {ds : List (D × D)} {vs : List (Key × V)} (e : H' p = some (.dK vs))
    (r : RepKV K (fun a => Wf F C' s'.env σ a ∨ a = p) H' ds vs) : Rep K (Wf F C' s'.env σ) H' (.dict ds) (.ref p) := by
  simp only [Rep]
  exact ⟨p, vs, rfl, f.2.2.1, e, r.mono fun a w => .inl w⟩
theorem new_tup {K : PySem.W.Frag} (G : Good F C Z0 s σ H) {p : Addr} (hp : H p = none) {ob : Obj} (hd : ob.dict = none) {ds : List D} {vs : List V} (r : RepL K (Wf F C s.env σ) H ds vs) :
    Aft F C s σ H C s (upd H p (.frz ob (.tup vs))) ∧ Rep K (Wf F C s.env σ) (upd H p (.frz ob (.tup vs))) (.tuple ds) (.ref p) := by
  have f : Fresh F C s σ H C s (upd H p (.frz ob (.tup vs))) p := fresh_of G hp
  refine ⟨f.aft, ?_⟩
  simp only [Rep]
  exact ⟨p, vs, rfl, .inl ⟨ob, upd_same, hd, f.2.2.1⟩, r.stp f.aft.2 _ _⟩
end

section
variable {X : Cx} {e a b c : Expr} {es : List Expr} {pos : Pos}
theorem SFr.val {f : State → Option (List D × State)} (h : SFr X e f) : SVal X e fun s => (f s).map fun p => (.list p.1, p.2) := by
  obtain ⟨t, ht, hq⟩ := h
  refine ⟨t, ht, fun F C s σ H Q d s' hK G e q => ?_⟩
  obtain ⟨⟨ds, s1⟩, ef, er⟩ := Option.map_eq_some_iff.mp e
  cases er
  exact hq F C s σ H Q ds s1 hK G ef fun p vs C' H' fr e2 r => q _ C' H' fr.aft (fr.rep e2 r)
theorem SFd.val {f : State → Option (List (D × D) × State)} (h : SFd X e f) : SVal X e fun s => (f s).map fun p => (.dict p.1, p.2) := by
  obtain ⟨t, ht, hq⟩ := h
  refine ⟨t, ht, fun F C s σ H Q d s' hK G e q => ?_⟩
  obtain ⟨⟨ds, s1⟩, ef, er⟩ := Option.map_eq_some_iff.mp e
  cases er
  exact hq F C s σ H Q ds s1 hK G ef fun p vs C' H' fr e2 r => q _ C' H' fr.aft (fr.repD e2 r)
theorem SVal.pre {f : State → Option (D × State)} (h : SVal X e f) : SPre X e fun s => (f s).map fun p => (.now p.1, p.2) := by
  obtain ⟨t, ht, hq⟩ := h
  refine ⟨t, ht, fun F C s σ H Q p s' hK G e q => ?_⟩
  obtain ⟨⟨d, s1⟩, ef, er⟩ := Option.map_eq_some_iff.mp e
  cases er
  exact hq F C s σ H Q d s1 hK G ef fun v C' H' a r => q v C' H' a r

/-! ### names, constants -/
theorem Good.has {F : Fr} {C : List Addr} {s : State} {σ : L2.St} {H : Hp} (G : Good F C Z0 s σ H) {i : Nat} {sl : Slot} (e : s.env[i]? = some sl) (n : sl ≠ .emp) : ∃ v, σ[i]? = some (some v) := by
  have q := G.slot i sl e
  cases sl with
  | emp => exact absurd rfl n
  | val d => obtain ⟨v, e1, _⟩ := q; exact ⟨v, e1⟩
  | box d => obtain ⟨v, _, e1, _⟩ := q; exact ⟨_, e1⟩
  | dbox d => obtain ⟨v, _, e1, _⟩ := q; exact ⟨_, e1⟩
  | brw d => obtain ⟨v, e1, _⟩ := q; exact ⟨v, e1⟩
  | cell n => obtain ⟨v, _, e1⟩ := q; exact ⟨_, e1⟩
def preVar (i : Nat) (s : State) : Option (Pre × State) := match s.env[i]? with
  | some .emp => none
  | some _ => some (.late i, s)
  | none => none
theorem sp_var {i : Nat} {x : Str} (hN : X.N[i]? = some x) (hv : Vis X.env.scope x) (hd : (x == ("__debug__" : Str)) = false) (hc : (x == ("__classdict__" : Str)) = false) : SPre X (.Name x pos) (preVar i) := by
  refine ⟨_, pe_var hN hv hd hc, fun F C s σ H Q p s' hK G e q => ?_⟩
  unfold preVar at e
  cases es : s.env[i]? with
  | none => rw [es] at e; cases e
  | some sl =>
    have hn : sl ≠ .emp := by
      rintro rfl
      rw [es] at e
      cases e
    obtain ⟨v, ev⟩ := G.has es hn
    rw [es] at e
    have e' : some (Pre.late i, s) = some (p, s') := by
      cases sl <;> first | exact e | exact absurd rfl hn
    cases e'
    exact ⟨v, ev, q v C H (Aft.refl G) ev⟩

/-- a borrowed thing that may be read -/
theorem brw_read {F : Fr} {C : List Addr} {s : State} {σ : L2.St} {H : Hp} (G : Good F C Z0 s σ H) {d : D} {v : V} (r : RepB F.K (fun a => a ∈ F.C0) F.H0 d v) (ok : brwOk d = true) : RepR F.K (Wf F C s.env σ) H d v := by
  have tp : ∀ a o u, F.H0 a = some (.frz o u) → H a = some (.frz o u) ∧ ¬ Wf F C s.env σ a := fun a o u e => by
    have nc : a ∉ F.C0 := fun z => by
      have q := F.c0 a z
      rw [e] at q
      exact q
    have e2 := G.ext a _ e nc
    exact ⟨e2, G.tup e2⟩
  cases d with
  | list ds =>
    obtain ⟨a, vs, e, n, h, hl⟩ := r
    refine ⟨a, vs, e, ?_, RepL.lf tp ds vs ok hl⟩
    rcases h with h | ⟨o, h⟩
    · exact .inl (G.ext a _ h n)
    · exact .inr ⟨o, G.ext a _ h n⟩
  | tuple ds => exact (Rep.lf tp _ v ok r).r
  | dict kvs => cases ok
  | none => exact r
  | bool b => exact r
  | int i => exact r
  | str x => exact r
theorem ints_lf : ∀ ns : List Int, lfAll (ns.map PyData.int) = true
  | [] => rfl
  | n :: ns => by simp [lfAll, lf, ints_lf ns]
/-- an operand as it is when it is used -/
theorem post_rep {F : Fr} {C : List Addr} {s : State} {σ : L2.St} {H : Hp} (G : Good F C Z0 s σ H) {p : Pre} {d : D} {v : V} (e : post s p = some d) (r : PreRep F C s σ H p v) : RepR F.K (Wf F C s.env σ) H d v := by
  cases p with
  | now d' =>
    cases e
    exact Rep.r r
  | late i =>
    have r' : σ[i]? = some (some v) := r
    unfold post at e
    cases es : s.env[i]? with
    | none => simp [es] at e
    | some sl =>
      simp only [es, Option.bind_some] at e
      have q := G.slot i sl es
      have mono : ∀ a, Wf F C s.env σ a → Wf F C s.env σ a ∨ Z0 a := fun a w => .inl w
      cases sl with
      | emp => cases e
      | val d' =>
        cases e
        obtain ⟨u, e1, r1⟩ := q
        rw [r'] at e1
        cases e1
        exact (r1.mono mono).r
      | box ds =>
        cases e
        obtain ⟨a, vs, e1, e2, r1⟩ := q
        rw [r'] at e1
        cases e1
        exact ⟨a, vs, rfl, .inl e2, r1.mono mono⟩
      | dbox ds =>
        cases e
        obtain ⟨a, vs, e1, e2, r1⟩ := q
        rw [r'] at e1
        cases e1
        exact ⟨a, vs, rfl, e2, r1.mono mono⟩
      | brw d' =>
        simp only [rdSlot] at e
        split at e
        · cases e
          obtain ⟨u, e1, r1⟩ := q
          rw [r'] at e1
          cases e1
          exact brw_read G r1 (by assumption)
        · cases e
      | cell n =>
        simp only [rdSlot] at e
        obtain ⟨a, e1, e2⟩ := q
        obtain ⟨ns, e3, e4⟩ := G.cell.2 n a e1
        rw [e3] at e
        cases e
        rw [r'] at e2
        cases e2
        exact ⟨a, _, rfl, .inl e4, RepL.ints ns⟩
theorem sv_var {i : Nat} {x : Str} (hN : X.N[i]? = some x) (hv : Vis X.env.scope x) (hd : (x == ("__debug__" : Str)) = false) (hc : (x == ("__classdict__" : Str)) = false) : SVal X (.Name x pos) fun s => lkSlot s i := by
  refine ⟨_, pe_var hN hv hd hc, fun F C s σ H Q d s' hK G e q => ?_⟩
  simp only [lkSlot] at e
  have mono : ∀ a, Wf F C s.env σ a → Wf F C s.env σ a ∨ Z0 a := fun a w => .inl w
  cases es : s.env[i]? with
  | none => rw [es] at e; cases e
  | some sl =>
    rw [es] at e
    cases sl with
    | emp => cases e
    | cell n => cases e
    | val d' =>
      cases e
      obtain ⟨v, e1, r⟩ := G.slot i _ es
      exact ⟨v, e1, q v C H (Aft.refl G) (r.mono mono)⟩
    | box ds =>
      cases e
      obtain ⟨v, e1, G1, st, r⟩ := G.freeze es
      exact ⟨v, e1, q v C H ⟨G1, st⟩ r⟩
    | dbox ds =>
      cases e
      obtain ⟨v, e1, G1, st, r⟩ := G.freezeD es
      exact ⟨v, e1, q v C H ⟨G1, st⟩ r⟩
    | brw d' =>
      simp only at e
      split at e
      · cases e
        obtain ⟨v, e1, r1⟩ := G.slot i _ es
        refine ⟨v, e1, q v C H (Aft.refl G) ?_⟩
        have l : lf d = true := by assumption
        have ok : brwOk d = true := by
          cases d <;> first | exact l | (simp [lf] at l)
        have q2 := brw_read G r1 ok
        cases d with
        | list ds => simp [lf] at l
        | dict ds => simp [lf] at l
        | tuple ds =>
          obtain ⟨a, vs, e2, h, hl⟩ := q2
          simp only [Rep]
          refine ⟨a, vs, e2, ?_, hl⟩
          rcases h with ⟨o, h, d⟩ | h
          · exact .inl ⟨o, h, d, G.tup h⟩
          · exact .inr h
        | none => exact q2
        | bool b => exact q2
        | int i => exact q2
        | str x => exact q2
      · cases e
end
end IR

end
section
/-! Ir4: operators by values. -/
namespace IR
open PySem PySem.Spec PyProof.Rows L2

abbrev RT (α : Type) := Fr → List Addr → State → L2.St → Hp → List Addr → State → Hp → α → V → Prop
def RVal : RT D := fun F C s σ H C' s' H' d v => Aft F C s σ H C' s' H' ∧ Rep F.K (Wf F C' s'.env σ) H' d v
def RFr : RT (List D) := fun F C s σ H C' s' H' ds v => ∃ p vs, v = .ref p ∧ Fresh F C s σ H C' s' H' p ∧ H' p = some (.lst vs) ∧ RepL F.K (fun a => Wf F C' s'.env σ a ∨ a = p) H' ds vs
def RFd : RT (List (D × D)) := fun F C s σ H C' s' H' ds v => ∃ p vs, v = .ref p ∧ Fresh F C s σ H C' s' H' p ∧ H' p = some (.dK vs) ∧ RepKV F.K (fun a => Wf F C' s'.env σ a ∨ a = p) H' ds vs
def RPre : RT Pre := fun F C s σ H C' s' H' p v => Aft F C s σ H C' s' H' ∧ PreRep F C' s' σ H' p v
def RT.After {α : Type} (R : RT α) : Prop := ∀ F C s σ H C1 s1 H1 C2 s2 H2 a v, Aft F C s σ H C1 s1 H1 → R F C1 s1 σ H1 C2 s2 H2 a v → R F C s σ H C2 s2 H2 a v
theorem RVal.after : RT.After RVal := fun _ _ _ _ _ _ _ _ _ _ _ _ _ a r => ⟨a.trans r.1, r.2⟩
theorem RPre.after : RT.After RPre := fun _ _ _ _ _ _ _ _ _ _ _ _ _ a r => ⟨a.trans r.1, r.2⟩
theorem RFr.after : RT.After RFr := fun _ _ _ _ _ _ _ _ _ _ _ _ _ a ⟨p, vs, e, f, r⟩ => ⟨p, vs, e, f.after a, r⟩
theorem RFd.after : RT.After RFd := fun _ _ _ _ _ _ _ _ _ _ _ _ _ a ⟨p, vs, e, f, r⟩ => ⟨p, vs, e, f.after a, r⟩

def SG (X : Cx) {α : Type} (R : RT α) (e : Expr) (f : State → Option (α × State)) : Prop := ∃ t : TE, PE X e t ∧ ∀ F C s σ H Q a s', F.K = X.K → Good F C Z0 s σ H → f s = some (a, s') →
  (∀ v C' H', R F C s σ H C' s' H' a v → Q v H') → t σ H Q
section
variable {X : Cx} {e : Expr}
theorem SG.val {f : State → Option (D × State)} (h : SG X RVal e f) : SVal X e f := by
  obtain ⟨t, ht, hq⟩ := h
  exact ⟨t, ht, fun F C s σ H Q a s' hK G ea q => hq F C s σ H Q a s' hK G ea fun v C' H' r => q v C' H' r.1 r.2⟩
theorem SVal.g {f : State → Option (D × State)} (h : SVal X e f) : SG X RVal e f := by
  obtain ⟨t, ht, hq⟩ := h
  exact ⟨t, ht, fun F C s σ H Q a s' hK G ea q => hq F C s σ H Q a s' hK G ea fun v C' H' r1 r2 => q v C' H' ⟨r1, r2⟩⟩
theorem SG.fr {f : State → Option (List D × State)} (h : SG X RFr e f) : SFr X e f := by
  obtain ⟨t, ht, hq⟩ := h
  exact ⟨t, ht, fun F C s σ H Q a s' hK G ea q => hq F C s σ H Q a s' hK G ea fun v C' H' ⟨p, vs, ev, r1, r2, r3⟩ => by
    subst ev
    exact q p vs C' H' r1 r2 r3⟩
theorem SFr.g {f : State → Option (List D × State)} (h : SFr X e f) : SG X RFr e f := by
  obtain ⟨t, ht, hq⟩ := h
  exact ⟨t, ht, fun F C s σ H Q a s' hK G ea q => hq F C s σ H Q a s' hK G ea fun p vs C' H' r1 r2 r3 => q _ C' H' ⟨p, vs, rfl, r1, r2, r3⟩⟩
theorem SG.fd {f : State → Option (List (D × D) × State)} (h : SG X RFd e f) : SFd X e f := by
  obtain ⟨t, ht, hq⟩ := h
  exact ⟨t, ht, fun F C s σ H Q a s' hK G ea q => hq F C s σ H Q a s' hK G ea fun v C' H' ⟨p, vs, ev, r1, r2, r3⟩ => by
    subst ev
    exact q p vs C' H' r1 r2 r3⟩
theorem SPre.g {f : State → Option (Pre × State)} (h : SPre X e f) : SG X RPre e f := by
  obtain ⟨t, ht, hq⟩ := h
  exact ⟨t, ht, fun F C s σ H Q a s' hK G ea q => hq F C s σ H Q a s' hK G ea fun v C' H' r1 r2 => q v C' H' ⟨r1, r2⟩⟩
end

/-! ### reading data off -/
section
variable {K : PySem.W.Frag} {W : Addr → Prop} {H : Hp} {v : V}
theorem rr_int {i : Int} (h : RepR K W H (.int i) v) : v = .int i := by simpa [RepR, Rep] using h
theorem rr_str {x : Str} (h : RepR K W H (.str x) v) : v = .str x := by simpa [RepR, Rep] using h
theorem rr_bool {b : Bool} (h : RepR K W H (.bool b) v) : v = .bl b := by simpa [RepR, Rep] using h
theorem rr_none (h : RepR K W H .none v) : v = .non := by simpa [RepR, Rep] using h
theorem rp_int {i : Int} : Rep K W H (.int i) (.int i) := by simp [Rep]
theorem rp_str {x : Str} : Rep K W H (.str x) (.str x) := by simp [Rep]
theorem rp_bool {b : Bool} : Rep K W H (.bool b) (.bl b) := by simp [Rep]
theorem rp_none : Rep K W H .none .non := by simp [Rep]
end

/-- an operator by values, keeping the names -/
def OpG (X : Cx) {α : Type} (R : RT α) (m : Value → Value → Sem Value) (f : D → D → Option α) : Prop := ∃ r : R2, OpR X m r ∧ ∀ F C s σ H x y dx dy a Q, F.K = X.K → Good F C Z0 s σ H →
  RepR F.K (Wf F C s.env σ) H dx x → RepR F.K (Wf F C s.env σ) H dy y → f dx dy = some a → (∀ v H', R F C s σ H C s H' a v → Q v H') → r x y H Q
def bin2 {α : Type} (f : D → D → Option α) (fa fb : State → Option (Pre × State)) (s : State) : Option (α × State) :=
  (fa s).bind fun p => (fb p.2).bind fun q => (post q.2 p.1).bind fun x => (post q.2 q.1).bind fun y => (f x y).bind fun d => some (d, q.2)
theorem bin2_some {α : Type} {f : D → D → Option α} {fa fb : State → Option (Pre × State)} {s s' : State} {d : α} (h : bin2 f fa fb s = some (d, s')) :
    ∃ p s1 q x y, fa s = some (p, s1) ∧ fb s1 = some (q, s') ∧ post s' p = some x ∧ post s' q = some y ∧ f x y = some d := by
  obtain ⟨⟨p, s1⟩, h1, h⟩ := Option.bind_eq_some_iff.mp h
  obtain ⟨⟨q, s2⟩, h2, h⟩ := Option.bind_eq_some_iff.mp h
  obtain ⟨x, h3, h⟩ := Option.bind_eq_some_iff.mp h
  obtain ⟨y, h4, h⟩ := Option.bind_eq_some_iff.mp h
  obtain ⟨d', h5, h⟩ := Option.bind_eq_some_iff.mp h
  cases h
  exact ⟨p, s1, q, x, y, h1, h2, h3, h4, h5⟩
section
variable {X : Cx} {a b : Expr} {pos : Pos}
/-- two operands, then a rule of values: the way of the binary operators, comparisons, subscripts -/
theorem two_ops {α : Type} {R : RT α} (hR : R.After) {r : R2} {f : D → D → Option α} {fa fb : State → Option (Pre × State)} {ta tb : TE}
    (hr : ∀ F C s σ H x y dx dy a Q, F.K = X.K → Good F C Z0 s σ H → RepR F.K (Wf F C s.env σ) H dx x → RepR F.K (Wf F C s.env σ) H dy y → f dx dy = some a → (∀ v H', R F C s σ H C s H' a v → Q v H') → r x y H Q)
    (qa : ∀ F C s σ H Q p s', F.K = X.K → Good F C Z0 s σ H → fa s = some (p, s') → (∀ v C' H', Aft F C s σ H C' s' H' → PreRep F C' s' σ H' p v → Q v H') → ta σ H Q)
    (qb : ∀ F C s σ H Q p s', F.K = X.K → Good F C Z0 s σ H → fb s = some (p, s') → (∀ v C' H', Aft F C s σ H C' s' H' → PreRep F C' s' σ H' p v → Q v H') → tb σ H Q) :
    ∀ F C s σ H Q d s', F.K = X.K → Good F C Z0 s σ H → bin2 f fa fb s = some (d, s') → (∀ v C' H', R F C s σ H C' s' H' d v → Q v H') → tOp r ta tb σ H Q := by
  intro F C s σ H Q d s' hK G e q
  obtain ⟨p, s1, p2, x, y, h1, h2, h3, h4, h5⟩ := bin2_some e
  refine qa F C s σ H _ p s1 hK G h1 fun v C1 H1 a1 r1 => ?_
  refine qb F C1 s1 σ H1 _ p2 s' hK a1.1 h2 fun u C2 H2 a2 r2 => ?_
  have R1 := post_rep a2.1 h3 (r1.aft a2)
  have R2' := post_rep a2.1 h4 r2
  exact hr F C2 s' σ H2 v u x y d Q hK a2.1 R1 R2' h5 fun w H' rw => q w C2 H' (hR _ _ _ _ _ _ _ _ _ _ _ _ _ (a1.trans a2) rw)
theorem sg_bin {α : Type} {R : RT α} (hR : R.After) {op : Operator} {f : D → D → Option α} {fa fb : State → Option (Pre × State)} (ho : OpG X R (binaryOp op) f) (ha : SPre X a fa) (hb : SPre X b fb) :
    SG X R (.BinOp a op b pos) (bin2 f fa fb) := by
  obtain ⟨r, hr, hq⟩ := ho
  obtain ⟨ta, pa, qa⟩ := ha
  obtain ⟨tb, pb, qb⟩ := hb
  exact ⟨_, pe_op hr pa pb, two_ops hR hq qa qb⟩
theorem sg_cmp {α : Type} {R : RT α} (hR : R.After) {op : CmpOp} {f : D → D → Option α} {fa fb : State → Option (Pre × State)} (ho : OpG X R (compareOp op) f) (ha : SPre X a fa) (hb : SPre X b fb) (hm : behindInMarks op b = false) :
    SG X R (.Compare a [op] [b] pos) (bin2 f fa fb) := by
  obtain ⟨r, hr, hq⟩ := ho
  obtain ⟨ta, pa, qa⟩ := ha
  obtain ⟨tb, pb, qb⟩ := hb
  exact ⟨_, pe_cmpR hr pa pb hm, two_ops hR hq qa qb⟩
end

/-! ### the binary operators -/
section
variable {X : Cx}
/-- lists, one behind the other -/
def rCatR : R2 := fun x y H Q => ∃ l b xs zs, x = .ref l ∧ y = .ref b ∧ Rd H l (.lst xs) ∧ Rd H b (.lst zs) ∧ xs.length + zs.length ≤ sizeLine ∧ ∀ p, H p = none → Q (.ref p) (upd H p (.lst (xs ++ zs)))
theorem op_catR : OpR X (binaryOp .Add) rCatR := by
  rintro pins s σ H x y v u Q I rx ry ⟨l, b, xs, zs, rfl, rfl, h1, h2, hz, q⟩
  obtain rfl : v = .ref l := rx
  obtain rfl : u = .ref b := ry
  obtain ⟨_, us, n, r, e⟩ := h1.ok I.hok
  obtain ⟨_, ws, m, r2, e2⟩ := h2.ok I.hok
  have len1 := r.length
  have len2 := r2.length
  refine PySem.P.add_list e e2 ?_ (by simp only [List.size_toArray]; omega)
  have joined : us.toArray ++ ws.toArray = (us ++ ws).toArray := by simp
  rw [joined]
  exact ⟨.ref s.heap.objs.size, _, I.lnew (t' := s.toks) (Vals.append r r2) (by simp only [List.length_append]; exact hz), rfl, q _ I.fresh⟩
/-- a list, so often -/
def rRepR : R2 := fun x y H Q => ∃ l k xs, x = .ref l ∧ y = .int k ∧ Rd H l (.lst xs) ∧ -(2 ^ 62) ≤ k ∧ k < 2 ^ 62 ∧ xs.length * k.toNat ≤ sizeLine ∧ ∀ p, H p = none → Q (.ref p) (upd H p (.lst (List.replicate k.toNat xs).flatten))
theorem folded (us : List Value) : ∀ (m : Nat) (acc : List Value), List.foldl (fun x1 x2 => x1 ++ x2) acc.toArray (List.replicate m us.toArray) = (acc ++ (List.replicate m us).flatten).toArray
  | 0, acc => by simp
  | m + 1, acc => by
    have e : acc.toArray ++ us.toArray = (acc ++ us).toArray := by simp
    simp only [List.replicate_succ, List.foldl_cons, e, List.flatten_cons]
    rw [folded us m (acc ++ us), List.append_assoc]
theorem flat_len {α : Type} (xs : List α) : ∀ n : Nat, (List.replicate n xs).flatten.length = xs.length * n
  | 0 => by simp
  | n + 1 => by
    rw [List.replicate_succ, List.flatten_cons, List.length_append, flat_len xs n, Nat.mul_succ, Nat.add_comm]
theorem vals_rep {xs : List V} {us : List Value} (r : Vals xs us) : ∀ n : Nat, Vals (List.replicate n xs).flatten (List.replicate n us).flatten
  | 0 => .nil
  | n + 1 => by
    rw [List.replicate_succ, List.replicate_succ, List.flatten_cons, List.flatten_cons]
    exact Vals.append r (vals_rep r n)
theorem op_repR : OpR X (binaryOp .Mult) rRepR := by
  rintro pins s σ H x y v u Q I rx ry ⟨l, k, xs, rfl, rfl, h1, lo, hi, hz, q⟩
  obtain rfl : v = .ref l := rx
  obtain ⟨t, rfl⟩ := ry
  obtain ⟨_, us, n, r, e⟩ := h1.ok I.hok
  have len1 := r.length
  obtain ⟨mL, hnL, _⟩ := I.loc
  have made : List.foldl (fun x1 x2 => x1 ++ x2) #[] (List.replicate (if us.toArray.isEmpty = true then 0 else k.toNat) us.toArray) = (List.replicate k.toNat us).flatten.toArray := by
    have f0 := folded us k.toNat []
    rw [List.nil_append] at f0
    cases us with
    | nil => simp
    | cons a r' =>
      rw [if_neg (by simp)]
      exact f0
  have short : us.toArray.size * k.toNat ≤ sizeLine := by simp only [List.size_toArray]; rw [← len1]; exact hz
  have lines : (sizeLine : Nat) ≤ (2 ^ 63 - 1) / 8 := by decide
  have a1 : ¬ (!Builtin.List.listFitsIndex k) = true := by simp [Builtin.List.listFitsIndex]; omega
  have a2 : ¬ us.toArray.size * k.toNat > (2 ^ 63 - 1) / 8 := by omega
  have a3 : ¬ Builtin.List.listTooLong (us.toArray.size * k.toNat) = true := by rw [notLongL short]; decide
  have tyL : s.TypeIs (.ref l) "list" := ⟨_, e, rfl⟩
  refine wpAny_binaryOp_repeat_ref (T := "list") (U := "int") (by decide) tyL (fun s' => typeIs_int s' k t) noFill_list_mul F.fills_int_mul F.slot_int_rmul repeat_list F.slot_int_index.lookup ?_
  refine call_meets F.slot_int_rmul (typeIs_int s k t) F.entry_int_rmul (F.args_int_rmul_2 _ _) (int___rmul___int_list k t l us.toArray n) ⟨e, rfl, tyL, ?_⟩
  refine call_meets F.slot_list_mul tyL F.entry_list_mul (F.args_list_mul_2 _ _) (AutoListH.list___mul___list_int_3 l us.toArray n k t a1 a2 a3) ⟨e, ?_⟩
  rw [made]
  exact ⟨.ref s.heap.objs.size, _, I.lnew (t' := s.toks) (vals_rep r k.toNat) (by rw [flat_len]; exact hz), rfl, q _ I.fresh⟩

/-! ### tuples that are laid with their objects known -/
section
variable {X : Cx} {es : List Expr} {pos : Pos}
abbrev TupNew (H : Hp) (xs : List V) (Q : VK) : Prop := ∀ p (ob : Obj), H p = none → ob.dict = none → Q (.ref p) (upd H p (.frz ob (.tup xs)))
theorem Inv.newT {pins : List (Addr × Obj)} {σ : L2.St} {H : Hp} {s : Shared} (I : Inv X pins σ H s) {xs : List V} {us : List Value} (r : Vals xs us) (hz : xs.length ≤ sizeLine) {Q : VK} {t' : Nat} (q : TupNew H xs Q) :
    EP X pins σ Q (.ref s.heap.objs.size) { s with heap := s.heap.push { cls := .type "tuple", data := .seq us.toArray }, toks := t' } := by
  refine ⟨.ref s.heap.objs.size, _, I.laid (t' := t') (o := .frz { cls := .type "tuple", data := .seq us.toArray } (.tup xs)) (fun b ob e => Heap.get?_push_of_some _ e) (Nat.le_refl _) ⟨Heap.get?_push_size _ rfl, hz, us, r, IsTup.new _ _⟩, rfl, q _ _ (I.hok.fresh (Nat.le_refl _)) rfl⟩
def tTupF (t : TA) : TE := fun σ H Q => t σ H fun xs H1 => xs.length ≤ sizeLine ∧ TupNew H1 xs Q
theorem pe_tupF {t : TA} {x1} (h : PA X es t) : PE X (.Tuple es x1 pos) (tTupF t) := by
  refine ⟨fun pins s σ H Q I hq => wpAny_Tuple_spliced (thn (h.run pos pins s σ H _ I hq) fun us s1 ⟨xs, H1, I1, r, z, q⟩ => ⟨by rw [← r.length]; exact z, ?_⟩)⟩
  exact Inv.newT (t' := s1.toks) I1 r z q
theorem call_tupF : CallR X (.type "tuple") (fun xs H Q => ∃ p ys, xs = [.ref p] ∧ ((SqL X.K H p ys ∧ TupNew H ys Q) ∨ (SqT X.K H p ys ∧ Q (.ref p) H))) := by
  rintro pins s σ H xs us Q I r ⟨p, ys, rfl, h⟩
  obtain ⟨u, rfl, rx⟩ := vals1 r
  obtain rfl : u = .ref p := rx
  rcases h with ⟨hq, q⟩ | ⟨hq, q⟩
  · obtain ⟨its, r', pl, hz⟩ := I.list hq
    have hlen := r'.length
    refine call_tuple_list pl.isList (fun h' kp => ?_) (by simp only [List.size_toArray]; omega)
    exact Inv.newT (t' := s.toks) (s := { s with heap := h' }) (I.kept (t' := s.toks) kp) r' hz q
  · obtain ⟨its, r', pl, hz⟩ := I.tuple hq
    exact call_tuple_same pl ⟨.ref p, H, I, rfl, q⟩
def rCatF (K : PySem.W.Frag) : R2 := fun x y H Q => ∃ a b xs ys, x = .ref a ∧ y = .ref b ∧ SqT K H a xs ∧ SqT K H b ys ∧ xs.length + ys.length ≤ sizeLine ∧
  (xs = [] → Q (.ref b) H) ∧ (xs ≠ [] → ys = [] → Q (.ref a) H) ∧ (xs ≠ [] → ys ≠ [] → TupNew H (xs ++ ys) Q)
theorem op_catF : OpR X (binaryOp .Add) (rCatF X.K) := by
  rintro pins s σ H x y v u Q I rx ry ⟨a, b, xs, ys, rfl, rfl, ha, hb, hz, q0, q1, q2⟩
  by_cases hx : xs = []
  · exact op_catA pins s σ H _ _ v u Q I rx ry ⟨a, b, xs, ys, rfl, rfl, ha, hb, hz, q0, fun z => absurd hx z, fun z => absurd hx z⟩
  · by_cases hy : ys = []
    · exact op_catA pins s σ H _ _ v u Q I rx ry ⟨a, b, xs, ys, rfl, rfl, ha, hb, hz, q0, q1, fun _ z => absurd hy z⟩
    · obtain rfl : v = .ref a := rx
      obtain rfl : u = .ref b := ry
      obtain ⟨us, r1, p1, _⟩ := I.tuple ha
      obtain ⟨ws, r2, p2, _⟩ := I.tuple hb
      refine HT.cat_tup p1 p2 (fun z => hx (r1.nil_iff.mp z)) (fun z => absurd (r2.nil_iff.mp z) hy) (fun z => ?_) (by rw [← r1.length, ← r2.length]; exact hz)
      exact Inv.newT (t' := s.toks) I (r1.append r2) (by rw [List.length_append]; exact hz) (q2 hx hy)
def rSlF (K : PySem.W.Frag) : V → Option Int → Option Int → Hp → VK → Prop := fun x lo hi H Q => ∃ a xs, x = .ref a ∧ SqT K H a xs ∧
  (HT.sIx xs.length 0 lo = 0 ∧ HT.sIx xs.length xs.length hi = xs.length → Q (.ref a) H) ∧ (¬ (HT.sIx xs.length 0 lo = 0 ∧ HT.sIx xs.length xs.length hi = xs.length) → TupNew H (cutV xs lo hi) Q)
theorem sl_tupF : SlR X (rSlF X.K) := by
  rintro pins s σ H x v vl vu lo hi sl Q I rx hs pl pu ⟨a, xs, rfl, hx, q1, q2⟩
  by_cases hw : HT.sIx xs.length 0 lo = 0 ∧ HT.sIx xs.length xs.length hi = xs.length
  · exact sl_tupA pins s σ H _ v vl vu lo hi sl Q I rx hs pl pu ⟨a, xs, rfl, hx, q1, fun z => absurd hw z⟩
  · obtain rfl : v = .ref a := rx
    obtain ⟨us, r, ht, hz⟩ := I.tuple hx
    have hlen : us.toArray.size = xs.length := by rw [List.size_toArray]; exact r.length.symm
    refine ⟨"tuple", _, PyProof.Rows.slot_tuple_getitem.lookup, ht.typeIs, ?_⟩
    refine HT.getItem_tuple_cut ht hs pl pu (by rw [hlen]; exact hw) ?_ (by rw [hlen]; exact hz)
    rw [hlen]
    exact Inv.newT (t' := s.toks) I ((r.drop (HT.sIx xs.length 0 lo)).take (HT.sIx xs.length xs.length hi - HT.sIx xs.length 0 lo)) (Nat.le_trans (cutV_length xs lo hi) hz) (q2 hw)
/-- a tuple, so often -/
def rRepF (K : PySem.W.Frag) : R2 := fun x y H Q => ∃ l k xs, x = .ref l ∧ y = .int k ∧ SqT K H l xs ∧ xs ≠ [] ∧ 2 ≤ k ∧ k ≤ 1000 ∧ xs.length ≤ 1000 ∧ TupNew H (List.replicate k.toNat xs).flatten Q
theorem op_repF : OpR X (binaryOp .Mult) (rRepF X.K) := by
  rintro pins s σ H x y v u Q I rx ry ⟨l, k, xs, rfl, rfl, hT, hne, h1, h2, hz, q⟩
  obtain rfl : v = .ref l := rx
  obtain ⟨t, rfl⟩ := ry
  obtain ⟨us, r, ⟨⟨cls, dd, data, sl⟩, ho, hc, n, hd⟩, hs⟩ := I.tuple hT
  simp only at hc hd
  subst hc hd
  have len1 : us.length = xs.length := r.length.symm
  have some1 : us.toArray.isEmpty = false := by
    cases us with
    | nil => exact absurd (List.eq_nil_of_length_eq_zero len1.symm) hne
    | cons a b => rfl
  have size1 : us.toArray.size = xs.length := by rw [List.size_toArray, len1]
  have many : ((us.toArray.size : Nat) : Int) * k ≤ 1000000 := by
    rw [size1]
    have a1 : ((xs.length : Nat) : Int) * k ≤ 1000 * k := Int.mul_le_mul_of_nonneg_right (by omega) (by omega)
    omega
  have fits : (List.replicate k.toNat us).flatten.length ≤ sizeLine := by
    rw [flat_len, len1, sizeLine_eq]
    have a1 : xs.length * k.toNat ≤ 1000 * 1000 := Nat.mul_le_mul hz (by omega)
    omega
  have made : (List.foldl (fun x1 x2 => x1 ++ x2) #[] (List.replicate k.toNat us.toArray)) = (List.replicate k.toNat us).flatten.toArray := by
    have f0 := folded us k.toNat []
    rw [List.nil_append] at f0
    exact f0
  have b0 : (decide (k < -(2 ^ 63)) || decide (k ≥ 2 ^ 63)) = false := by simp; omega
  have b1 : (us.toArray.isEmpty || k == 1) = false := by
    rw [some1, Bool.false_or]
    exact beq_eq_false_iff_ne.mpr (by omega)
  have b2 : (decide (k ≤ 0) || us.toArray.isEmpty) = false := by
    rw [some1, Bool.or_false]
    exact decide_eq_false (by omega)
  have b4 : Builtin.Tuple.tupleTooMany (((us.toArray.size : Nat) : Int) * k) = false := by
    unfold Builtin.Tuple.tupleTooMany
    rw [sizeLine_eq]
    exact decide_eq_false (by omega)
  have tyT : s.TypeIs (.ref l) "tuple" := ⟨_, ho, rfl⟩
  refine wpAny_binaryOp_repeat_ref (T := "tuple") (U := "int") (by decide) tyT (fun s' => typeIs_int s' k t) noFill_tuple_mul F.fills_int_mul F.slot_int_rmul repeat_tuple F.slot_int_index.lookup ?_
  refine call_meets F.slot_int_rmul (typeIs_int s k t) F.entry_int_rmul (F.args_int_rmul_2 _ _) (int_rmul_tuple k t l us.toArray n dd sl) ⟨ho, rfl, tyT, ?_⟩
  refine call_meets F.slot_tuple_mul tyT F.entry_tuple_mul (F.args_tuple_mul_2 _ _) (tuple_mulW l us.toArray n dd sl k t b0 b1 b2 (by omega) b4 (by rw [made, List.size_toArray]; exact fits)) ⟨ho, ?_⟩
  rw [made]
  exact Inv.newT (t' := s.toks) I (vals_rep r k.toNat) (by rw [flat_len, ← len1, ← flat_len]; exact fits) q
end

theorem line_eq : sizeLine = 16777216 := by rw [sizeLine_eq]
theorem mkL_some {ds : List D} {d : D} (h : mkL ds = some d) : ds.length ≤ 1000000 ∧ d = .list ds := by
  unfold mkL sizeOk at h
  split at h
  · rename_i h1
    cases h
    exact ⟨of_decide_eq_true h1, rfl⟩
  · cases h
theorem mkT_some {ds : List D} {d : D} (h : mkT ds = some d) : ds.length ≤ 1000000 ∧ d = .tuple ds := by
  unfold mkT sizeOk at h
  split at h
  · rename_i h1
    cases h
    exact ⟨of_decide_eq_true h1, rfl⟩
  · cases h
section
variable {F : Fr} {C : List Addr} {s : State} {σ : L2.St} {H : Hp} {Q : VK}
/-- a list is laid -/
theorem laid_val (G : Good F C Z0 s σ H) {ds : List D} {vs : List V} (r : RepL F.K (Wf F C s.env σ) H ds vs) (q : ∀ v H', RVal F C s σ H C s H' (.list ds) v → Q v H') : ∀ p, H p = none → Q (.ref p) (upd H p (.lst vs)) := fun p hp => by
  have f : Fresh F C s σ H C s (upd H p (.lst vs)) p := fresh_of G hp
  have r2 : RepL F.K (fun a => Wf F C s.env σ a ∨ a = p) (upd H p (.lst vs)) ds vs := r.stp f.2.1 _ _
  exact q _ _ ⟨f.aft, f.rep upd_same r2⟩
theorem laid_fr (G : Good F C Z0 s σ H) {ds : List D} {vs : List V} (r : RepL F.K (Wf F C s.env σ) H ds vs) (q : ∀ v H', RFr F C s σ H C s H' ds v → Q v H') : ∀ p, H p = none → Q (.ref p) (upd H p (.lst vs)) := fun p hp => by
  have f : Fresh F C s σ H C s (upd H p (.lst vs)) p := fresh_of G hp
  have r2 : RepL F.K (fun a => Wf F C s.env σ a ∨ a = p) (upd H p (.lst vs)) ds vs := r.stp f.2.1 _ _
  exact q _ _ ⟨p, vs, rfl, f, upd_same, r2⟩
theorem laid_tup (G : Good F C Z0 s σ H) {ds : List D} {vs : List V} (r : RepL F.K (Wf F C s.env σ) H ds vs) (q : ∀ v H', RVal F C s σ H C s H' (.tuple ds) v → Q v H') : ∀ p ob, H p = none → ob.dict = none → Q (.ref p) (upd H p (.frz ob (.tup vs))) := fun p ob hp hd => by
  obtain ⟨a, r2⟩ := new_tup G hp hd r
  exact q _ _ ⟨a, r2⟩
/-- a tuple that is read is a tuple that may be given on -/
theorem tup_on (G : Good F C Z0 s σ H) {ds : List D} {v : V} (r : RepR F.K (Wf F C s.env σ) H (.tuple ds) v) : Rep F.K (Wf F C s.env σ) H (.tuple ds) v := by
  obtain ⟨a, vs, e, h, hl⟩ := r
  simp only [Rep]
  refine ⟨a, vs, e, ?_, hl⟩
  rcases h with ⟨o, h, d⟩ | h
  · exact .inl ⟨o, h, d, G.tup h⟩
  · exact .inr h
end
/-- what two lists make, or a list and an int -/
def listop : Bop → D → D → Option (List D)
  | .add, .list xs, .list ys => if sizeOk (xs ++ ys).length then some (xs ++ ys) else none
  | .mul, .list xs, .int k => if -(2 ^ 62) ≤ k ∧ k < 2 ^ 62 ∧ sizeOk (List.replicate k.toNat xs).flatten.length = true then some (List.replicate k.toNat xs).flatten else none
  | _, _, _ => none
theorem add_fr : OpG X RFr (binaryOp .Add) (listop .add) := by
  refine ⟨_, op_catR, fun F C s σ H x y dx dy a Q hK G rx ry e q => ?_⟩
  cases dx <;> cases dy <;> try (cases e; done)
  rename_i xs ys
  simp only [listop] at e
  split at e
  · rename_i h1
    cases e
    obtain ⟨l, vs, e1, h, hl⟩ := rx
    obtain ⟨b, us, e2, h', hl'⟩ := ry
    have n1 := hl.length
    have n2 := hl'.length
    have h2 : (xs ++ ys).length ≤ 1000000 := of_decide_eq_true h1
    rw [List.length_append] at h2
    exact ⟨l, b, vs, us, e1, e2, h, h', by rw [line_eq]; omega, laid_fr G (hl.append hl') q⟩
  · cases e
theorem mul_fr : OpG X RFr (binaryOp .Mult) (listop .mul) := by
  refine ⟨_, op_repR, fun F C s σ H x y dx dy a Q hK G rx ry e q => ?_⟩
  cases dx <;> cases dy <;> try (cases e; done)
  rename_i xs k
  simp only [listop] at e
  split at e
  · rename_i h1
    cases e
    obtain ⟨l, vs, e1, h, hl⟩ := rx
    have n1 := hl.length
    have h2 : (List.replicate k.toNat xs).flatten.length ≤ 1000000 := of_decide_eq_true h1.2.2
    rw [flat_len] at h2
    exact ⟨l, k, vs, e1, rr_int ry, h, h1.1, h1.2.1, by rw [line_eq, n1]; omega, laid_fr G (hl.rep _) q⟩
  · cases e
theorem add_ok : OpG X RVal (binaryOp .Add) (binop .add) := by
  refine ⟨_, OpR.or op_add (OpR.or op_add_str (OpR.or op_catR op_catF)), fun F C s σ H x y dx dy a Q hK G rx ry e q => ?_⟩
  cases dx <;> cases dy <;> try (cases e; done)
  · cases e
    exact .inl ⟨_, _, rr_int rx, rr_int ry, q _ _ ⟨Aft.refl G, rp_int⟩⟩
  · simp only [binop] at e
    split at e
    · cases e
      exact .inr (.inl ⟨_, _, rr_str rx, rr_str ry, by assumption, q _ _ ⟨Aft.refl G, rp_str⟩⟩)
    · cases e
  · rename_i xs ys
    obtain ⟨h2, rfl⟩ := mkL_some e
    obtain ⟨l, vs, e1, h, hl⟩ := rx
    obtain ⟨b, us, e2, h', hl'⟩ := ry
    have n1 := hl.length
    have n2 := hl'.length
    rw [List.length_append] at h2
    exact .inr (.inr (.inl ⟨l, b, vs, us, e1, e2, h, h', by rw [line_eq]; omega, laid_val G (hl.append hl') q⟩))
  · rename_i xs ys
    obtain ⟨h2, rfl⟩ := mkT_some e
    have rx' := tup_on G rx
    have ry' := tup_on G ry
    obtain ⟨l, vs, e1, h, hl⟩ := rx
    obtain ⟨b, us, e2, h', hl'⟩ := ry
    have n1 := hl.length
    have n2 := hl'.length
    rw [List.length_append] at h2
    have hs := h.sq
    have hs' := h'.sq
    rw [hK] at hs hs'
    refine .inr (.inr (.inr ⟨l, b, vs, us, e1, e2, hs, hs', by rw [line_eq]; omega, fun ev => ?_, fun _ eu => ?_, fun _ _ => laid_tup G (hl.append hl') q⟩))
    · have : xs = [] := by
        rw [ev] at n1
        exact List.eq_nil_of_length_eq_zero n1.symm
      subst this
      rw [← e2]
      exact q _ _ ⟨Aft.refl G, by simpa using ry'⟩
    · have : ys = [] := by
        rw [eu] at n2
        exact List.eq_nil_of_length_eq_zero n2.symm
      subst this
      rw [← e1]
      exact q _ _ ⟨Aft.refl G, by simpa using rx'⟩
theorem sub_ok : OpG X RVal (binaryOp .Sub) (binop .sub) := by
  refine ⟨_, op_sub, fun F C s σ H x y dx dy a Q hK G rx ry e q => ?_⟩
  cases dx <;> cases dy <;> try (cases e; done)
  cases e
  exact ⟨_, _, rr_int rx, rr_int ry, q _ _ ⟨Aft.refl G, rp_int⟩⟩
theorem abs64 {i : Int} (h : i.natAbs < 2 ^ 64) : -(2 ^ 64) < i ∧ i < 2 ^ 64 := by omega
theorem mul_ok : OpG X RVal (binaryOp .Mult) (binop .mul) := by
  refine ⟨_, OpR.or op_mul (OpR.or op_mulW (OpR.or op_repR op_repF)), fun F C s σ H x y dx dy a Q hK G rx ry e q => ?_⟩
  cases dx <;> cases dy <;> try (cases e; done)
  · simp only [binop] at e
    split at e
    · rename_i h1
      cases e
      unfold mulOk at h1
      simp only [Bool.or_eq_true, decide_eq_true_eq] at h1
      rcases h1 with (h1 | h1) | h1
      · exact .inl ⟨_, _, rr_int rx, rr_int ry, .inl (abs64 h1), q _ _ ⟨Aft.refl G, rp_int⟩⟩
      · exact .inl ⟨_, _, rr_int rx, rr_int ry, .inr (abs64 h1), q _ _ ⟨Aft.refl G, rp_int⟩⟩
      · exact .inr (.inl ⟨_, _, rr_int rx, rr_int ry, h1, q _ _ ⟨Aft.refl G, rp_int⟩⟩)
    · cases e
  · rename_i xs k
    simp only [binop] at e
    split at e
    · rename_i h1
      obtain ⟨h2, rfl⟩ := mkL_some e
      obtain ⟨l, vs, e1, h, hl⟩ := rx
      have n1 := hl.length
      rw [flat_len] at h2
      exact .inr (.inr (.inl ⟨l, k, vs, e1, rr_int ry, h, h1.1, h1.2, by rw [line_eq, n1]; omega, laid_val G (hl.rep _) q⟩))
    · cases e
  · rename_i xs k
    simp only [binop] at e
    split at e
    · rename_i h1
      cases e
      obtain ⟨l, vs, e1, h, hl⟩ := rx
      have n1 := hl.length
      have hs := h.sq
      rw [hK] at hs
      refine .inr (.inr (.inr ⟨l, k, vs, e1, rr_int ry, hs, fun z => ?_, h1.2.1, h1.2.2.1, by rw [n1]; exact h1.2.2.2, laid_tup G (hl.rep _) q⟩))
      rw [z] at n1
      exact h1.1 (List.eq_nil_of_length_eq_zero n1.symm)
    · cases e
theorem fdiv_ok : OpG X RVal (binaryOp .FloorDiv) (binop .fdiv) := by
  refine ⟨_, op_fdivW, fun F C s σ H x y dx dy a Q hK G rx ry e q => ?_⟩
  cases dx <;> cases dy <;> try (cases e; done)
  simp only [binop] at e
  split at e
  · cases e
    exact ⟨_, _, rr_int rx, rr_int ry, by assumption, q _ _ ⟨Aft.refl G, rp_int⟩⟩
  · cases e
theorem mod_ok : OpG X RVal (binaryOp .Mod) (binop .mod) := by
  refine ⟨_, op_mod, fun F C s σ H x y dx dy a Q hK G rx ry e q => ?_⟩
  cases dx <;> cases dy <;> try (cases e; done)
  simp only [binop] at e
  split at e
  · cases e
    exact ⟨_, _, rr_int rx, rr_int ry, by assumption, q _ _ ⟨Aft.refl G, rp_int⟩⟩
  · cases e
def CPowR (i j : Int) : Prop := 0 ≤ j ∧ (bitsOf i : Int) * j ≤ 2 ^ 27
theorem op_powR : OpR X (binaryOp .Pow) (rI CPowR fun i j => .int (i ^ j.toNat)) := opI fun i j _ _ _ _ _ hc q => by
  refine PyProof.Rows.pow_int hc.1 ?_ q
  have b : Builtin.Int.intBits i ≤ bitsOf i := by
    unfold Builtin.Int.intBits bitsOf
    split <;> omega
  have m : (Builtin.Int.intBits i : Int) * j ≤ (bitsOf i : Int) * j := Int.mul_le_mul_of_nonneg_right (by omega) hc.1
  exact Int.le_trans m hc.2
theorem pow_ok : OpG X RVal (binaryOp .Pow) (binop .pow) := by
  refine ⟨_, op_powR, fun F C s σ H x y dx dy a Q hK G rx ry e q => ?_⟩
  cases dx <;> cases dy <;> try (cases e; done)
  simp only [binop] at e
  split at e
  · cases e
    exact ⟨_, _, rr_int rx, rr_int ry, by assumption, q _ _ ⟨Aft.refl G, rp_int⟩⟩
  · cases e
def bopOf : Bop → Operator
  | .add => .Add
  | .sub => .Sub
  | .mul => .Mult
  | .fdiv => .FloorDiv
  | .mod => .Mod
  | .pow => .Pow
theorem bop_ok : ∀ op : Bop, OpG X RVal (binaryOp (bopOf op)) (binop op)
  | .add => add_ok
  | .sub => sub_ok
  | .mul => mul_ok
  | .fdiv => fdiv_ok
  | .mod => mod_ok
  | .pow => pow_ok
end
end IR

end
section
/-! Ir5: comparisons; dicts by their keys. -/
namespace IR
open PySem PySem.Spec PyProof.Rows L2

/-! ### data without dicts, as the library reads them -/
section
variable {K : PySem.W.Frag} {W : Addr → Prop} {H : Hp}
theorem TupAt.sqT {a : Addr} {vs : List V} (t : TupAt K W H a vs) : SqT K H a vs := t.sq.sq
mutual
theorem Rep.dp : ∀ (d : D) (v : V), d.canLay0 = true → Rep K W H d v → Dp K H v d
  | .none, v, _, h => by simp only [Rep] at h; subst h; exact .non
  | .bool b, v, _, h => by simp only [Rep] at h; subst h; exact .bl b
  | .int i, v, _, h => by simp only [Rep] at h; subst h; exact .int i
  | .str x, v, _, h => by simp only [Rep] at h; subst h; exact .str x
  | .list ds, v, l, h => by
    simp only [Rep] at h
    obtain ⟨a, vs, e, n, ha, hl⟩ := h
    subst e
    exact .lst (SqL.of ha) (RepL.dp ds vs (by simpa [PyData.canLay0] using l) hl)
  | .tuple ds, v, l, h => by
    simp only [Rep] at h
    obtain ⟨a, vs, e, t, hl⟩ := h
    subst e
    exact .tup t.sqT (RepL.dp ds vs (by simpa [PyData.canLay0] using l) hl)
  | .dict kvs, v, l, h => by simp [PyData.canLay0] at l
theorem RepL.dp : ∀ (ds : List D) (vs : List V), PyData.canLayAll0 ds = true → RepL K W H ds vs → DpAll K H vs ds
  | [], vs, _, h => by simp only [RepL] at h; subst h; exact .nil
  | d :: ds, vs, l, h => by
    simp only [RepL] at h
    obtain ⟨v, r, e, h1, h2⟩ := h
    subst e
    have l' : d.canLay0 = true ∧ PyData.canLayAll0 ds = true := by simpa [PyData.canLayAll0] using l
    exact .cons (Rep.dp d v l'.1 h1) (RepL.dp ds r l'.2 h2)
end
theorem RepR.dp {d : D} {v : V} (l : d.canLay0 = true) (h : RepR K W H d v) : Dp K H v d := by
  cases d with
  | list ds =>
    obtain ⟨a, vs, e, ha, hl⟩ := h
    subst e
    exact .lst (.inl ha) (RepL.dp ds vs (by simpa [PyData.canLay0] using l) hl)
  | tuple ds =>
    obtain ⟨a, vs, e, t, hl⟩ := h
    subst e
    exact .tup t.sq (RepL.dp ds vs (by simpa [PyData.canLay0] using l) hl)
  | dict kvs => simp [PyData.canLay0] at l
  | none => exact Rep.dp (W := W) _ _ l h
  | bool b => exact Rep.dp (W := W) _ _ l h
  | int i => exact Rep.dp (W := W) _ _ l h
  | str x => exact Rep.dp (W := W) _ _ l h
theorem shaped_lay {d : D} (h : SeqAt.shaped d = true) : d.canLay0 = true := SeqAt.canLay_of_shaped h
theorem RepKV.keys : ∀ {kvs : List (D × D)} {ks : List (Key × V)}, RepKV K W H kvs ks → kvs.map (·.1) = ks.map fun p => keyD p.1
  | [], ks, h => by simp only [RepKV] at h; subst h; rfl
  | (k, d) :: r, ks, h => by
    simp only [RepKV] at h
    obtain ⟨q, v, t, e, e2, h1, h2⟩ := h
    subst e
    simp only [List.map_cons, RepKV.keys h2, e2]
theorem keyEq_key (p q : Key) : keyEq (keyD p) (keyD q) = decide (p = q) := by
  cases p <;> cases q <;> simp [keyD, keyEq]
theorem key_of {k : D} (h : isKey k = true) : ∃ q : Key, keyD q = k := by
  cases k <;> first | exact ⟨.inl _, rfl⟩ | exact ⟨.inr _, rfl⟩ | cases h
theorem rr_key {q : Key} {v : V} (h : RepR K W H (keyD q) v) : v = kV q := by
  cases q with
  | inl i => exact rr_int h
  | inr x => exact rr_str h
theorem RepKV.find {q : Key} : ∀ {kvs : List (D × D)} {ks : List (Key × V)}, RepKV K W H kvs ks →
    inKeys (keyD q) kvs = (valV ks q).isSome ∧ ∀ d, look (keyD q) kvs = some d → ∃ v, valV ks q = some v ∧ Rep K W H d v
  | [], ks, h => by
    simp only [RepKV] at h
    subst h
    exact ⟨rfl, fun d e => by cases e⟩
  | (k, d) :: r, ks, h => by
    simp only [RepKV] at h
    obtain ⟨p, v, t, e, e2, h1, h2⟩ := h
    subst e
    obtain ⟨i1, i2⟩ := RepKV.find (q := q) h2
    subst e2
    by_cases hk : p = q
    · subst hk
      refine ⟨by rw [valV_pos rfl]; simp [inKeys, keyEq_key], fun d' e => ⟨v, valV_pos rfl, ?_⟩⟩
      have e' : some d = some d' := by simpa [look, keyEq_key] using e
      cases e'
      exact h1
    · have hk' : ¬ (p, v).1 = q := hk
      rw [valV_neg hk']
      refine ⟨by rw [← i1]; simp [inKeys, keyEq_key, hk], fun d' e => i2 d' ?_⟩
      simpa [look, keyEq_key, hk] using e
theorem RepKV.len : ∀ {kvs : List (D × D)} {ks : List (Key × V)}, RepKV K W H kvs ks → ks.length = kvs.length := fun h => by
  have e := congrArg List.length h.keys
  simpa using e.symm
theorem RepKV.mapP {q : Key} {d : D} {v : V} (hv : Rep K W H d v) : ∀ {kvs : List (D × D)} {ks : List (Key × V)}, RepKV K W H kvs ks →
    RepKV K W H (kvs.map fun p => if keyEq p.1 (keyD q) then (p.1, d) else p) (ks.map fun kv => if kv.1 = q then (kv.1, v) else kv)
  | [], ks, h => by simp only [RepKV] at h; subst h; simp [RepKV]
  | (k, d0) :: r, ks, h => by
    simp only [RepKV] at h
    obtain ⟨p, v0, t, e, e2, h1, h2⟩ := h
    subst e
    subst e2
    simp only [List.map_cons, keyEq_key]
    by_cases hk : p = q
    · simp only [hk, decide_true, if_true, RepKV]
      exact ⟨q, v, _, rfl, rfl, hv, RepKV.mapP hv h2⟩
    · simp only [hk, decide_false, if_false, RepKV]
      exact ⟨p, v0, _, rfl, rfl, h1, RepKV.mapP hv h2⟩
theorem RepKV.snoc {q : Key} {d : D} {v : V} (hv : Rep K W H d v) : ∀ {kvs : List (D × D)} {ks : List (Key × V)}, RepKV K W H kvs ks → RepKV K W H (kvs ++ [(keyD q, d)]) (ks ++ [(q, v)])
  | [], ks, h => by
    simp only [RepKV] at h
    subst h
    simp only [List.nil_append, RepKV]
    exact ⟨q, v, [], rfl, rfl, hv, rfl⟩
  | (k, d0) :: r, ks, h => by
    simp only [RepKV] at h
    obtain ⟨p, v0, t, e, e2, h1, h2⟩ := h
    subst e
    simp only [List.cons_append, RepKV]
    exact ⟨p, v0, _, rfl, e2, h1, RepKV.snoc hv h2⟩
theorem RepKV.put {q : Key} {d : D} {v : V} (hv : Rep K W H d v) {kvs : List (D × D)} {ks : List (Key × V)} (h : RepKV K W H kvs ks) : RepKV K W H (IR.put (keyD q) d kvs) (putK ks q v) := by
  unfold IR.put putK
  rw [valV_any, (RepKV.find h).1]
  split
  · exact RepKV.mapP hv h
  · exact RepKV.snoc hv h
end

section
variable {X : Cx}
theorem cmp_units {N : List Str} {S : Sco} {k : Nat} (c : CtxOk X N S k) : X.A.units + 65 < cLine := by
  have := c.room.un
  omega
def cmpD (op : Cop) (a b : D) : Option D := (cmpop op a b).map .bool
theorem eq_core (hu : X.A.units + 64 < cLine) : ∃ r : R2, OpR X (compareOp .Eq) r ∧ ∀ (F : Fr) (W : Addr → Prop) (H : Hp) (x y : V) (dx dy : D) (b : Bool) (Q : VK), F.K = X.K → RepR F.K W H dx x → RepR F.K W H dy y → eqD dx dy = some b → Q (.bl b) H → r x y H Q := by
  refine ⟨_, OpR.or op_eq (op_eqD hu), fun F W H x y dx dy b Q hK rx ry e q => ?_⟩
  have gen : SeqAt.shaped dx = true → SeqAt.shaped dy = true → PyData.eqv dx dy = b → rEqD X.K x y H Q := fun s1 s2 e => by
    rw [hK] at rx ry
    exact ⟨dx, dy, rx.dp (shaped_lay s1), ry.dp (shaped_lay s2), s1, s2, by rw [e]; exact q⟩
  have viaG : (if (SeqAt.shaped dx && SeqAt.shaped dy) = true then some (PyData.eqv dx dy) else none) = some b → rEqD X.K x y H Q := fun e => by
    split at e
    · rename_i h1
      simp only [Bool.and_eq_true] at h1
      exact gen h1.1 h1.2 (Option.some.inj e)
    · cases e
  cases dx <;> cases dy <;> first
    | exact .inr (viaG e)
    | (refine .inl ?_
       have e1 := rr_int rx
       have e2 := rr_int ry
       subst e1 e2
       simp only [eqD, Option.some.injEq] at e
       refine ⟨rfl, ?_⟩
       have e3 : decide (V.int _ = V.int _) = b := by
         rw [← e]
         simp [Bool.beq_eq_decide_eq]
       rw [e3]
       exact q)
    | (refine .inl ?_
       have e1 := rr_str rx
       have e2 := rr_str ry
       subst e1 e2
       simp only [eqD, Option.some.injEq] at e
       refine ⟨rfl, ?_⟩
       subst e
       simpa using q)
theorem ne_core (hu : X.A.units + 64 < cLine) : ∃ r : R2, OpR X (compareOp .NotEq) r ∧ ∀ (F : Fr) (W : Addr → Prop) (H : Hp) (x y : V) (dx dy : D) (b : Bool) (Q : VK), F.K = X.K → RepR F.K W H dx x → RepR F.K W H dy y → eqD dx dy = some b → Q (.bl (!b)) H → r x y H Q := by
  refine ⟨_, OpR.or op_ne (op_neD hu), fun F W H x y dx dy b Q hK rx ry e q => ?_⟩
  have gen : SeqAt.shaped dx = true → SeqAt.shaped dy = true → PyData.eqv dx dy = b → rNeD X.K x y H Q := fun s1 s2 e => by
    rw [hK] at rx ry
    exact ⟨dx, dy, rx.dp (shaped_lay s1), ry.dp (shaped_lay s2), s1, s2, by rw [e]; exact q⟩
  have viaG : (if (SeqAt.shaped dx && SeqAt.shaped dy) = true then some (PyData.eqv dx dy) else none) = some b → rNeD X.K x y H Q := fun e => by
    split at e
    · rename_i h1
      simp only [Bool.and_eq_true] at h1
      exact gen h1.1 h1.2 (Option.some.inj e)
    · cases e
  cases dx <;> cases dy <;> first
    | exact .inr (viaG e)
    | (refine .inl ?_
       have e1 := rr_int rx
       have e2 := rr_int ry
       subst e1 e2
       simp only [eqD, Option.some.injEq] at e
       refine ⟨rfl, ?_⟩
       have e3 : decide (V.int _ = V.int _) = b := by
         rw [← e]
         simp [Bool.beq_eq_decide_eq]
       rw [e3]
       exact q)
    | (refine .inl ?_
       have e1 := rr_str rx
       have e2 := rr_str ry
       subst e1 e2
       simp only [eqD, Option.some.injEq] at e
       refine ⟨rfl, ?_⟩
       subst e
       simpa using q)

/-! ### in -/
def rInT (K : PySem.W.Frag) (neg : Bool) : R2 := fun x y H Q => ∃ d ds, Dp K H x d ∧ Dp K H y (.tuple ds) ∧ SeqAt.shaped d = true ∧ SeqAt.shaped (.tuple ds) = true ∧ Q (.bl (neg ^^ (ds.any fun z => PyData.eqv z d))) H
theorem op_inT (hu : X.A.units + 65 < cLine) : OpR X (compareOp .In) (rInT X.K false) := by
  rintro pins s σ H x y v u Q I rx ry ⟨d, ds, hd, he, sd, se, q⟩
  obtain ⟨as1, r1⟩ := Dp.reads I d x v hd rx
  obtain ⟨as2, r2⟩ := Dp.reads I (.tuple ds) y u he ry
  exact SeqAt.in_tuple_reads r2 r1 (SeqAt.canLay_of_shaped se) (SeqAt.canLay_of_shaped sd) (room_in_shaped sd hu) ⟨.bl _, H, I, rfl, by simpa using q⟩
theorem op_ninT (hu : X.A.units + 65 < cLine) : OpR X (compareOp .NotIn) (rInT X.K true) := by
  rintro pins s σ H x y v u Q I rx ry ⟨d, ds, hd, he, sd, se, q⟩
  obtain ⟨as1, r1⟩ := Dp.reads I d x v hd rx
  obtain ⟨as2, r2⟩ := Dp.reads I (.tuple ds) y u he ry
  exact SeqAt.notIn_tuple_reads r2 r1 (SeqAt.canLay_of_shaped se) (SeqAt.canLay_of_shaped sd) (room_in_shaped sd hu) ⟨.bl _, H, I, rfl, by simpa using q⟩
def rInDk (neg : Bool) : R2 := fun x y H Q => ∃ a o, y = .ref a ∧ DGet H a x o ∧ Q (.bl (neg ^^ o.isSome)) H
theorem op_inDk (hu : X.A.units + 1 < cLine) : OpR X (compareOp .In) (rInDk false) := by
  rintro pins s σ H x y v u Q I rx ry ⟨a, o, rfl, g, q⟩
  obtain rfl : u = .ref a := ry
  exact d_in hu I g rx fun s' I' => ⟨.bl o.isSome, H, I', rfl, by simpa using q⟩
theorem op_ninDk (hu : X.A.units + 1 < cLine) : OpR X (compareOp .NotIn) (rInDk true) := by
  rintro pins s σ H x y v u Q I rx ry ⟨a, o, rfl, g, q⟩
  obtain rfl : u = .ref a := ry
  exact d_notIn hu I g rx fun s' I' => ⟨.bl (!o.isSome), H, I', rfl, by simpa using q⟩
theorem one_sign {x : Str} (h : x.cps.size = 1) : x = ⟨#[x.cps.getD 0 0]⟩ := by
  obtain ⟨c⟩ := x
  congr 1
  apply Array.ext
  · simpa using h
  · intro i h1 h2
    have hi : i = 0 := by
      simp at h2
      exact h2
    subst hi
    simp [Array.getD_eq_getD_getElem?, Array.getElem?_eq_getElem h1]
theorem in_core (hu : X.A.units + 65 < cLine) : ∃ r : R2, OpR X (compareOp .In) r ∧ ∀ (F : Fr) (W : Addr → Prop) (H : Hp) (x y : V) (dx dy : D) (b : Bool) (Q : VK), F.K = X.K → RepR F.K W H dx x → RepR F.K W H dy y → inD dx dy = some b → Q (.bl b) H → r x y H Q := by
  refine ⟨_, OpR.or (op_inD hu) (OpR.or (op_inT hu) (OpR.or (op_inDk (by omega)) op_in_sign)), fun F W H x y dx dy b Q hK rx ry e q => ?_⟩
  rw [hK] at rx ry
  cases dy with
  | list ds =>
    simp only [inD] at e
    split at e
    · rename_i h1
      simp only [Bool.and_eq_true] at h1
      cases e
      exact .inl ⟨dx, ds, rx.dp (shaped_lay h1.1), ry.dp (shaped_lay h1.2), h1.1, h1.2, q⟩
    · cases e
  | tuple ds =>
    simp only [inD] at e
    split at e
    · rename_i h1
      simp only [Bool.and_eq_true] at h1
      cases e
      exact .inr (.inl ⟨dx, ds, rx.dp (shaped_lay h1.1), ry.dp (shaped_lay h1.2), h1.1, h1.2, by simpa using q⟩)
    · cases e
  | dict kvs =>
    simp only [inD] at e
    split at e
    · rename_i h1
      cases e
      obtain ⟨p, hp⟩ := key_of h1
      subst hp
      obtain ⟨a, ks, ea, ha, hl⟩ := ry
      have e2 := rr_key rx
      subst e2
      exact .inr (.inr (.inl ⟨a, _, ea, DGet.k ha, by rw [(RepKV.find hl).1] at q; simpa using q⟩))
    · cases e
  | str z =>
    cases dx with
    | str w =>
      simp only [inD] at e
      split at e
      · rename_i h1
        cases e
        have e1 := rr_str rx
        have e2 := rr_str ry
        exact .inr (.inr (.inr ⟨w.cps.getD 0 0, z, by rw [e1]; exact congrArg V.str (one_sign h1), e2, q⟩))
      · cases e
    | _ => cases e
  | _ => cases e
theorem nin_core (hu : X.A.units + 65 < cLine) : ∃ r : R2, OpR X (compareOp .NotIn) r ∧ ∀ (F : Fr) (W : Addr → Prop) (H : Hp) (x y : V) (dx dy : D) (b : Bool) (Q : VK), F.K = X.K → RepR F.K W H dx x → RepR F.K W H dy y → inD dx dy = some b → Q (.bl (!b)) H → r x y H Q := by
  refine ⟨_, OpR.or (op_notInD hu) (OpR.or (op_ninT hu) (OpR.or (op_ninDk (by omega)) op_notIn_sign)), fun F W H x y dx dy b Q hK rx ry e q => ?_⟩
  rw [hK] at rx ry
  cases dy with
  | list ds =>
    simp only [inD] at e
    split at e
    · rename_i h1
      simp only [Bool.and_eq_true] at h1
      cases e
      exact .inl ⟨dx, ds, rx.dp (shaped_lay h1.1), ry.dp (shaped_lay h1.2), h1.1, h1.2, q⟩
    · cases e
  | tuple ds =>
    simp only [inD] at e
    split at e
    · rename_i h1
      simp only [Bool.and_eq_true] at h1
      cases e
      exact .inr (.inl ⟨dx, ds, rx.dp (shaped_lay h1.1), ry.dp (shaped_lay h1.2), h1.1, h1.2, by simpa using q⟩)
    · cases e
  | dict kvs =>
    simp only [inD] at e
    split at e
    · rename_i h1
      cases e
      obtain ⟨p, hp⟩ := key_of h1
      subst hp
      obtain ⟨a, ks, ea, ha, hl⟩ := ry
      have e2 := rr_key rx
      subst e2
      exact .inr (.inr (.inl ⟨a, _, ea, DGet.k ha, by rw [(RepKV.find hl).1] at q; simpa using q⟩))
    · cases e
  | str z =>
    cases dx with
    | str w =>
      simp only [inD] at e
      split at e
      · rename_i h1
        cases e
        have e1 := rr_str rx
        have e2 := rr_str ry
        exact .inr (.inr (.inr ⟨w.cps.getD 0 0, z, by rw [e1]; exact congrArg V.str (one_sign h1), e2, q⟩))
      · cases e
    | _ => cases e
  | _ => cases e

/-! ### is -/
theorem rep_non {K : PySem.W.Frag} {W : Addr → Prop} {H : Hp} {d : D} {v : V} (h : RepR K W H d v) : decide (v = .non) = isNone d := by
  cases d with
  | none => rw [rr_none h]; rfl
  | bool b => rw [rr_bool h]; rfl
  | int b => rw [rr_int h]; rfl
  | str b => rw [rr_str h]; rfl
  | list ds => obtain ⟨a, vs, e, _⟩ := h; subst e; rfl
  | tuple ds => obtain ⟨a, vs, e, _⟩ := h; subst e; rfl
  | dict ds => obtain ⟨a, vs, e, _⟩ := h; subst e; rfl
theorem is_core : ∃ r : R2, OpR X (compareOp .Is) r ∧ ∀ (F : Fr) (W : Addr → Prop) (H : Hp) (x y : V) (dx dy : D) (b : Bool) (Q : VK), F.K = X.K → RepR F.K W H dx x → RepR F.K W H dy y → isD dx dy = some b → Q (.bl b) H → r x y H Q := by
  refine ⟨_, OpR.or op_isN op_isBl, fun F W H x y dx dy b Q hK rx ry e q => ?_⟩
  cases dy with
  | none =>
    simp only [isD, Option.some.injEq] at e
    exact .inl ⟨rr_none ry, by rw [rep_non rx, e]; exact q⟩
  | bool c =>
    cases dx with
    | bool d =>
      simp only [isD, Option.some.injEq] at e
      exact .inr ⟨d, c, rr_bool rx, rr_bool ry, by rw [← Bool.beq_eq_decide_eq, e]; exact q⟩
    | _ => cases e
  | _ => cases e
theorem isn_core : ∃ r : R2, OpR X (compareOp .IsNot) r ∧ ∀ (F : Fr) (W : Addr → Prop) (H : Hp) (x y : V) (dx dy : D) (b : Bool) (Q : VK), F.K = X.K → RepR F.K W H dx x → RepR F.K W H dy y → isD dx dy = some b → Q (.bl (!b)) H → r x y H Q := by
  refine ⟨_, OpR.or op_notN op_notBl, fun F W H x y dx dy b Q hK rx ry e q => ?_⟩
  cases dy with
  | none =>
    simp only [isD, Option.some.injEq] at e
    exact .inl ⟨rr_none ry, by rw [rep_non rx, e]; exact q⟩
  | bool c =>
    cases dx with
    | bool d =>
      simp only [isD, Option.some.injEq] at e
      exact .inr ⟨d, c, rr_bool rx, rr_bool ry, by rw [← Bool.beq_eq_decide_eq, e]; exact q⟩
    | _ => cases e
  | _ => cases e

def copOf : Cop → CmpOp
  | .eq => .Eq
  | .ne => .NotEq
  | .lt => .Lt
  | .le => .LtE
  | .gt => .Gt
  | .ge => .GtE
  | .in_ => .In
  | .nin => .NotIn
  | .is_ => .Is
  | .isn => .IsNot
theorem lt_core {m : Value → Value → Sem Value} {g : Int → Int → Bool} {f : D → D → Option Bool} (ho : OpR X m (rI0 fun i j => .bl (g i j))) (hf : ∀ i j, f (.int i) (.int j) = some (g i j))
    (hn : ∀ dx dy b, f dx dy = some b → ∃ i j, dx = .int i ∧ dy = .int j) :
    ∃ r : R2, OpR X m r ∧ ∀ (F : Fr) (W : Addr → Prop) (H : Hp) (x y : V) (dx dy : D) (b : Bool) (Q : VK), F.K = X.K → RepR F.K W H dx x → RepR F.K W H dy y → f dx dy = some b → Q (.bl b) H → r x y H Q := by
  refine ⟨_, ho, fun F W H x y dx dy b Q hK rx ry e q => ?_⟩
  obtain ⟨i, j, rfl, rfl⟩ := hn _ _ _ e
  rw [hf] at e
  cases e
  exact ⟨i, j, rr_int rx, rr_int ry, q⟩
/-- all comparisons -/
theorem cop_core (hu : X.A.units + 65 < cLine) : ∀ op : Cop, ∃ r : R2, OpR X (compareOp (copOf op)) r ∧ ∀ (F : Fr) (W : Addr → Prop) (H : Hp) (x y : V) (dx dy : D) (b : Bool) (Q : VK), F.K = X.K → RepR F.K W H dx x → RepR F.K W H dy y →
    cmpop op dx dy = some b → Q (.bl b) H → r x y H Q
  | .eq => eq_core (by omega)
  | .ne => by
    obtain ⟨r, h1, h2⟩ := ne_core (X := X) (by omega)
    refine ⟨r, h1, fun F W H x y dx dy b Q hK rx ry e q => ?_⟩
    obtain ⟨c, ec, rfl⟩ := Option.map_eq_some_iff.mp e
    exact h2 F W H x y dx dy c Q hK rx ry ec q
  | .lt => lt_core op_lt (fun _ _ => rfl) fun dx dy b e => by cases dx <;> cases dy <;> first | exact ⟨_, _, rfl, rfl⟩ | cases e
  | .le => lt_core op_le (fun _ _ => rfl) fun dx dy b e => by cases dx <;> cases dy <;> first | exact ⟨_, _, rfl, rfl⟩ | cases e
  | .gt => lt_core op_gt (fun _ _ => rfl) fun dx dy b e => by cases dx <;> cases dy <;> first | exact ⟨_, _, rfl, rfl⟩ | cases e
  | .ge => lt_core op_ge (fun _ _ => rfl) fun dx dy b e => by cases dx <;> cases dy <;> first | exact ⟨_, _, rfl, rfl⟩ | cases e
  | .in_ => in_core hu
  | .nin => by
    obtain ⟨r, h1, h2⟩ := nin_core (X := X) hu
    refine ⟨r, h1, fun F W H x y dx dy b Q hK rx ry e q => ?_⟩
    obtain ⟨c, ec, rfl⟩ := Option.map_eq_some_iff.mp e
    exact h2 F W H x y dx dy c Q hK rx ry ec q
  | .is_ => is_core
  | .isn => by
    obtain ⟨r, h1, h2⟩ := isn_core (X := X)
    refine ⟨r, h1, fun F W H x y dx dy b Q hK rx ry e q => ?_⟩
    obtain ⟨c, ec, rfl⟩ := Option.map_eq_some_iff.mp e
    exact h2 F W H x y dx dy c Q hK rx ry ec q
theorem cop_ok (hu : X.A.units + 65 < cLine) (op : Cop) : OpG X RVal (compareOp (copOf op)) (cmpD op) := by
  obtain ⟨r, h1, h2⟩ := cop_core hu op
  refine ⟨r, h1, fun F C s σ H x y dx dy a Q hK G rx ry e q => ?_⟩
  obtain ⟨c, ec, rfl⟩ := Option.map_eq_some_iff.mp e
  exact h2 F _ H x y dx dy c Q hK rx ry ec (q _ _ ⟨Aft.refl G, rp_bool⟩)
end
end IR

end
section
/-! Ir6: subscripts, slices, built-in calls of one or two operands. -/
namespace IR
open PySem PySem.Spec PyProof.Rows L2

/-! ### small looks at the syntax -/
def isStar : Expr → Bool
  | .Starred _ _ => true
  | _ => false
def isSlc : Expr → Bool
  | .Slice _ _ _ _ => true
  | _ => false
theorem star1 {e : Expr} {es : List Expr} {env : Env} (h : isStar e = false) : starEach (e :: es) env = (false, eval e env) :: starEach es env := by
  cases e <;> first | rfl | cases h
theorem plain_of {e : Expr} (h : isSlc e = false) : ∀ o i, subscripted e false o i = operate [o, i] (getItem o i) := by
  intro o i
  cases e <;> first | rfl | cases h
theorem stars_none {env : Env} {pos : Pos} : ∀ {es : List Expr}, (∀ e ∈ es, isStar e = false) → (backTo pos (starEach es env)).any (·.1) = false
  | [], _ => rfl
  | e :: es, h => by
    rw [star1 (h e List.mem_cons_self)]
    have ih := stars_none (env := env) (pos := pos) (es := es) fun x hx => h x (List.mem_cons_of_mem _ hx)
    unfold backTo at ih ⊢
    simp only [List.map_cons, List.any_cons, Bool.false_or]
    exact ih

section
variable {X : Cx} {a b e : Expr} {es : List Expr} {pos : Pos}

/-! ### a[b] -/
theorem ix_dict (hu : X.A.units + 1 < cLine) : IxR X (fun x y H Q => ∃ a v, x = .ref a ∧ DGet H a y (some v) ∧ Q v H) := by
  rintro value slice pins s σ H x y v u Q I rx ry ⟨a, w, rfl, g, q⟩ hs
  obtain rfl : v = .ref a := rx
  exact tail_any (dict_typeIs I g) PySem.F.slot_dict_getitem.lookup (d_getItem hu I g ry fun w' s' I' rw' => ⟨w, H, I', rw', q⟩) hs
theorem atI_len {α β : Type} {xs : List α} {ys : List β} {i : Int} {x : α} (hl : ys.length = xs.length) (h : atI xs i = some x) : ∃ j : Nat, xs[j]? = some x ∧ atI ys i = ys[j]? := by
  unfold atI at h ⊢
  obtain ⟨j, h1, h2⟩ := Option.bind_eq_some_iff.mp h
  rw [hl, h1]
  exact ⟨j, h2, rfl⟩
theorem RepL.at {K : PySem.W.Frag} {W : Addr → Prop} {H : Hp} {ds : List D} {vs : List V} {i : Int} {d : D} (h : RepL K W H ds vs) (e : atI ds i = some d) : ∃ v, atI vs i = some v ∧ Rep K W H d v := by
  obtain ⟨j, h1, h2⟩ := atI_len (ys := vs) h.length e
  obtain ⟨v, e1, r⟩ := h.get h1
  exact ⟨v, h2.trans e1, r⟩
/-- all subscripts -/
theorem ix_core (hu : X.A.units + 1 < cLine) : ∃ r : R2, IxR X r ∧ ∀ (F : Fr) (W : Addr → Prop) (H : Hp) (x y : V) (dx dy d : D) (Q : VK), F.K = X.K → RepR F.K W H dx x → RepR F.K W H dy y → idxD dx dy = some d → (∀ v, Rep F.K W H d v → Q v H) → r x y H Q := by
  refine ⟨_, IxR.or ix_seq (ix_dict hu), fun F W H x y dx dy d Q hK rx ry e q => ?_⟩
  rw [hK] at rx ry q
  cases dx with
  | list ds =>
    cases dy with
    | int i =>
      obtain ⟨a, vs, ea, h, hl⟩ := rx
      obtain ⟨v, e1, r⟩ := hl.at e
      exact .inl (.inl ⟨a, vs, i, v, ea, rr_int ry, .inl h, e1, q v r⟩)
    | _ => cases e
  | tuple ds =>
    cases dy with
    | int i =>
      obtain ⟨a, vs, ea, h, hl⟩ := rx
      obtain ⟨v, e1, r⟩ := hl.at e
      exact .inl (.inr (.inl ⟨a, vs, i, v, ea, rr_int ry, h.sq, e1, q v r⟩))
    | _ => cases e
  | str z =>
    cases dy with
    | int i =>
      simp only [idxD] at e
      split at e
      · obtain ⟨c, e1, rfl⟩ := Option.map_eq_some_iff.mp e
        exact .inl (.inr (.inr ⟨z, i, c, rr_str rx, rr_int ry, by assumption, e1, q _ rp_str⟩))
      · cases e
    | _ => cases e
  | dict kvs =>
    simp only [idxD] at e
    split at e
    · rename_i hk
      obtain ⟨p, hp⟩ := key_of hk
      subst hp
      obtain ⟨a, ks, ea, ha, hl⟩ := rx
      obtain ⟨v, e1, r⟩ := (RepKV.find hl).2 d e
      exact .inr ⟨a, v, ea, by rw [rr_key ry, ← e1]; exact DGet.k ha, q v r⟩
    · cases e
  | _ => cases e
theorem sv_ix (hu : X.A.units + 1 < cLine) {fa fb : State → Option (Pre × State)} (ha : SPre X a fa) (hb : SPre X b fb) (hs : isSlc b = false) : SVal X (.Subscript a b pos) (bin2 idxD fa fb) := by
  obtain ⟨r, hr, hq⟩ := ix_core (X := X) hu
  obtain ⟨ta, pa, qa⟩ := ha
  obtain ⟨tb, pb, qb⟩ := hb
  refine SG.val ⟨_, pe_ix hr pa pb (plain_of hs), two_ops RVal.after (fun F C s σ H x y dx dy a Q hK G rx ry e q => ?_) qa qb⟩
  exact hq F _ H x y dx dy a Q hK rx ry e fun v rv => q v H ⟨Aft.refl G, rv⟩

/-! ### a[lo:hi] -/
theorem cut_cutV {xs : List V} {lo hi : Option Int} : cutV xs lo hi = cut xs lo hi := rfl
theorem RepL.cut {K : PySem.W.Frag} {W : Addr → Prop} {H : Hp} {ds : List D} {vs : List V} (lo hi : Option Int) (h : RepL K W H ds vs) : RepL K W H (IR.cut ds lo hi) (IR.cut vs lo hi) := by
  unfold IR.cut
  rw [h.length]
  exact (h.drop _).take _
/-- an optional part of a slice -/
def SPart (X : Cx) (e : Option Expr) (f : State → Option (Option Int × State)) : Prop := ∃ t : TO, PO X e t ∧ ∀ F C s σ H Q o s', F.K = X.K → Good F C Z0 s σ H → f s = some (o, s') →
  (∀ C' H', Aft F C s σ H C' s' H' → Q o H') → t σ H Q
theorem sp_none : SPart X none fun s => some (none, s) :=
  ⟨_, po_none, fun F C s σ H Q o s' hK G e q => by cases e; exact q C H (Aft.refl G)⟩
def partF (fa : State → Option (Pre × State)) (s : State) : Option (Option Int × State) := (fa s).bind fun p => (post p.2 p.1).bind fun d => (partOf d).bind fun i => some (some i, p.2)
theorem sp_some {fa : State → Option (Pre × State)} (ha : SPre X a fa) : SPart X (some a) (partF fa) := by
  obtain ⟨ta, pa, qa⟩ := ha
  refine ⟨_, po_some pa, fun F C s σ H Q o s' hK G e q => ?_⟩
  obtain ⟨⟨p, s1⟩, h1, h⟩ := Option.bind_eq_some_iff.mp e
  obtain ⟨d, h2, h⟩ := Option.bind_eq_some_iff.mp h
  obtain ⟨i, h3, h⟩ := Option.bind_eq_some_iff.mp h
  cases h
  refine qa F C s σ H _ p s1 hK G h1 fun v C1 H1 a1 r1 => ?_
  have R1 := post_rep a1.1 h2 r1
  cases d with
  | int j =>
    cases h3
    exact ⟨_, rr_int R1, q C1 H1 a1⟩
  | _ => cases h3
def slice3 {α : Type} (f : D → Option Int → Option Int → Option α) (fa : State → Option (Pre × State)) (fl fh : State → Option (Option Int × State)) (s : State) : Option (α × State) :=
  (fa s).bind fun p => (fl p.2).bind fun l => (fh l.2).bind fun h => (post h.2 p.1).bind fun x => (f x l.1 h.1).bind fun d => some (d, h.2)
theorem sg_slice {α : Type} {R : RT α} (hR : R.After) {r : V → Option Int → Option Int → Hp → VK → Prop} {f : D → Option Int → Option Int → Option α} (hr : SlR X r)
    (hq : ∀ F C s σ H x dx lo hi a Q, F.K = X.K → Good F C Z0 s σ H → RepR F.K (Wf F C s.env σ) H dx x → f dx lo hi = some a → (∀ v H', R F C s σ H C s H' a v → Q v H') → r x lo hi H Q)
    {fa : State → Option (Pre × State)} {fl fh : State → Option (Option Int × State)} {lo hi : Option Expr} {p2 : Pos} (ha : SPre X a fa) (hl : SPart X lo fl) (hh : SPart X hi fh) :
    SG X R (.Subscript a (.Slice lo hi none p2) pos) (slice3 f fa fl fh) := by
  obtain ⟨ta, pa, qa⟩ := ha
  obtain ⟨tl, pl, ql⟩ := hl
  obtain ⟨th, ph, qh⟩ := hh
  refine ⟨_, pe_slice hr pa pl ph, fun F C s σ H Q d s' hK G e q => ?_⟩
  obtain ⟨⟨p, s1⟩, h1, h⟩ := Option.bind_eq_some_iff.mp e
  obtain ⟨⟨l, s2⟩, h2, h⟩ := Option.bind_eq_some_iff.mp h
  obtain ⟨⟨u, s3⟩, h3, h⟩ := Option.bind_eq_some_iff.mp h
  obtain ⟨x, h4, h⟩ := Option.bind_eq_some_iff.mp h
  obtain ⟨y, h5, h⟩ := Option.bind_eq_some_iff.mp h
  cases h
  refine qa F C s σ H _ p s1 hK G h1 fun v C1 H1 a1 r1 => ?_
  refine ql F C1 s1 σ H1 _ l s2 hK a1.1 h2 fun C2 H2 a2 => ?_
  refine qh F C2 s2 σ H2 _ u s3 hK a2.1 h3 fun C3 H3 a3 => ?_
  have R1 := post_rep a3.1 h4 (r1.aft (a2.trans a3))
  exact hq F C3 s3 σ H3 v x l u d Q hK a3.1 R1 h5 fun w H' rw' => q w C3 H' (hR _ _ _ _ _ _ _ _ _ _ _ _ _ (a1.trans (a2.trans a3)) rw')
theorem sv_slice {fa : State → Option (Pre × State)} {fl fh : State → Option (Option Int × State)} {lo hi : Option Expr} {p2 : Pos} (ha : SPre X a fa) (hl : SPart X lo fl) (hh : SPart X hi fh) :
    SVal X (.Subscript a (.Slice lo hi none p2) pos) (slice3 sliceD fa fl fh) := by
  refine SG.val (sg_slice RVal.after (SlR.or sl_list sl_tupF) (fun F C s σ H x dx lo hi d Q hK G rx e q => ?_) ha hl hh)
  cases dx with
  | list ds =>
    cases e
    obtain ⟨a, vs, ea, h, hl⟩ := rx
    exact .inl ⟨a, vs, ea, .inl h, laid_val G (hl.cut lo hi) q⟩
  | tuple ds =>
    cases e
    have rx' := tup_on G rx
    obtain ⟨a, vs, ea, h, hl⟩ := rx
    have hs := h.sq
    rw [hK] at hs
    refine .inr ⟨a, vs, ea, hs, fun hw => ?_, fun _ => laid_tup G (hl.cut lo hi) q⟩
    have ec : cut ds lo hi = ds := by
      unfold cut
      rw [← hl.length, hw.1, hw.2, hl.length]
      simp
    rw [← ea]
    exact q _ _ ⟨Aft.refl G, by rw [ec]; exact rx'⟩
  | _ => cases e
theorem sf_slice {fa : State → Option (Pre × State)} {fl fh : State → Option (Option Int × State)} {lo hi : Option Expr} {p2 : Pos} (ha : SPre X a fa) (hl : SPart X lo fl) (hh : SPart X hi fh) :
    SFr X (.Subscript a (.Slice lo hi none p2) pos) (slice3 sliceL fa fl fh) := by
  refine SG.fr (sg_slice RFr.after sl_list (fun F C s σ H x dx lo hi d Q hK G rx e q => ?_) ha hl hh)
  cases dx with
  | list ds =>
    cases e
    obtain ⟨a, vs, ea, h, hl⟩ := rx
    exact ⟨a, vs, ea, .inl h, laid_fr G (hl.cut lo hi) q⟩
  | _ => cases e

/-! ### built-in functions and types of one operand -/
def un1 {α : Type} (f : D → Option α) (fa : State → Option (Pre × State)) (s : State) : Option (α × State) := (fa s).bind fun p => (post p.2 p.1).bind fun d => (f d).bind fun a => some (a, p.2)
def Un1 (X : Cx) {α : Type} (R : RT α) (r : V → Hp → VK → Prop) (f : D → Option α) : Prop := ∀ F C s σ H x dx a Q, F.K = X.K → Good F C Z0 s σ H → RepR F.K (Wf F C s.env σ) H dx x → f dx = some a → (∀ v H', R F C s σ H C s H' a v → Q v H') → r x H Q
theorem one_op {α : Type} {R : RT α} (hR : R.After) {r : V → Hp → VK → Prop} {f : D → Option α} (hr : Un1 X R r f) {fa : State → Option (Pre × State)} {ta : TE}
    (qa : ∀ F C s σ H Q p s', F.K = X.K → Good F C Z0 s σ H → fa s = some (p, s') → (∀ v C' H', Aft F C s σ H C' s' H' → PreRep F C' s' σ H' p v → Q v H') → ta σ H Q) :
    ∀ F C s σ H Q d s', F.K = X.K → Good F C Z0 s σ H → un1 f fa s = some (d, s') → (∀ v C' H', R F C s σ H C' s' H' d v → Q v H') → ta σ H (fun x H1 => r x H1 Q) := by
  intro F C s σ H Q d s' hK G e q
  obtain ⟨⟨p, s1⟩, h1, h⟩ := Option.bind_eq_some_iff.mp e
  obtain ⟨x, h2, h⟩ := Option.bind_eq_some_iff.mp h
  obtain ⟨y, h3, h⟩ := Option.bind_eq_some_iff.mp h
  cases h
  refine qa F C s σ H _ p s1 hK G h1 fun v C1 H1 a1 r1 => ?_
  exact hr F C1 s1 σ H1 v x d Q hK a1.1 (post_rep a1.1 h2 r1) h3 fun w H' rw' => q w C1 H' (hR _ _ _ _ _ _ _ _ _ _ _ _ _ a1 rw')
theorem sg_b1 {α : Type} {R : RT α} (hR : R.After) {x : Str} {id : String} {p : Pos} {rr : List V → Hp → VK → Prop} {f : D → Option α} (hc : CallR X (.builtin id) rr) (hf : Un1 X R (fun v => rr [v]) f) (hg : Gl X x) (hm : X.mg x = none) (hv : bootBuiltins x = some (.builtin id))
    (hn : x ≠ "__name__") (hdb : (x == ("__debug__" : Str)) = false) {fa : State → Option (Pre × State)} (ha : SPre X a fa) (hs : isStar a = false) : SG X R (.Call (.Name x p) [a] [] pos) (un1 f fa) := by
  obtain ⟨ta, pa, qa⟩ := ha
  exact ⟨_, pe_callB hc hg hm hv (pa_cons pa pa_nil (star1 hs)) hn hdb (star1 hs) rfl, one_op hR hf qa⟩
theorem sg_t1 {α : Type} {R : RT α} (hR : R.After) {x : Str} {T : String} {p : Pos} {rr : List V → Hp → VK → Prop} {f : D → Option α} (hc : CallR X (.type T) rr) (hf : Un1 X R (fun v => rr [v]) f) (hg : Gl X x) (hm : X.mg x = none) (hv : bootBuiltins x = some (.type T))
    (hn : x ≠ "__name__") (hdb : (x == ("__debug__" : Str)) = false) {fa : State → Option (Pre × State)} (ha : SPre X a fa) (hs : isStar a = false) : SG X R (.Call (.Name x p) [a] [] pos) (un1 f fa) := by
  obtain ⟨ta, pa, qa⟩ := ha
  exact ⟨_, pe_callTy hc hg hm hv (pa_cons pa pa_nil (star1 hs)) hn hdb (star1 hs) rfl, one_op hR hf qa⟩
theorem len_ok : ∃ rr, CallR X (.builtin "len") rr ∧ Un1 X RVal (fun v => rr [v]) lenD := by
  refine ⟨_, CallR.or call_len call_lenD, fun F C s σ H x dx d Q hK G rx e q => ?_⟩
  have q' := fun i => q (.int i) H
  rw [hK] at rx
  cases dx with
  | list ds =>
    cases e
    obtain ⟨a, vs, ea, h, hl⟩ := rx
    subst ea
    exact .inl ⟨_, ds.length, rfl, .inl ⟨vs, .inl h, hl.length.symm⟩, q' _ ⟨Aft.refl G, rp_int⟩⟩
  | tuple ds =>
    cases e
    obtain ⟨a, vs, ea, h, hl⟩ := rx
    subst ea
    exact .inl ⟨_, ds.length, rfl, .inr ⟨vs, h.sq, hl.length.symm⟩, q' _ ⟨Aft.refl G, rp_int⟩⟩
  | str z =>
    simp only [lenD] at e
    split at e
    · cases e
      have ez := rr_str rx
      subst ez
      exact .inl ⟨_, z.length, rfl, ⟨by assumption, rfl⟩, q' _ ⟨Aft.refl G, rp_int⟩⟩
    · cases e
  | dict kvs =>
    cases e
    obtain ⟨a, ks, ea, h, hl⟩ := rx
    subst ea
    refine .inr ⟨a, ks, rfl, h, ?_⟩
    rw [hl.len]
    exact q' _ ⟨Aft.refl G, rp_int⟩
  | _ => cases e
theorem int_ok : ∃ rr, CallR X (.type "int") rr ∧ Un1 X RVal (fun v => rr [v]) intD := by
  refine ⟨_, call_int1, fun F C s σ H x dx d Q hK G rx e q => ?_⟩
  cases dx with
  | int i =>
    cases e
    exact .inl ⟨i, by rw [rr_int rx], q _ _ ⟨Aft.refl G, rp_int⟩⟩
  | bool b =>
    cases e
    exact .inr ⟨b, by rw [rr_bool rx], q _ _ ⟨Aft.refl G, rp_int⟩⟩
  | _ => cases e
theorem str_ok : ∃ rr, CallR X (.type "str") rr ∧ Un1 X RVal (fun v => rr [v]) strD := by
  refine ⟨_, CallR.or call_str_int SkE.call_str_str, fun F C s σ H x dx d Q hK G rx e q => ?_⟩
  cases dx with
  | int i =>
    simp only [strD] at e
    split at e
    · cases e
      exact .inl ⟨i, by rw [rr_int rx], by assumption, q _ _ ⟨Aft.refl G, rp_str⟩⟩
    · cases e
  | str z =>
    cases e
    exact .inr ⟨z, by rw [rr_str rx], q _ _ ⟨Aft.refl G, rp_str⟩⟩
  | _ => cases e
theorem RepL.bools {K : PySem.W.Frag} {W : Addr → Prop} {H : Hp} : ∀ {ds : List D} {vs : List V} {bs : List Bool}, RepL K W H ds vs → allBools ds = some bs → vs = bs.map V.bl
  | [], vs, bs, h, e => by
    simp only [RepL] at h
    simp only [allBools, Option.some.injEq] at e
    subst h e
    rfl
  | d :: ds, vs, bs, h, e => by
    simp only [RepL] at h
    obtain ⟨v, r, ev, h1, h2⟩ := h
    cases d with
    | bool b =>
      simp only [allBools] at e
      obtain ⟨bs', e1, rfl⟩ := Option.map_eq_some_iff.mp e
      simp only [Rep] at h1
      rw [ev, h1, RepL.bools h2 e1]
      rfl
    | _ => cases e
theorem RepL.intsOf {K : PySem.W.Frag} {W : Addr → Prop} {H : Hp} : ∀ {ds : List D} {vs : List V} {bs : List Int}, RepL K W H ds vs → allInts ds = some bs → vs = bs.map V.int
  | [], vs, bs, h, e => by
    simp only [RepL] at h
    simp only [allInts, Option.some.injEq] at e
    subst h e
    rfl
  | d :: ds, vs, bs, h, e => by
    simp only [RepL] at h
    obtain ⟨v, r, ev, h1, h2⟩ := h
    cases d with
    | int b =>
      simp only [allInts] at e
      obtain ⟨bs', e1, rfl⟩ := Option.map_eq_some_iff.mp e
      simp only [Rep] at h1
      rw [ev, h1, RepL.intsOf h2 e1]
      rfl
    | _ => cases e
theorem RepL.strsOf {K : PySem.W.Frag} {W : Addr → Prop} {H : Hp} : ∀ {ds : List D} {vs : List V} {bs : List Str}, RepL K W H ds vs → allStrs ds = some bs → vs = bs.map V.str
  | [], vs, bs, h, e => by
    simp only [RepL] at h
    simp only [allStrs, Option.some.injEq] at e
    subst h e
    rfl
  | d :: ds, vs, bs, h, e => by
    simp only [RepL] at h
    obtain ⟨v, r, ev, h1, h2⟩ := h
    cases d with
    | str b =>
      simp only [allStrs] at e
      obtain ⟨bs', e1, rfl⟩ := Option.map_eq_some_iff.mp e
      simp only [Rep] at h1
      rw [ev, h1, RepL.strsOf h2 e1]
      rfl
    | _ => cases e
theorem all_ok (hc : X.calm = true) : ∃ rr, CallR X (.builtin "all") rr ∧ Un1 X RVal (fun v => rr [v]) allD := by
  refine ⟨_, cr_all hc, fun F C s σ H x dx d Q hK G rx e q => ?_⟩
  rw [hK] at rx
  cases dx with
  | list ds =>
    obtain ⟨bs, e1, rfl⟩ := Option.map_eq_some_iff.mp e
    obtain ⟨a, vs, ea, h, hl⟩ := rx
    have ev := hl.bools e1
    subst ea ev
    exact ⟨a, bs, rfl, .inl h, q _ _ ⟨Aft.refl G, rp_bool⟩⟩
  | _ => cases e
theorem any_ok (hc : X.calm = true) : ∃ rr, CallR X (.builtin "any") rr ∧ Un1 X RVal (fun v => rr [v]) anyD := by
  refine ⟨_, cr_any hc, fun F C s σ H x dx d Q hK G rx e q => ?_⟩
  rw [hK] at rx
  cases dx with
  | list ds =>
    obtain ⟨bs, e1, rfl⟩ := Option.map_eq_some_iff.mp e
    obtain ⟨a, vs, ea, h, hl⟩ := rx
    have ev := hl.bools e1
    subst ea ev
    exact ⟨a, bs, rfl, .inl h, q _ _ ⟨Aft.refl G, rp_bool⟩⟩
  | _ => cases e
theorem sum_ok (hc : X.calm = true) : ∃ rr, CallR X (.builtin "sum") rr ∧ Un1 X RVal (fun v => rr [v]) sumD := by
  refine ⟨_, cr_sum hc, fun F C s σ H x dx d Q hK G rx e q => ?_⟩
  rw [hK] at rx
  cases dx with
  | list ds =>
    obtain ⟨bs, e1, rfl⟩ := Option.map_eq_some_iff.mp e
    obtain ⟨a, vs, ea, h, hl⟩ := rx
    have ev := hl.intsOf e1
    subst ea ev
    exact ⟨a, bs, rfl, .inl h, q _ _ ⟨Aft.refl G, rp_int⟩⟩
  | _ => cases e
theorem list_fr : ∃ rr, CallR X (.type "list") rr ∧ Un1 X RFr (fun v => rr [v]) listL := by
  refine ⟨_, call_list_of, fun F C s σ H x dx d Q hK G rx e q => ?_⟩
  cases dx with
  | list ds =>
    cases e
    obtain ⟨a, vs, ea, h, hl⟩ := rx
    subst ea
    exact ⟨a, vs, rfl, .inl (.inl h), laid_fr G hl q⟩
  | tuple ds =>
    cases e
    obtain ⟨a, vs, ea, h, hl⟩ := rx
    subst ea
    rw [hK] at h
    exact ⟨a, vs, rfl, .inr h.sq, laid_fr G hl q⟩
  | _ => cases e
theorem tuple_ok : ∃ rr, CallR X (.type "tuple") rr ∧ Un1 X RVal (fun v => rr [v]) tupleD := by
  refine ⟨_, call_tupF, fun F C s σ H x dx d Q hK G rx e q => ?_⟩
  cases dx with
  | list ds =>
    cases e
    obtain ⟨a, vs, ea, h, hl⟩ := rx
    subst ea
    exact ⟨a, vs, rfl, .inl ⟨.inl h, laid_tup G hl q⟩⟩
  | tuple ds =>
    cases e
    have rx' := tup_on G rx
    obtain ⟨a, vs, ea, h, hl⟩ := rx
    subst ea
    rw [hK] at h
    exact ⟨a, vs, rfl, .inr ⟨h.sq, q _ _ ⟨Aft.refl G, rx'⟩⟩⟩
  | _ => cases e
end
end IR

end
section
/-! Ir7: tests, and, or, not, if .. else; displays; methods that read. -/
namespace IR
open PySem PySem.Spec PyProof.Rows L2

section
variable {X : Cx} {a b c e : Expr} {es rest : List Expr} {pos : Pos}

/-! ### tests -/
def plainTest : Expr → Bool
  | .UnaryOp _ _ _ => false
  | .BoolOp _ _ _ => false
  | .IfExp _ _ _ _ => false
  | .Compare _ _ _ _ => false
  | _ => true
theorem test_of {env : Env} (h : plainTest e = true) : ∀ whole, isTrue e env whole = (do let v ← whole; standAt e.pos; holding [v] (PySem.truthy v)) := by
  intro whole
  cases e with
  | UnaryOp op x p => cases h
  | BoolOp _ _ _ => cases h
  | IfExp _ _ _ _ => cases h
  | Compare _ _ _ _ => cases h
  | _ => rfl
def tst1 (fa : State → Option (Pre × State)) (s : State) : Option (Bool × State) := (fa s).bind fun p => (post p.2 p.1).bind fun d => (IR.truthy d).map fun b => (b, p.2)
theorem truv {K : PySem.W.Frag} {W : Addr → Prop} {H : Hp} {d : D} {v : V} {k : Bool} (h : RepR K W H d v) (e : IR.truthy d = some k) : TruV K v H k := by
  cases d with
  | none => rw [rr_none h]; cases e; rfl
  | bool b => rw [rr_bool h]; cases e; rfl
  | int i => rw [rr_int h]; cases e; rfl
  | str x =>
    rw [rr_str h]
    simp only [IR.truthy] at e
    split at e
    · cases e
      refine ⟨by assumption, ?_⟩
      rw [Bool.eq_iff_iff]
      simp
    · cases e
  | list ds =>
    cases e
    obtain ⟨a, vs, ea, h1, hl⟩ := h
    subst ea
    refine .inl ⟨vs, .inl h1, ?_⟩
    have n := hl.length
    cases ds <;> cases vs <;> first | rfl | simp at n
  | tuple ds =>
    cases e
    obtain ⟨a, vs, ea, h1, hl⟩ := h
    subst ea
    refine .inr (.inl ⟨vs, h1.sq, ?_⟩)
    have n := hl.length
    cases ds <;> cases vs <;> first | rfl | simp at n
  | dict ds =>
    cases e
    obtain ⟨a, vs, ea, h1, hl⟩ := h
    subst ea
    refine .inr (.inr ⟨vs, h1, ?_⟩)
    have n := hl.len
    cases ds <;> cases vs <;> first | rfl | simp at n
theorem st_pre {fa : State → Option (Pre × State)} (ha : SPre X a fa) (h : plainTest a = true) : STst X a (tst1 fa) := by
  obtain ⟨ta, pa, qa⟩ := ha
  refine ⟨_, pt_truth pa (test_of h), fun F C s σ H Q k s' hK G e q => ?_⟩
  obtain ⟨⟨p, s1⟩, h1, h⟩ := Option.bind_eq_some_iff.mp e
  obtain ⟨d, h2, h⟩ := Option.bind_eq_some_iff.mp h
  obtain ⟨b, h3, h⟩ := Option.map_eq_some_iff.mp h
  cases h
  refine qa F C s σ H _ p s1 hK G h1 fun v C1 H1 a1 r1 => ⟨k, ?_, q C1 H1 a1⟩
  have R := post_rep a1.1 h2 r1
  rw [hK] at R
  exact truv R h3
theorem st_cmp (hu : X.A.units + 65 < cLine) (op : Cop) {fa fb : State → Option (Pre × State)} (ha : SPre X a fa) (hb : SPre X b fb) (hm : behindInMarks (copOf op) b = false) : STst X (.Compare a [copOf op] [b] pos) (bin2 (cmpop op) fa fb) := by
  obtain ⟨r, hr, hq⟩ := cop_core hu op
  obtain ⟨ta, pa, qa⟩ := ha
  obtain ⟨tb, pb, qb⟩ := hb
  refine ⟨_, pt_cmpR hr pa pb hm, fun F C s σ H Q k s' hK G e q => ?_⟩
  obtain ⟨p, s1, p2, x, y, h1, h2, h3, h4, h5⟩ := bin2_some e
  refine qa F C s σ H _ p s1 hK G h1 fun v C1 H1 a1 r1 => ?_
  refine qb F C1 s1 σ H1 _ p2 s' hK a1.1 h2 fun u C2 H2 a2 r2 => ?_
  exact hq F _ H2 v u x y k _ hK (post_rep a2.1 h3 (r1.aft a2)) (post_rep a2.1 h4 r2) h5 ⟨k, rfl, q C2 H2 (a1.trans a2)⟩
/-- a op b op' c -/
def chain3 (o1 o2 : Cop) (fa fb fc : State → Option (Pre × State)) (s : State) : Option (Bool × State) :=
  (fa s).bind fun p => (fb p.2).bind fun q => (post q.2 p.1).bind fun x => (post q.2 q.1).bind fun y => (cmpop o1 x y).bind fun k =>
    if k then (fc q.2).bind fun r => (post r.2 q.1).bind fun y' => (post r.2 r.1).bind fun z => (cmpop o2 y' z).map fun k2 => (k2, r.2) else some (false, q.2)
theorem chain_core {o1 o2 : Cop} {r r' : R2} {fa fb fc : State → Option (Pre × State)} {ta tb tc : TE}
    (hq : ∀ (F : Fr) (W : Addr → Prop) (H : Hp) (x y : V) (dx dy : D) (b : Bool) (Q : VK), F.K = X.K → RepR F.K W H dx x → RepR F.K W H dy y → cmpop o1 dx dy = some b → Q (.bl b) H → r x y H Q)
    (hq' : ∀ (F : Fr) (W : Addr → Prop) (H : Hp) (x y : V) (dx dy : D) (b : Bool) (Q : VK), F.K = X.K → RepR F.K W H dx x → RepR F.K W H dy y → cmpop o2 dx dy = some b → Q (.bl b) H → r' x y H Q)
    (qa : ∀ F C s σ H Q p s', F.K = X.K → Good F C Z0 s σ H → fa s = some (p, s') → (∀ v C' H', Aft F C s σ H C' s' H' → PreRep F C' s' σ H' p v → Q v H') → ta σ H Q)
    (qb : ∀ F C s σ H Q p s', F.K = X.K → Good F C Z0 s σ H → fb s = some (p, s') → (∀ v C' H', Aft F C s σ H C' s' H' → PreRep F C' s' σ H' p v → Q v H') → tb σ H Q)
    (qc : ∀ F C s σ H Q p s', F.K = X.K → Good F C Z0 s σ H → fc s = some (p, s') → (∀ v C' H', Aft F C s σ H C' s' H' → PreRep F C' s' σ H' p v → Q v H') → tc σ H Q) :
    ∀ F C s σ H Q k s', F.K = X.K → Good F C Z0 s σ H → chain3 o1 o2 fa fb fc s = some (k, s') → (∀ C' H', Aft F C s σ H C' s' H' → Q (.bl k) H') → tChain r r' ta tb tc σ H Q := by
  intro F C s σ H Q k s' hK G e q
  obtain ⟨⟨p, s1⟩, h1, h⟩ := Option.bind_eq_some_iff.mp e
  obtain ⟨⟨p2, s2⟩, h2, h⟩ := Option.bind_eq_some_iff.mp h
  obtain ⟨x, h3, h⟩ := Option.bind_eq_some_iff.mp h
  obtain ⟨y, h4, h⟩ := Option.bind_eq_some_iff.mp h
  obtain ⟨k1, h5, h⟩ := Option.bind_eq_some_iff.mp h
  refine qa F C s σ H _ p s1 hK G h1 fun v C1 H1 a1 r1 => ?_
  refine qb F C1 s1 σ H1 _ p2 s2 hK a1.1 h2 fun u C2 H2 a2 r2 => ?_
  refine hq F _ H2 v u x y k1 _ hK (post_rep a2.1 h3 (r1.aft a2)) (post_rep a2.1 h4 r2) h5 ⟨k1, rfl, ?_⟩
  cases k1 with
  | true =>
    simp only [if_true] at h ⊢
    obtain ⟨⟨p3, s3⟩, h6, h⟩ := Option.bind_eq_some_iff.mp h
    obtain ⟨y', h7, h⟩ := Option.bind_eq_some_iff.mp h
    obtain ⟨z, h8, h⟩ := Option.bind_eq_some_iff.mp h
    obtain ⟨k2, h9, h⟩ := Option.map_eq_some_iff.mp h
    cases h
    refine qc F C2 s2 σ H2 _ p3 s3 hK a2.1 h6 fun w C3 H3 a3 r3 => ?_
    exact hq' F _ H3 u w y' z k _ hK (post_rep a3.1 h7 (r2.aft a3)) (post_rep a3.1 h8 r3) h9 (q C3 H3 ((a1.trans a2).trans a3))
  | false =>
    simp only [Bool.false_eq_true, if_false] at h ⊢
    cases h
    exact q C2 H2 (a1.trans a2)
theorem marks2 {o1 o2 : CmpOp} (h : behindInMarks o2 c = false) : lastMarks [o1, o2] [b, c] = false := by
  simpa [lastMarks] using h
theorem st_chain (hu : X.A.units + 65 < cLine) (o1 o2 : Cop) {fa fb fc : State → Option (Pre × State)} (ha : SPre X a fa) (hb : SPre X b fb) (hc : SPre X c fc) (hm : behindInMarks (copOf o2) c = false) :
    STst X (.Compare a [copOf o1, copOf o2] [b, c] pos) (chain3 o1 o2 fa fb fc) := by
  obtain ⟨r, hr, hq⟩ := cop_core hu o1
  obtain ⟨r', hr', hq'⟩ := cop_core hu o2
  obtain ⟨ta, pa, qa⟩ := ha
  obtain ⟨tb, pb, qb⟩ := hb
  obtain ⟨tc, pc, qc⟩ := hc
  exact ⟨_, pt_chain hr hr' pa pb pc (marks2 hm), fun F C s σ H Q k s' hK G e q => chain_core hq hq' qa qb qc F C s σ H _ k s' hK G e fun C' H' a => ⟨k, rfl, q C' H' a⟩⟩
theorem sv_chain (hu : X.A.units + 65 < cLine) (o1 o2 : Cop) {fa fb fc : State → Option (Pre × State)} (ha : SPre X a fa) (hb : SPre X b fb) (hc : SPre X c fc) (hm : behindInMarks (copOf o2) c = false) :
    SVal X (.Compare a [copOf o1, copOf o2] [b, c] pos) fun s => (chain3 o1 o2 fa fb fc s).map fun p => (.bool p.1, p.2) := by
  obtain ⟨r, hr, hq⟩ := cop_core hu o1
  obtain ⟨r', hr', hq'⟩ := cop_core hu o2
  obtain ⟨ta, pa, qa⟩ := ha
  obtain ⟨tb, pb, qb⟩ := hb
  obtain ⟨tc, pc, qc⟩ := hc
  refine ⟨_, pe_chain hr hr' pa pb pc (marks2 hm), fun F C s σ H Q d s' hK G e q => ?_⟩
  obtain ⟨⟨k, s1⟩, ef, er⟩ := Option.map_eq_some_iff.mp e
  cases er
  exact chain_core hq hq' qa qb qc F C s σ H _ k s1 hK G ef fun C' H' a => q _ C' H' a rp_bool

/-! ### not, and, or -/
theorem st_not {f : State → Option (Bool × State)} (ha : STst X a f) : STst X (.UnaryOp .Not a pos) fun s => (f s).map fun p => (!p.1, p.2) := by
  obtain ⟨t, pt, q0⟩ := ha
  refine ⟨_, pt_not pt, fun F C s σ H Q k s' hK G e q => ?_⟩
  obtain ⟨⟨k, s1⟩, ef, er⟩ := Option.map_eq_some_iff.mp e
  cases er
  exact q0 F C s σ H _ k s1 hK G ef q
theorem STst.mapB {f : State → Option (Bool × State)} {t : TE} (pt : PE X a t) (h : ∀ F C s σ H Q d s', F.K = X.K → Good F C Z0 s σ H → f s = some (d, s') → (∀ C' H', Aft F C s σ H C' s' H' → Q (.bl d) H') → t σ H Q) :
    SVal X a fun s => (f s).map fun p => (.bool p.1, p.2) := by
  refine ⟨t, pt, fun F C s σ H Q d s' hK G e q => ?_⟩
  obtain ⟨⟨k, s1⟩, ef, er⟩ := Option.map_eq_some_iff.mp e
  cases er
  exact h F C s σ H Q k s1 hK G ef fun C' H' a => q _ C' H' a rp_bool
def boolF (f : State → Option (D × State)) (s : State) : Option (Bool × State) := (f s).bind fun p => match p.1 with
  | .bool b => some (b, p.2)
  | _ => none
theorem boolF_some {f : State → Option (D × State)} {s s' : State} {b : Bool} (h : boolF f s = some (b, s')) : f s = some (.bool b, s') := by
  obtain ⟨⟨d, s1⟩, h1, h⟩ := Option.bind_eq_some_iff.mp h
  cases d with
  | bool c =>
    cases h
    exact h1
  | _ => cases h
theorem sv_not {f : State → Option (D × State)} (ha : SVal X a f) : SVal X (.UnaryOp .Not a pos) fun s => (boolF f s).map fun p => (.bool (!p.1), p.2) := by
  obtain ⟨t, pt, q0⟩ := ha
  refine ⟨_, pe_not pt, fun F C s σ H Q d s' hK G e q => ?_⟩
  obtain ⟨⟨k, s1⟩, ef, er⟩ := Option.map_eq_some_iff.mp e
  cases er
  refine q0 F C s σ H _ (.bool k) s1 hK G (boolF_some ef) fun v C' H' a r => ⟨k, ?_, q _ C' H' a rp_bool⟩
  simpa [Rep] using r
/-- the second is asked if the first says so -/
def both (f g : State → Option (Bool × State)) (s : State) : Option (Bool × State) := (f s).bind fun p => if p.1 then g p.2 else some (false, p.2)
def either (f g : State → Option (Bool × State)) (s : State) : Option (Bool × State) := (f s).bind fun p => if p.1 then some (true, p.2) else g p.2
theorem sw_and1 {f : State → Option (Bool × State)} (ha : STst X a f) : SWh X (.BoolOp .And [a] pos) f := by
  obtain ⟨t, pt, q0⟩ := ha
  exact ⟨_, pw_and1 pt, q0⟩
theorem sw_or1 {f : State → Option (Bool × State)} (ha : STst X a f) : SWh X (.BoolOp .Or [a] pos) f := by
  obtain ⟨t, pt, q0⟩ := ha
  exact ⟨_, pw_or1 pt, q0⟩
theorem sw_and {f g : State → Option (Bool × State)} (ha : STst X a f) (hb : SWh X (.BoolOp .And (b :: rest) pos) g) : SWh X (.BoolOp .And (a :: b :: rest) pos) (both f g) := by
  obtain ⟨t, pt, q0⟩ := ha
  obtain ⟨t', pt', q1⟩ := hb
  refine ⟨_, pw_and pt pt', fun F C s σ H Q k s' hK G e q => ?_⟩
  obtain ⟨⟨k1, s1⟩, h1, h⟩ := Option.bind_eq_some_iff.mp e
  refine q0 F C s σ H _ k1 s1 hK G h1 fun C1 H1 a1 => ?_
  cases k1 with
  | true => exact q1 F C1 s1 σ H1 _ k s' hK a1.1 h fun C2 H2 a2 => q C2 H2 (a1.trans a2)
  | false =>
    cases h
    exact q C1 H1 a1
theorem sw_or {f g : State → Option (Bool × State)} (ha : STst X a f) (hb : SWh X (.BoolOp .Or (b :: rest) pos) g) : SWh X (.BoolOp .Or (a :: b :: rest) pos) (either f g) := by
  obtain ⟨t, pt, q0⟩ := ha
  obtain ⟨t', pt', q1⟩ := hb
  refine ⟨_, pw_or pt pt', fun F C s σ H Q k s' hK G e q => ?_⟩
  obtain ⟨⟨k1, s1⟩, h1, h⟩ := Option.bind_eq_some_iff.mp e
  refine q0 F C s σ H _ k1 s1 hK G h1 fun C1 H1 a1 => ?_
  cases k1 with
  | false => exact q1 F C1 s1 σ H1 _ k s' hK a1.1 h fun C2 H2 a2 => q C2 H2 (a1.trans a2)
  | true =>
    cases h
    exact q C1 H1 a1
theorem SWh.st {f : State → Option (Bool × State)} (h : SWh X a f) : STst X a f := by
  obtain ⟨t, pt, q0⟩ := h
  exact ⟨t, pt.pt, q0⟩
/-- .. as values, of bools -/
theorem sv_one {op : BoolOp} {f : State → Option (D × State)} (ha : SVal X a f) : SVal X (.BoolOp op [a] pos) f := by
  obtain ⟨t, pt, q0⟩ := ha
  exact ⟨_, pe_one pt, q0⟩
def bothV (f g : State → Option (D × State)) (s : State) : Option (D × State) := (boolF f s).bind fun p => if p.1 then g p.2 else some (.bool false, p.2)
def eitherV (f g : State → Option (D × State)) (s : State) : Option (D × State) := (boolF f s).bind fun p => if p.1 then some (.bool true, p.2) else g p.2
theorem sv_and {f g : State → Option (D × State)} (ha : SVal X a f) (hb : SVal X (.BoolOp .And (b :: rest) pos) g) : SVal X (.BoolOp .And (a :: b :: rest) pos) (bothV f g) := by
  obtain ⟨t, pt, q0⟩ := ha
  obtain ⟨t', pt', q1⟩ := hb
  refine ⟨_, pe_and pt pt', fun F C s σ H Q d s' hK G e q => ?_⟩
  obtain ⟨⟨k1, s1⟩, h1, h⟩ := Option.bind_eq_some_iff.mp e
  refine q0 F C s σ H _ _ s1 hK G (boolF_some h1) fun v C1 H1 a1 r1 => ⟨k1, by simpa [Rep] using r1, ?_⟩
  cases k1 with
  | true => exact q1 F C1 s1 σ H1 _ d s' hK a1.1 h fun v C2 H2 a2 r2 => q v C2 H2 (a1.trans a2) r2
  | false =>
    cases h
    exact q _ C1 H1 a1 rp_bool
theorem sv_or {f g : State → Option (D × State)} (ha : SVal X a f) (hb : SVal X (.BoolOp .Or (b :: rest) pos) g) : SVal X (.BoolOp .Or (a :: b :: rest) pos) (eitherV f g) := by
  obtain ⟨t, pt, q0⟩ := ha
  obtain ⟨t', pt', q1⟩ := hb
  refine ⟨_, pe_or pt pt', fun F C s σ H Q d s' hK G e q => ?_⟩
  obtain ⟨⟨k1, s1⟩, h1, h⟩ := Option.bind_eq_some_iff.mp e
  refine q0 F C s σ H _ _ s1 hK G (boolF_some h1) fun v C1 H1 a1 r1 => ⟨k1, by simpa [Rep] using r1, ?_⟩
  cases k1 with
  | false => exact q1 F C1 s1 σ H1 _ d s' hK a1.1 h fun v C2 H2 a2 r2 => q v C2 H2 (a1.trans a2) r2
  | true =>
    cases h
    exact q _ C1 H1 a1 rp_bool
def ifF {α : Type} (c : State → Option (Bool × State)) (f g : State → Option (α × State)) (s : State) : Option (α × State) := (c s).bind fun p => if p.1 then f p.2 else g p.2
theorem sg_ife {α : Type} {R : RT α} (hR : R.After) {fc : State → Option (Bool × State)} {f g : State → Option (α × State)} (hc : STst X c fc) (ha : SG X R a f) (hb : SG X R b g) : SG X R (.IfExp c a b pos) (ifF fc f g) := by
  obtain ⟨tc, pc, qc⟩ := hc
  obtain ⟨t, pt, q0⟩ := ha
  obtain ⟨t', pt', q1⟩ := hb
  refine ⟨_, pe_ifExp pc pt pt', fun F C s σ H Q d s' hK G e q => ?_⟩
  obtain ⟨⟨k1, s1⟩, h1, h⟩ := Option.bind_eq_some_iff.mp e
  refine qc F C s σ H _ k1 s1 hK G h1 fun C1 H1 a1 => ?_
  cases k1 with
  | true => exact q0 F C1 s1 σ H1 _ d s' hK a1.1 h fun v C2 H2 r2 => q v C2 H2 (hR _ _ _ _ _ _ _ _ _ _ _ _ _ a1 r2)
  | false => exact q1 F C1 s1 σ H1 _ d s' hK a1.1 h fun v C2 H2 r2 => q v C2 H2 (hR _ _ _ _ _ _ _ _ _ _ _ _ _ a1 r2)

/-! ### numbers, constants, displays -/
theorem sv_con {k : TE} {d : D} {v : V} (p : PE X e (tC v)) (h : ∀ W H, Rep X.K W H d v) : SVal X e fun s => some (d, s) :=
  ⟨_, p, fun F C s σ H Q d' s' hK G e q => by cases e; exact q v C H (Aft.refl G) (by rw [hK]; exact h _ _)⟩
def negF (fa : State → Option (Pre × State)) (s : State) : Option (D × State) := un1 (fun d => match d with | .int i => some (.int (-i)) | _ => none) fa s
theorem sv_neg {fa : State → Option (Pre × State)} (ha : SPre X a fa) : SVal X (.UnaryOp .USub a pos) (negF fa) := by
  obtain ⟨ta, pa, qa⟩ := ha
  refine SG.val ⟨_, pe_un un_neg pa, one_op (r := rU fun i => .int (-i)) RVal.after (fun F C s σ H x dx d Q hK G rx e q => ?_) qa⟩
  cases dx with
  | int i =>
    cases e
    exact ⟨i, rr_int rx, q _ _ ⟨Aft.refl G, rp_int⟩⟩
  | _ => cases e
theorem sl_nil : SList X [] fun s => some ([], s) :=
  ⟨_, pa_nil, fun F C s σ H Q ds s' hK G e q => by cases e; exact q [] C H (Aft.refl G) RepL.nil⟩
def consF (f : State → Option (D × State)) (g : State → Option (List D × State)) (s : State) : Option (List D × State) := (f s).bind fun p => (g p.2).map fun r => (p.1 :: r.1, r.2)
theorem sl_cons {f : State → Option (D × State)} {g : State → Option (List D × State)} (ha : SVal X a f) (hs : isStar a = false) (hr : SList X es g) : SList X (a :: es) (consF f g) := by
  obtain ⟨t, pt, q0⟩ := ha
  obtain ⟨t', pt', q1⟩ := hr
  refine ⟨_, pa_cons pt pt' (star1 hs), fun F C s σ H Q ds s' hK G e q => ?_⟩
  obtain ⟨⟨d, s1⟩, h1, h⟩ := Option.bind_eq_some_iff.mp e
  obtain ⟨⟨r, s2⟩, h2, h⟩ := Option.map_eq_some_iff.mp h
  cases h
  refine q0 F C s σ H _ d s1 hK G h1 fun v C1 H1 a1 r1 => ?_
  exact q1 F C1 s1 σ H1 _ r s2 hK a1.1 h2 fun vs C2 H2 a2 r2 => q _ C2 H2 (a1.trans a2) (RepL.cons (r1.stp a2.2 _ _) r2)
def tupF (g : State → Option (List D × State)) (s : State) : Option (D × State) := (g s).bind fun p => (mkT p.1).map fun d => (d, p.2)
theorem sv_tup {k : Nat} {g : State → Option (List D × State)} (h : SList X es g) : SVal X (.Tuple es k pos) (tupF g) := by
  obtain ⟨t, pt, q0⟩ := h
  refine SG.val ⟨_, pe_tupF pt, fun F C s σ H Q d s' hK G e q => ?_⟩
  obtain ⟨⟨ds, s1⟩, h1, h⟩ := Option.bind_eq_some_iff.mp e
  obtain ⟨d', h2, h⟩ := Option.map_eq_some_iff.mp h
  cases h
  obtain ⟨h3, rfl⟩ := mkT_some h2
  have h4 : ds.length ≤ 1000000 := h3
  refine q0 F C s σ H _ ds s1 hK G h1 fun vs C1 H1 a1 r1 => ⟨by rw [r1.length, line_eq]; omega, ?_⟩
  exact laid_tup a1.1 r1 fun v H' r => q v C1 H' (RVal.after _ _ _ _ _ _ _ _ _ _ _ _ _ a1 r)
def lstF (g : State → Option (List D × State)) (s : State) : Option (List D × State) := (g s).bind fun p => if sizeOk p.1.length then some p else none
theorem sf_lst {g : State → Option (List D × State)} (h : SList X es g) : SFr X (.List es pos) (lstF g) := by
  obtain ⟨t, pt, q0⟩ := h
  refine SG.fr ⟨_, pe_lst pt, fun F C s σ H Q d s' hK G e q => ?_⟩
  obtain ⟨⟨ds, s1⟩, h1, h⟩ := Option.bind_eq_some_iff.mp e
  split at h
  · rename_i h3
    cases h
    have h4 : d.length ≤ 1000000 := of_decide_eq_true h3
    refine q0 F C s σ H _ d s' hK G h1 fun vs C1 H1 a1 r1 => ⟨by rw [r1.length, line_eq]; omega, ?_⟩
    exact laid_fr a1.1 r1 fun v H' r => q v C1 H' (RFr.after _ _ _ _ _ _ _ _ _ _ _ _ _ a1 r)
  · cases h
theorem sf_dnew : SFd X (.Dict [] [] pos) fun s => some ([], s) :=
  SG.fd ⟨_, pe_dnewK, fun F C s σ H Q d s' hK G e q => by
    cases e
    refine fun p hp => ?_
    have f : Fresh F C s σ H C s (upd H p (.dK [])) p := fresh_of G hp
    exact q _ C _ ⟨p, [], rfl, f, upd_same, by simp [RepKV]⟩⟩

/-! ### isinstance, max, min -/
def isiF (T : Ty) (fa : State → Option (Pre × State)) (s : State) : Option (D × State) := un1 (fun d => some (.bool (isTy d T))) fa s
def tyOfD : D → String
  | .none => "NoneType"
  | .bool _ => "bool"
  | .int _ => "int"
  | .str _ => "str"
  | .list _ => "list"
  | .tuple _ => "tuple"
  | .dict _ => "dict"
theorem kit_all (d : D) (T : Ty) : kitB (tyOfD d) (tyName T) = some (isTy d T) := by
  cases d <;> cases T <;> (simp only [tyOfD, tyName, isTy]; decide +kernel)
theorem tyx {K : PySem.W.Frag} {W : Addr → Prop} {H : Hp} {d : D} {v : V} (h : RepR K W H d v) : TyX K H v (.type (tyOfD d)) := by
  cases d with
  | none => rw [rr_none h]; exact .base .non
  | bool b => rw [rr_bool h]; exact .base (.bl b)
  | int i => rw [rr_int h]; exact .base (.int i)
  | str x => rw [rr_str h]; exact .base (.str x)
  | list ds =>
    obtain ⟨a, vs, ea, h1, hl⟩ := h
    subst ea
    rcases h1 with h1 | ⟨o, h1⟩
    · exact .base (.lst h1)
    · exact .base (.frz h1)
  | tuple ds =>
    obtain ⟨a, vs, ea, h1, hl⟩ := h
    subst ea
    rcases h1 with ⟨o, h1, _⟩ | ⟨o, its, n, h1, h2, _⟩
    · exact .fTuple h1
    · exact .kTuple h1 h2
  | dict ds =>
    obtain ⟨a, vs, ea, h1, hl⟩ := h
    subst ea
    exact .base (.dK h1)
theorem boot_ty (T : Ty) : bootBuiltins (Str.ofString (tyName T)) = some (.type (tyName T)) := by cases T <;> decide +kernel
theorem sv_isi {T : Ty} {p p2 : Pos} {x : Str} (hx : x = Str.ofString (tyName T)) (hg : Gl X "isinstance") (hm : X.mg "isinstance" = none) (hgT : Gl X x) (hmT : X.mg x = none) {fa : State → Option (Pre × State)} (ha : SPre X a fa) (hs : isStar a = false) :
    SVal X (.Call (.Name "isinstance" p) [a, .Name x p2] [] pos) (isiF T fa) := by
  subst hx
  obtain ⟨ta, pa, qa⟩ := ha
  have pT : PE X (.Name (Str.ofString (tyName T)) p2) (tC (.ty (tyName T))) := pe_bltn hgT hmT (boot_ty T) rfl (by cases T <;> decide) (by cases T <;> decide)
  have hb : bootBuiltins "isinstance" = some (.builtin "isinstance") := by decide +kernel
  have e2 : ∀ env : Env, starEach [a, .Name (Str.ofString (tyName T)) p2] env = (false, eval a env) :: starEach [.Name (Str.ofString (tyName T)) p2] env := fun env => star1 hs
  refine SG.val ⟨_, pe_callB call_isi hg hm hb (pa_cons pa (pa_cons pT pa_nil (star1 rfl)) (e2 _)) (by decide) (by decide) (e2 _) (stars_none fun e he => by
    have : e = .Name (Str.ofString (tyName T)) p2 := by simpa using he
    rw [this]
    rfl), ?_⟩
  intro F C s σ H Q d s' hK G e q
  refine one_op (X := X) (R := RVal) RVal.after (r := fun v H Q => rIsi X.K [v, .ty (tyName T)] H Q) (f := fun d => some (.bool (isTy d T))) (fun F C s σ H x dx d Q hK G rx e q => ?_) qa F C s σ H Q d s' hK G e q
  cases e
  rw [hK] at rx
  exact ⟨x, .ty (tyName T), .type (tyOfD dx), .type (tyName T), isTy dx T, rfl, .ty _, tyx rx, kit_ty (kit_all dx T), q _ _ ⟨Aft.refl G, rp_bool⟩⟩
/-- a built-in function of two operands -/
theorem sg_b2 {x : Str} {id : String} {p : Pos} {rr : List V → Hp → VK → Prop} {f : D → D → Option D} (hc : CallR X (.builtin id) rr) (hf : ∀ F C s σ H x y dx dy a Q, F.K = X.K → Good F C Z0 s σ H → RepR F.K (Wf F C s.env σ) H dx x → RepR F.K (Wf F C s.env σ) H dy y →
      f dx dy = some a → (∀ v H', RVal F C s σ H C s H' a v → Q v H') → rr [x, y] H Q) (hg : Gl X x) (hm : X.mg x = none) (hv : bootBuiltins x = some (.builtin id))
    (hn : x ≠ "__name__") (hdb : (x == ("__debug__" : Str)) = false) {fa fb : State → Option (Pre × State)} (ha : SPre X a fa) (hb : SPre X b fb) (hs : isStar a = false) (hs2 : isStar b = false) : SVal X (.Call (.Name x p) [a, b] [] pos) (bin2 f fa fb) := by
  obtain ⟨ta, pa, qa⟩ := ha
  obtain ⟨tb, pb, qb⟩ := hb
  have e2 : ∀ env : Env, starEach [a, b] env = (false, eval a env) :: starEach [b] env := fun env => star1 hs
  refine SG.val ⟨_, pe_callB hc hg hm hv (pa_cons pa (pa_cons pb pa_nil (star1 hs2)) (e2 _)) hn hdb (e2 _) (stars_none fun e he => by
    have : e = b := by simpa using he
    rw [this]
    exact hs2), ?_⟩
  exact fun F C s σ H Q d s' hK G e q => two_ops (X := X) RVal.after (r := fun x y H Q => rr [x, y] H Q) hf qa qb F C s σ H Q d s' hK G e q
theorem max_ok (hc : X.calm = true) : ∃ rr, CallR X (.builtin "max") rr ∧ ∀ F C s σ H x y dx dy a Q, F.K = X.K → Good F C Z0 s σ H → RepR F.K (Wf F C s.env σ) H dx x → RepR F.K (Wf F C s.env σ) H dy y → maxD dx dy = some a → (∀ v H', RVal F C s σ H C s H' a v → Q v H') → rr [x, y] H Q := by
  refine ⟨_, call_max2 hc, fun F C s σ H x y dx dy a Q hK G rx ry e q => ?_⟩
  cases dx <;> cases dy <;> try (cases e; done)
  cases e
  exact ⟨_, _, by rw [rr_int rx, rr_int ry], q _ _ ⟨Aft.refl G, rp_int⟩⟩
theorem min_ok (hc : X.calm = true) : ∃ rr, CallR X (.builtin "min") rr ∧ ∀ F C s σ H x y dx dy a Q, F.K = X.K → Good F C Z0 s σ H → RepR F.K (Wf F C s.env σ) H dx x → RepR F.K (Wf F C s.env σ) H dy y → minD dx dy = some a → (∀ v H', RVal F C s σ H C s H' a v → Q v H') → rr [x, y] H Q := by
  refine ⟨_, call_min2 hc, fun F C s σ H x y dx dy a Q hK G rx ry e q => ?_⟩
  cases dx <;> cases dy <;> try (cases e; done)
  cases e
  exact ⟨_, _, by rw [rr_int rx, rr_int ry], q _ _ ⟨Aft.refl G, rp_int⟩⟩
end
end IR

end
section
/-! Ir8: what a def of the text promises; calls. -/
namespace IR
open PySem PySem.Spec PyProof.Rows L2

/-! ### the promise -/
def ArgOk (F : Fr) (H : Hp) : Arg → V → Prop
  | .val d, v => Rep F.K (fun a => F.W0 a ∨ a ∈ F.C0) H d v
  | .brw d, v => RepB F.K (fun a => a ∈ F.C0) H d v
  | .cell n, v => ∃ a, F.C0[n]? = some a ∧ v = .ref a
def ArgsOk (F : Fr) (H : Hp) : List Arg → List V → Prop
  | [], vs => vs = []
  | x :: xs, vs => ∃ v r, vs = v :: r ∧ ArgOk F H x v ∧ ArgsOk F H xs r
theorem ArgsOk.length {F : Fr} {H : Hp} : ∀ {xs : List Arg} {vs : List V}, ArgsOk F H xs vs → vs.length = xs.length
  | [], vs, h => by
    simp only [ArgsOk] at h
    rw [h]
    rfl
  | x :: xs, vs, h => by
    simp only [ArgsOk] at h
    obtain ⟨v, r, e, _, h2⟩ := h
    rw [e, List.length_cons, List.length_cons, ArgsOk.length h2]
theorem ArgsOk.get {F : Fr} {H : Hp} : ∀ {xs : List Arg} {vs : List V} {i : Nat} {x : Arg}, ArgsOk F H xs vs → xs[i]? = some x → ∃ v, vs[i]? = some v ∧ ArgOk F H x v
  | [], _, _, _, _, e => by simp at e
  | y :: xs, vs, 0, x, h, e => by
    simp only [ArgsOk] at h
    obtain ⟨v, r, ev, h1, _⟩ := h
    subst ev
    simp at e
    subst e
    exact ⟨v, by simp, h1⟩
  | y :: xs, vs, i + 1, x, h, e => by
    simp only [ArgsOk] at h
    obtain ⟨v, r, ev, _, h2⟩ := h
    subst ev
    obtain ⟨w, e1, e2⟩ := ArgsOk.get (i := i) h2 (by simpa using e)
    exact ⟨w, by simpa using e1, e2⟩
def spOf (K : PySem.W.Frag) (np : Nat) (fs : FSem) (vs : List V) (H : Hp) (Q : VK) : Prop := ∃ (F : Fr) (args : List Arg) (cs : Cells) (d : D) (cs' : Cells),
  F.K = K ∧ F.H0 = H ∧ args.length = np ∧ fs args cs = some (d, cs') ∧ CellsOk H F.C0 cs ∧ F.C0.Nodup ∧ ArgsOk F H args vs ∧
  ∀ v H', (∀ a o, H a = some o → a ∉ F.C0 → H' a = some o) → CellsOk H' F.C0 cs' → Rep K (fun a => F.W0 a ∨ a ∈ F.C0) H' d v → Q v H'
theorem spOf.len {K : PySem.W.Frag} {np : Nat} {fs : FSem} {vs : List V} {H : Hp} {Q : VK} (h : spOf K np fs vs H Q) : vs.length = np := by
  obtain ⟨F, args, cs, d, cs', _, _, h1, _, _, _, h2, _⟩ := h
  rw [h2.length, h1]
/-- a function that says no more -/
theorem spOf.imp {K : PySem.W.Frag} {np : Nat} {fs gs : FSem} (hfg : ∀ args cs r, args.length = np → gs args cs = some r → fs args cs = some r) {vs : List V} {H : Hp} {Q : VK} (h : spOf K np gs vs H Q) : spOf K np fs vs H Q := by
  obtain ⟨F, args, cs, d, cs', e1, e2, h1, h2, h3⟩ := h
  exact ⟨F, args, cs, d, cs', e1, e2, h1, hfg _ _ _ h1 h2, h3⟩

structure FnG (P : Program) (w : World) (K : PySem.W.Frag) (mg : Str → Option Value) (base : Heap) (k : Nat) (f : Addr) (fd : FuncData) (ps : List Str) (fs : FSem) : Prop where
  run : ∀ (A : Around) (outer : List Env) (s : Shared) (H : Hp) (args : Args) (us : List Value) (vs : List V) (Q : VK), A.guards = some [] → Room k A → Env0 P w K mg base A outer s H → BindsTo s fd args (ps.zip us) → Vals vs us → spOf K ps.length fs vs H Q →
    codeAny (model P w) A (.call (.ref f) args) (CR CX0 outer P w H s Q E0) s
theorem FnG.mono {P : Program} {w : World} {K : PySem.W.Frag} {mg : Str → Option Value} {base : Heap} {j k : Nat} {f : Addr} {fd : FuncData} {ps : List Str} {fs : FSem} (F : FnG P w K mg base j f fd ps fs) (h : j ≤ k) : FnG P w K mg base k f fd ps fs :=
  ⟨fun A outer s H args us vs Q hg hr => F.run A outer s H args us vs Q hg (hr.mono h)⟩
theorem FnG.imp {P : Program} {w : World} {K : PySem.W.Frag} {mg : Str → Option Value} {base : Heap} {k : Nat} {f : Addr} {fd : FuncData} {ps : List Str} {fs gs : FSem} (F : FnG P w K mg base k f fd ps fs)
    (hfg : ∀ args cs r, args.length = ps.length → gs args cs = some r → fs args cs = some r) : FnG P w K mg base k f fd ps gs :=
  ⟨fun A outer s H args us vs Q hg hr he hb hv h => F.run A outer s H args us vs Q hg hr he hb hv (h.imp hfg)⟩

def perm {α : Type} (idx : List Nat) (l : List α) : List α := idx.filterMap fun i => l[i]?
structure KwPat where
  ks : List Str
  idx : List Nat
def BindsKw (fd : FuncData) (ps : List Str) (q : KwPat) : Prop := ∀ ws : List Value, ws.length = q.ks.length → bindArgs fd ⟨[], q.ks.zip ws⟩ = pure (ps.zip (perm q.idx ws))
/-- a def of the text by its name -/
def FnAt (P : Program) (w : World) (K : PySem.W.Frag) (mg : Str → Option Value) (base : Heap) (k : Nat) (name : Str) (np : Nat) (kwl : List KwPat) (fs : FSem) : Prop :=
  ∃ f fd ps, mg name = some (.ref f) ∧ PySem.W.keepIn K (.ref f) = true ∧ ps.length = np ∧ Binds K fd ps [] ∧ (∀ q ∈ kwl, BindsKw fd ps q) ∧ FnG P w K mg base k f fd ps fs

/-! ### a def keeps its promise -/
def argSlot : Arg → Slot
  | .val d => .val d
  | .brw d => .brw d
  | .cell n => .cell n
inductive Out where
  | next
  | ret (d : D)
  | brk
  | cont
def runDef (np n : Nat) (body : State → Option (Out × State)) : FSem := fun args cs =>
  if args.length = np then (body ⟨args.map argSlot ++ List.replicate (n - np) .emp, cs⟩).bind fun r => match r.1 with
    | .ret d => some (d, r.2.cs.take cs.length)
    | .next => some (.none, r.2.cs.take cs.length)
    | _ => none
  else none
def RetOk (F : Fr) (C' : List Addr) (cs : Cells) (H' : Hp) : Prop := CellsOk H' C' cs ∧ (∃ r, C' = F.C0 ++ r) ∧ ∀ a o, F.H0 a = some o → a ∉ F.C0 → H' a = some o
/-- what a block leaves -/
def EndOk (F : Fr) (C : List Addr) (s : State) (σ : L2.St) (H : Hp) (Dn : Ends) (s' : State) : Out → Prop
  | .next => ∀ σ' C' H', Good F C' Z0 s' σ' H' → Stp (Wf F C s.env σ) H (Wf F C' s'.env σ') H' → Dn.nx σ' H'
  | .brk => ∀ σ' C' H', Good F C' Z0 s' σ' H' → Stp (Wf F C s.env σ) H (Wf F C' s'.env σ') H' → Dn.bk σ' H'
  | .cont => ∀ σ' C' H', Good F C' Z0 s' σ' H' → Stp (Wf F C s.env σ) H (Wf F C' s'.env σ') H' → Dn.ct σ' H'
  | .ret d => ∀ v C' H', RetOk F C' s'.cs H' → Rep F.K (fun a => F.W0 a ∨ a ∈ C') H' d v → Dn.rt v H'
def SBlk (X : Cx) (st : List Stmt) (f : State → Option (Out × State)) : Prop := ∃ t : TS, PSs X st t ∧ ∀ F C s σ H Dn out s', F.K = X.K → Good F C Z0 s σ H → f s = some (out, s') → EndOk F C s σ H Dn s' out → t Dn σ H

theorem cells_take {H : Hp} {C r : List Addr} {cs : Cells} (h : CellsOk H (C ++ r) cs) : CellsOk H C (cs.take C.length) := by
  refine ⟨?_, fun n a e => ?_⟩
  · have := h.1
    rw [List.length_append] at this
    rw [List.length_take]
    omega
  · have hn := (List.getElem?_eq_some_iff.mp e).1
    obtain ⟨ns, e1, e2⟩ := h.2 n a (by rw [List.getElem?_append_left hn]; exact e)
    exact ⟨ns, by rw [List.getElem?_take_of_lt hn]; exact e1, e2⟩
theorem start_get {N : List Str} {vs : List V} {i : Nat} {v : V} (h : vs[i]? = some v) : (L2.start N vs)[i]? = some (some v) := by
  unfold L2.start
  have hi := (List.getElem?_eq_some_iff.mp h).1
  rw [List.getElem?_append_left (by simpa using hi), List.getElem?_map, h]
  rfl
/-- the state at the entry -/
theorem good_start {F : Fr} {args : List Arg} {cs : Cells} {vs : List V} {N : List Str} (hc : CellsOk F.H0 F.C0 cs) (nd : F.C0.Nodup) (ha : ArgsOk F F.H0 args vs) (hn : args.length ≤ N.length) :
    Good F F.C0 Z0 ⟨args.map argSlot ++ List.replicate (N.length - args.length) .emp, cs⟩ (L2.start N vs) F.H0 := by
  have hl := ha.length
  have nob : ∀ i a, ¬ bxAt (args.map argSlot ++ List.replicate (N.length - args.length) Slot.emp) (L2.start N vs) i a := by
    rintro i a ⟨sl, e1, e2, _⟩
    by_cases hi : i < args.length
    · rw [List.getElem?_append_left (by simpa using hi), List.getElem?_map] at e1
      obtain ⟨x, _, ex⟩ := Option.map_eq_some_iff.mp e1
      subst ex
      cases x <;> cases e2
    · rw [List.getElem?_append_right (by simpa using hi), List.getElem?_replicate] at e1
      split at e1
      · cases e1
        cases e2
      · cases e1
  refine ⟨?_, fun i sl e => ?_, hc, nd, ⟨[], by simp, fun a z => nomatch z⟩, fun i j a h => absurd h (nob i a), fun i a h => absurd h (nob i a), fun i a h => absurd h (nob i a), fun a o e _ => e⟩
  · unfold L2.start
    simp only [List.length_append, List.length_map, List.length_replicate]
    omega
  · by_cases hi : i < args.length
    · rw [List.getElem?_append_left (by simpa using hi), List.getElem?_map] at e
      obtain ⟨x, ex, rfl⟩ := Option.map_eq_some_iff.mp e
      obtain ⟨v, ev, r⟩ := ha.get ex
      have es : (L2.start N vs)[i]? = some (some v) := start_get ev
      cases x with
      | val d =>
        refine ⟨v, es, r.mono fun a w => ?_⟩
        rcases w with (w | w | ⟨j, w⟩) | w
        · exact .inl w
        · exact .inr w
        · exact absurd w (nob j a)
        · exact w.elim
      | brw d => exact ⟨v, es, r⟩
      | cell n =>
        obtain ⟨a, e1, e2⟩ := r
        exact ⟨a, e1, by rw [es, e2]⟩
    · rw [List.getElem?_append_right (by simpa using hi), List.getElem?_replicate] at e
      split at e
      · cases e
        trivial
      · cases e

section
variable {P : Program} {w : World} {K : PySem.W.Frag} {mg : Str → Option Value} {base : Heap}
theorem guards_deeper (A : Around) (env : Env) : (A.deeper env).guards = A.guards := rfl
/-- a def of the text, by its body: what is shown of it in every context is true of its calls -/
theorem fnG_of {x qual : Str} {st : Stmt} {f : Addr} {fd : FuncData} {N ps : List Str} {k : Nat} {body : State → Option (Out × State)} (Fn : Fun K x qual st f fd) (S : FnScope N ps (defScope st)) (hb : ∀ y ∈ bltNames, mg y = none)
    (hbody : ∀ X : Cx, X.prog = P → X.w = w → X.K = K → X.mg = mg → X.base = base → CtxOk X N ⟨defScope st, fun _ => true⟩ k → SBlk X (defBody st) body) : FnG P w K mg base (k + 1) f fd ps (runDef ps.length N.length body) := by
  obtain ⟨oc, od, kV, doc, pm, an, cdv, ct, osl, rfl, lk, hcd⟩ := Fn.ex
  refine ⟨fun A outer s H args us vs Q hg hr e0 hbind r hsp => ?_⟩
  have hl := hsp.len
  have inK : K.In s.heap := e0.mod.kin.keeps fun b o e => (e0.bs b o e).1
  have lim : s.heap.NoLimit := e0.mod.nolimit.keeps fun b o e => (e0.bs b o e).1
  have kinds : ∀ y ∈ ps.zip us, (defScope st).names.lookup y.1 = some .local ∨ ((defScope st).names.lookup y.1 = some .cell ∧ ((cellsFrom (s.heap.objs.size + 1) (defScope st).names []).lookup y.1).isSome = true) := by
    rintro ⟨nm, v⟩ hy
    rcases S.par nm (List.of_mem_zip hy).1 with z | z
    · exact .inl z
    · exact .inr ⟨z, PySem.W.cellsFrom_some _ _ _ (.inl z)⟩
  refine codeAny_call_function hr.depth (inK _ _ lk) rfl S.co S.gen rfl (PySem.W.codeRec_of inK hcd) (hbind _ _ _ _ ?_)
  refine wpAny_newFunctionEnv_cells S.kind kinds fun env he s1 x => ?_
  subst he
  refine ⟨lim.keeps x.toInCall.keep, codeAny_func ?_⟩
  have I0 : Inv (cxOf CX0 P w K mg base N qual (defScope st) f cdv A outer s H E0) [] (L2.start N vs) H s1 := inv_start S hr.hd e0 hl r x
  obtain ⟨F, fargs, cs, d, cs', eK, eH, h1, h2, h3, h4, h5, hQ⟩ := hsp
  subst eK
  subst eH
  have cx : CtxOk ((cxOf CX0 P w F.K mg base N qual (defScope st) f cdv A outer s F.H0 E0).nox) N ⟨defScope st, fun _ => true⟩ k :=
    ⟨rfl, S.nd, rfl, fun _ _ => rfl, rfl, rfl, hr.deeper _, (guards_deeper A _).trans hg, hb⟩
  obtain ⟨t, pt, q0⟩ := hbody _ rfl rfl rfl rfl rfl cx
  have npl : ps.length ≤ N.length := by
    have e := congrArg List.length S.pre
    rw [List.length_take] at e
    omega
  have G0 := good_start (N := N) h3 h4 h5 (by omega)
  unfold runDef at h2
  rw [if_pos h1] at h2
  obtain ⟨⟨out, s2⟩, hb1, hb2⟩ := Option.bind_eq_some_iff.mp h2
  rw [h1] at G0
  have hlen : cs.length = F.C0.length := h3.1.symm
  have fin : ∀ v C' H', RetOk F C' s2.cs H' → Rep F.K (fun a => F.W0 a ∨ a ∈ C') H' d v → cs' = s2.cs.take cs.length → Q v H' := fun v C' H' ro rp ec => by
    obtain ⟨c1, ⟨r1, er⟩, ex⟩ := ro
    subst er
    refine hQ v H' ex ?_ (rp.mono fun a w => w.elim .inl fun w => .inr (List.mem_append_left _ w))
    rw [ec, hlen]
    exact cells_take c1
  have run := pt.nox.run [] s1 (L2.start N vs) F.H0 { nx := fun _ H' => Q .non H', rt := Q } I0 (q0 F F.C0 _ _ F.H0 _ out s2 rfl G0 hb1 ?_)
  · refine wpAny_mono run (fun fl s' hs => ?_) fun e s' hs => hs
    have leave : ∀ {σ' : L2.St} {H' : Hp} {v : V} {u : Value}, Inv (cxOf CX0 P w F.K mg base N qual (defScope st) f cdv A outer s F.H0 E0) [] σ' H' s' → RelV v u → Q v H' → CE outer P w F.H0 s Q u s' :=
      fun {σ' H' v u} J rv q => ⟨v, H', J.os, J.bare, J.base, J.hok, rv, q⟩
    cases fl with
    | ret u => obtain ⟨v, σ', H', J, rv, q⟩ := hs; exact leave J rv q
    | next => obtain ⟨σ', H', J, q⟩ := hs; exact leave (v := V.non) (u := Value.none) J rfl q
    | brk => obtain ⟨_, _, _, q⟩ := hs; exact q.elim
    | cont => obtain ⟨_, _, _, q⟩ := hs; exact q.elim
  · cases out with
    | next =>
      cases hb2
      intro σ' C' H' G' _
      refine fin .non C' H' ⟨G'.cell, ?_, G'.ext⟩ rp_none rfl
      obtain ⟨r, er, _⟩ := G'.cpre
      exact ⟨r, er⟩
    | ret d' =>
      cases hb2
      exact fun v C' H' ro rp => fin v C' H' ro rp rfl
    | brk => cases hb2
    | cont => cases hb2
end

/-! ### arguments -/
def finArg (s : State) : Pre → Option Arg
  | .now d => some (.val d)
  | .late i => match s.env[i]? with
    | some (.val d) => some (.val d)
    | some (.box ds) => some (.brw (.list ds))
    | some (.dbox ds) => some (.brw (.dict ds))
    | some (.brw d) => some (.brw d)
    | some (.cell n) => some (.cell n)
    | _ => none
def finArgs (s : State) : List Pre → Option (List Arg)
  | [] => some []
  | p :: ps => (finArg s p).bind fun a => (finArgs s ps).map (a :: ·)
def PreReps (F : Fr) (C : List Addr) (s : State) (σ : L2.St) (H : Hp) : List Pre → List V → Prop
  | [], vs => vs = []
  | p :: ps, vs => ∃ v r, vs = v :: r ∧ PreRep F C s σ H p v ∧ PreReps F C s σ H ps r
def SArgL (X : Cx) (es : List Expr) (f : State → Option (List Pre × State)) : Prop := ∃ t : TA, PA X es t ∧ ∀ F C s σ H Q ps s', F.K = X.K → Good F C Z0 s σ H → f s = some (ps, s') →
  (∀ vs C' H', Aft F C s σ H C' s' H' → PreReps F C' s' σ H' ps vs → Q vs H') → t σ H Q
/-- the frame of a callee -/
def calleeFr {F : Fr} {C : List Addr} {s : State} {σ : L2.St} {H : Hp} (G : Good F C Z0 s σ H) : Fr where
  K := F.K
  W0 := Wf F C s.env σ
  H0 := H
  C0 := C
  w0 := fun a w => G.mut w
  c0 := fun a h => G.mut (.inr (.inl h))
theorem brw_pass {F : Fr} {C : List Addr} {s : State} {σ : L2.St} {H : Hp} (G : Good F C Z0 s σ H) {d : D} {v : V} (r : RepB F.K (fun a => a ∈ F.C0) F.H0 d v) : RepB F.K (fun a => a ∈ C) H d v := by
  have st : Stp (fun a => a ∈ F.C0) F.H0 (fun a => a ∈ C) H := fun a o e n => by
    refine ⟨G.ext a o e n, fun z => ?_⟩
    obtain ⟨r, er, hr⟩ := G.cpre
    rw [er] at z
    rcases List.mem_append.mp z with z | z
    · exact n z
    · rw [hr a z] at e
      cases e
  exact r.stp st
end IR

end
section
/-! Ir9: calls of the text's own defs. -/
namespace IR
open PySem PySem.Spec PyProof.Rows L2

section
variable {F : Fr} {C : List Addr} {s : State} {σ : L2.St} {H : Hp}
theorem PreReps.aft {C' : List Addr} {s' : State} {H' : Hp} : ∀ {ps : List Pre} {vs : List V}, PreReps F C s σ H ps vs → Aft F C s σ H C' s' H' → PreReps F C' s' σ H' ps vs
  | [], _, h, _ => h
  | p :: ps, vs, h, a => by
    obtain ⟨v, r, e, h1, h2⟩ := h
    exact ⟨v, r, e, h1.aft a, PreReps.aft h2 a⟩
theorem fin_one (G : Good F C Z0 s σ H) {p : Pre} {x : Arg} {v : V} (e : finArg s p = some x) (r : PreRep F C s σ H p v) : ArgOk (calleeFr G) H x v := by
  cases p with
  | now d =>
    cases e
    exact Rep.mono (W := Wf F C s.env σ) (fun a w => w.elim id fun z => .inr (.inl z)) r
  | late i =>
    have r' : σ[i]? = some (some v) := r
    simp only [finArg] at e
    cases es : s.env[i]? with
    | none => rw [es] at e; cases e
    | some sl =>
      rw [es] at e
      have q := G.slot i sl es
      cases sl with
      | emp => cases e
      | val d =>
        cases e
        obtain ⟨u, e1, r1⟩ := q
        rw [r'] at e1
        cases e1
        exact r1.mono fun a w => w.elim .inl fun z => .inl (.inr (.inl z))
      | box ds =>
        cases e
        obtain ⟨a, vs, e1, e2, r1⟩ := q
        rw [r'] at e1
        cases e1
        exact ⟨a, vs, rfl, G.apart i a ⟨_, es, rfl, r'⟩, .inl e2, r1.mono fun b w => .inl (.inr (.inl w))⟩
      | dbox ds =>
        cases e
        obtain ⟨a, vs, e1, e2, r1⟩ := q
        rw [r'] at e1
        cases e1
        show Rep _ _ _ (.dict ds) _
        simp only [Rep]
        exact ⟨a, vs, rfl, G.apart i a ⟨_, es, rfl, r'⟩, e2, r1.mono fun b w => .inl (.inr (.inl w))⟩
      | brw d =>
        cases e
        obtain ⟨u, e1, r1⟩ := q
        rw [r'] at e1
        cases e1
        exact brw_pass G r1
      | cell n =>
        cases e
        obtain ⟨a, e1, e2⟩ := q
        rw [r'] at e2
        cases e2
        exact ⟨a, e1, rfl⟩
theorem fin_all (G : Good F C Z0 s σ H) : ∀ {ps : List Pre} {xs : List Arg} {vs : List V}, finArgs s ps = some xs → PreReps F C s σ H ps vs → ArgsOk (calleeFr G) H xs vs
  | [], xs, vs, e, r => by
    cases e
    exact r
  | p :: ps, xs, vs, e, r => by
    obtain ⟨x, e1, e⟩ := Option.bind_eq_some_iff.mp e
    obtain ⟨ys, e2, rfl⟩ := Option.map_eq_some_iff.mp e
    obtain ⟨v, us, ev, r1, r2⟩ := r
    exact ⟨v, us, ev, fin_one G e1 r1, fin_all G e2 r2⟩
theorem ArgsOk.ok_len {xs : List Arg} {ps : List Pre} (e : finArgs s ps = some xs) : xs.length = ps.length := by
  induction ps generalizing xs with
  | nil => cases e; rfl
  | cons p ps ih =>
    obtain ⟨x, e1, e⟩ := Option.bind_eq_some_iff.mp e
    obtain ⟨ys, e2, rfl⟩ := Option.map_eq_some_iff.mp e
    simp [ih e2]
end

section
variable {X : Cx} {a e : Expr} {es : List Expr} {pos : Pos}
def nilP (s : State) : Option (List Pre × State) := some ([], s)
def consP (f : State → Option (Pre × State)) (g : State → Option (List Pre × State)) (s : State) : Option (List Pre × State) := (f s).bind fun p => (g p.2).map fun r => (p.1 :: r.1, r.2)
theorem sa_nil : SArgL X [] nilP :=
  ⟨_, pa_nil, fun F C s σ H Q ds s' hK G e q => by cases e; exact q [] C H (Aft.refl G) rfl⟩
theorem sa_cons {f : State → Option (Pre × State)} {g : State → Option (List Pre × State)} (ha : SPre X a f) (hs : isStar a = false) (hr : SArgL X es g) : SArgL X (a :: es) (consP f g) := by
  obtain ⟨t, pt, q0⟩ := ha
  obtain ⟨t', pt', q1⟩ := hr
  refine ⟨_, pa_cons pt pt' (star1 hs), fun F C s σ H Q ds s' hK G e q => ?_⟩
  obtain ⟨⟨p, s1⟩, h1, h⟩ := Option.bind_eq_some_iff.mp e
  obtain ⟨⟨ps, s2⟩, h2, h⟩ := Option.map_eq_some_iff.mp h
  cases h
  refine q0 F C s σ H _ p s1 hK G h1 fun v C1 H1 a1 r1 => ?_
  exact q1 F C1 s1 σ H1 _ ps s2 hK a1.1 h2 fun vs C2 H2 a2 r2 => q (v :: vs) C2 H2 (a1.trans a2) ⟨v, vs, rfl, r1.aft a2, r2⟩
def SArgK (X : Cx) (kws : List Keyword) (f : State → Option (List Pre × State)) : Prop := ∃ t : TA, PK X kws t ∧ ∀ F C s σ H Q ps s', F.K = X.K → Good F C Z0 s σ H → f s = some (ps, s') →
  (∀ vs C' H', Aft F C s σ H C' s' H' → PreReps F C' s' σ H' ps vs → Q vs H') → t σ H Q
theorem sk_nil : SArgK X [] nilP :=
  ⟨_, pk_nil, fun F C s σ H Q ds s' hK G e q => by cases e; exact q [] C H (Aft.refl G) rfl⟩
theorem sk_cons {nm : Option Str} {kpos : Pos} {kws : List Keyword} {f : State → Option (Pre × State)} {g : State → Option (List Pre × State)} (ha : SPre X a f) (hr : SArgK X kws g) : SArgK X (⟨nm, a, kpos⟩ :: kws) (consP f g) := by
  obtain ⟨t, pt, q0⟩ := ha
  obtain ⟨t', pt', q1⟩ := hr
  refine ⟨_, pk_cons pt pt', fun F C s σ H Q ds s' hK G e q => ?_⟩
  obtain ⟨⟨p, s1⟩, h1, h⟩ := Option.bind_eq_some_iff.mp e
  obtain ⟨⟨ps, s2⟩, h2, h⟩ := Option.map_eq_some_iff.mp h
  cases h
  refine q0 F C s σ H _ p s1 hK G h1 fun v C1 H1 a1 r1 => ?_
  exact q1 F C1 s1 σ H1 _ ps s2 hK a1.1 h2 fun vs C2 H2 a2 r2 => q (v :: vs) C2 H2 (a1.trans a2) ⟨v, vs, rfl, r1.aft a2, r2⟩

/-! ### the callee runs -/
theorem run_g {pins : List (Addr × Obj)} {s : Shared} {σ : L2.St} {H : Hp} {Q : VK} {k : Nat} {f : Addr} {fd : FuncData} {ps : List Str} {fs : FSem} {us : List Value} {pos : List Value} {kw : List (Str × Value)} {vs : List V}
    (Fg : FnG X.prog X.w X.K X.mg X.base k f fd ps fs) (hr : Room k X.A) (hg : X.A.guards = some []) (I : Inv X pins σ H s) (hb : BindsTo s fd ⟨pos, kw⟩ (ps.zip us)) (r : Vals vs us) (h : spOf X.K ps.length fs vs H Q) :
    wpAny (model X.prog X.w) X.A (call (.ref f) pos kw) (EP X pins σ Q) X.xe s := by
  refine wpAny_call (codeAny_mono (Fg.run X.A X.stack s H ⟨pos, kw⟩ us vs Q hg hr I.env0 hb r h) fun r s' hq => ?_)
  cases r with
  | error e => exact False.elim hq
  | ok fl =>
    cases fl with
    | ret u => exact I.after hq
    | next => exact False.elim hq
    | brk => exact False.elim hq
    | cont => exact False.elim hq

/-- what a call asks of the values, from the frame of the caller -/
def callT (fs : FSem) (np : Nat) (K : PySem.W.Frag) (g : List V → List V) (t : TA) : TE := fun σ H Q => t σ H fun vs H1 => spOf K np fs (g vs) H1 Q
theorem pe_g {x : Str} {k np : Nat} {kwl : List KwPat} {fs : FSem} {p : Pos} {t : TA} (fa : FnAt X.prog X.w X.K X.mg X.base k x np kwl fs) (hr : Room k X.A) (hgu : X.A.guards = some []) (hg : Gl X x) (hdb : (x == ("__debug__" : Str)) = false)
    (ha : PA X (e :: es) t) (he : ∀ y ∈ e :: es, isStar y = false) : PE X (.Call (.Name x p) (e :: es) [] pos) (callT fs np X.K id t) := by
  obtain ⟨f, fd, ps, hm, hk, hl, hb, _, Fg⟩ := fa
  refine ⟨fun pins s σ H Q I h => ?_⟩
  refine wpAny_Call_Name_kw (ld_glob I hg hm ?_ hdb)
  refine PySem.W.callWith_K (h₀ := X.base) I.ok.mod.kin hk (thn (ha.run pos pins s σ H _ I h) fun us s1 ⟨vs, H1, I1, r, q⟩ => ⟨I1.kIn, ?_⟩) (star1 (he e (List.mem_cons_self ..))) (stars_none fun y hy => he y (List.mem_cons_of_mem _ hy))
  subst hl
  have l1 : vs.length = ps.length := q.len
  have b := hb s1 us I1.kIn (by rw [List.append_nil, ← r.length]; exact l1)
  rw [List.append_nil] at b
  exact run_g Fg hr hgu I1 b r q
theorem pe_g0 {x : Str} {k : Nat} {kwl : List KwPat} {fs : FSem} {p : Pos} (fa : FnAt X.prog X.w X.K X.mg X.base k x 0 kwl fs) (hr : Room k X.A) (hgu : X.A.guards = some []) (hg : Gl X x) (hdb : (x == ("__debug__" : Str)) = false) :
    PE X (.Call (.Name x p) [] [] pos) (callT fs 0 X.K id tNil) := by
  obtain ⟨f, fd, ps, hm, hk, hl, hb, _, Fg⟩ := fa
  refine ⟨fun pins s σ H Q I h => ?_⟩
  refine wpAny_Call_Name_kw (ld_glob I hg hm ?_ hdb)
  have b := hb s [] I.kIn (by simp [hl])
  refine PySem.W.callWith_K0 I.kIn hk (run_g (us := []) Fg hr hgu I b .nil ?_)
  rw [hl]
  exact h
theorem Vals.get {vs : List V} {us : List Value} (r : Vals vs us) : ∀ i : Nat, (vs[i]?.isSome = us[i]?.isSome) ∧ ∀ v u, vs[i]? = some v → us[i]? = some u → RelV v u := by
  induction r with
  | nil => intro i; simp
  | cons h r ih =>
    intro i
    cases i with
    | zero => simp; exact h
    | succ i => simpa using ih i
theorem Vals.perm {vs : List V} {us : List Value} (r : Vals vs us) : ∀ idx : List Nat, Vals (perm idx vs) (perm idx us)
  | [] => .nil
  | i :: idx => by
    have g := Vals.get r i
    unfold IR.perm
    rw [List.filterMap_cons, List.filterMap_cons]
    cases h1 : vs[i]? with
    | none =>
      cases h2 : us[i]? with
      | none => exact Vals.perm r idx
      | some u => rw [h1, h2] at g; cases g.1
    | some v =>
      cases h2 : us[i]? with
      | none => rw [h1, h2] at g; cases g.1
      | some u => exact .cons (g.2 v u h1 h2) (Vals.perm r idx)
def callTK (fs : FSem) (np : Nat) (K : PySem.W.Frag) (q0 : KwPat) (t : TA) : TE := fun σ H Q => t σ H fun vs H1 => vs.length = q0.ks.length ∧ spOf K np fs (perm q0.idx vs) H1 Q
theorem pe_gk {x : Str} {k np : Nat} {kwl : List KwPat} {fs : FSem} {p : Pos} {t : TA} {kws : List Keyword} {q0 : KwPat} (fa : FnAt X.prog X.w X.K X.mg X.base k x np kwl fs) (hq0 : q0 ∈ kwl) (hr : Room k X.A) (hgu : X.A.guards = some []) (hg : Gl X x) (hdb : (x == ("__debug__" : Str)) = false)
    (hkw : PK X kws t) (hall : (backToKw pos (keywordEach kws X.env)).all (·.1.isSome) = true) (hks : (backToKw pos (keywordEach kws X.env)).filterMap (·.1) = q0.ks)
    (hpl : ((backTo pos (starEach [] X.env)).any (·.1) || (backToKw pos (keywordEach kws X.env)).any (·.1.isNone)) = false) : PE X (.Call (.Name x p) [] kws pos) (callTK fs np X.K q0 t) := by
  obtain ⟨f, fd, ps, hm, hk, hl, _, hb, Fg⟩ := fa
  refine ⟨fun pins s σ H Q I h => ?_⟩
  refine wpAny_Call_Name_kw (ld_glob I hg hm ?_ hdb)
  refine PySem.W.callWith_KW0 (h₀ := X.base) I.ok.mod.kin hk hall (thn (hkw.run pos pins s σ H _ I h) fun ws s2 ⟨zs, H2, I2, rz, lz, q2⟩ => ⟨I2.kIn, ?_⟩) hpl
  subst hl
  have b := hb q0 hq0 ws (by rw [← rz.length, lz])
  rw [hks]
  exact run_g Fg hr hgu I2 (.of_eq b) (IR.Vals.perm rz q0.idx) q2

/-! ### what a call means -/
def callF (fs : FSem) (np : Nat) (fa : State → Option (List Pre × State)) (s : State) : Option (D × State) :=
  (fa s).bind fun p => (finArgs p.2 p.1).bind fun args => if args.length = np then (fs args p.2.cs).map fun r => (r.1, { p.2 with cs := r.2 }) else none
def callK (fs : FSem) (np : Nat) (q0 : KwPat) (fa : State → Option (List Pre × State)) (s : State) : Option (D × State) :=
  (fa s).bind fun p => (finArgs p.2 p.1).bind fun args => if args.length = q0.ks.length ∧ (perm q0.idx args).length = np then (fs (perm q0.idx args) p.2.cs).map fun r => (r.1, { p.2 with cs := r.2 }) else none
/-- the end of a call, in the caller -/
theorem spOf_call {F : Fr} {C : List Addr} {s : State} {σ : L2.St} {H : Hp} {K : PySem.W.Frag} (hK : F.K = K) (G : Good F C Z0 s σ H) {np : Nat} {fs : FSem} {args : List Arg} {vs : List V} {d : D} {cs' : Cells} {Q : VK} (hn : args.length = np) (e : fs args s.cs = some (d, cs'))
    (ha : ArgsOk (calleeFr G) H args vs) (q : ∀ v H', Aft F C s σ H C { s with cs := cs' } H' → Rep F.K (Wf F C s.env σ) H' d v → Q v H') : spOf K np fs vs H Q := by
  refine ⟨calleeFr G, args, s.cs, d, cs', hK, rfl, hn, e, G.cell, G.cnd, ha, fun v H' hk hc r => ?_⟩
  obtain ⟨G1, st⟩ := G.called0 hk hc
  refine q v H' ⟨G1, st⟩ ?_
  rw [← hK] at r
  exact r.mono fun a w => .inl w
theorem ArgsOk.perm {F : Fr} {H : Hp} {xs : List Arg} {vs : List V} (h : ArgsOk F H xs vs) : ∀ idx : List Nat, ArgsOk F H (IR.perm idx xs) (IR.perm idx vs)
  | [] => rfl
  | i :: idx => by
    unfold IR.perm
    rw [List.filterMap_cons, List.filterMap_cons]
    cases h1 : xs[i]? with
    | none =>
      have h2 : vs[i]? = none := by
        rw [List.getElem?_eq_none_iff] at h1 ⊢
        rw [h.length]
        exact h1
      rw [h2]
      exact ArgsOk.perm h idx
    | some x =>
      obtain ⟨v, h2, r⟩ := h.get h1
      rw [h2]
      exact ⟨v, _, rfl, r, ArgsOk.perm h idx⟩
theorem sv_call {N : List Str} {S : Sco} {k k' np : Nat} {kwl : List KwPat} {x : Str} {fs : FSem} {p : Pos} {f : State → Option (List Pre × State)} (cx : CtxOk X N S k) (fa : FnAt X.prog X.w X.K X.mg X.base k' x np kwl fs) (hk : k' ≤ k) (hg : Gl X x) (hdb : (x == ("__debug__" : Str)) = false)
    (ha : SArgL X (e :: es) f) (he : ∀ y ∈ e :: es, isStar y = false) : SVal X (.Call (.Name x p) (e :: es) [] pos) (callF fs np f) := by
  obtain ⟨t, pt, q0⟩ := ha
  refine ⟨_, pe_g fa (cx.room.mono hk) cx.guards hg hdb pt he, fun F C s σ H Q d s' hK G e q => ?_⟩
  obtain ⟨⟨ps, s1⟩, h1, h⟩ := Option.bind_eq_some_iff.mp e
  obtain ⟨args, h2, h⟩ := Option.bind_eq_some_iff.mp h
  split at h
  · obtain ⟨⟨d', cs'⟩, h3, h⟩ := Option.map_eq_some_iff.mp h
    cases h
    refine q0 F C s σ H _ ps s1 hK G h1 fun vs C1 H1 a1 r1 => ?_
    exact spOf_call hK a1.1 (by assumption) h3 (fin_all a1.1 h2 r1) fun v H' a2 r2 => q v C1 H' (a1.trans a2) r2
  · cases h
theorem sv_call0 {N : List Str} {S : Sco} {k k' : Nat} {kwl : List KwPat} {x : Str} {fs : FSem} {p : Pos} (cx : CtxOk X N S k) (fa : FnAt X.prog X.w X.K X.mg X.base k' x 0 kwl fs) (hk : k' ≤ k) (hg : Gl X x) (hdb : (x == ("__debug__" : Str)) = false) :
    SVal X (.Call (.Name x p) [] [] pos) (callF fs 0 nilP) := by
  refine ⟨_, pe_g0 fa (cx.room.mono hk) cx.guards hg hdb, fun F C s σ H Q d s' hK G e q => ?_⟩
  obtain ⟨⟨ps, s1⟩, h1, h⟩ := Option.bind_eq_some_iff.mp e
  cases h1
  obtain ⟨args, h2, h⟩ := Option.bind_eq_some_iff.mp h
  cases h2
  obtain ⟨⟨d', cs'⟩, h3, h⟩ := Option.map_eq_some_iff.mp (show (fs [] s.cs).map _ = _ from h)
  cases h
  exact spOf_call hK G rfl h3 rfl fun v H' a2 r2 => q v C H' a2 r2
theorem sv_callk {N : List Str} {S : Sco} {k k' np : Nat} {kwl : List KwPat} {x : Str} {fs : FSem} {p : Pos} {kws : List Keyword} {q0 : KwPat} {f : State → Option (List Pre × State)} (cx : CtxOk X N S k) (fa : FnAt X.prog X.w X.K X.mg X.base k' x np kwl fs) (hq0 : q0 ∈ kwl) (hk : k' ≤ k) (hg : Gl X x) (hdb : (x == ("__debug__" : Str)) = false)
    (ha : SArgK X kws f) (hall : (backToKw pos (keywordEach kws X.env)).all (·.1.isSome) = true) (hks : (backToKw pos (keywordEach kws X.env)).filterMap (·.1) = q0.ks)
    (hpl : ((backTo pos (starEach [] X.env)).any (·.1) || (backToKw pos (keywordEach kws X.env)).any (·.1.isNone)) = false) : SVal X (.Call (.Name x p) [] kws pos) (callK fs np q0 f) := by
  obtain ⟨t, pt, q1⟩ := ha
  refine ⟨_, pe_gk fa hq0 (cx.room.mono hk) cx.guards hg hdb pt hall hks hpl, fun F C s σ H Q d s' hK G e q => ?_⟩
  obtain ⟨⟨ps, s1⟩, h1, h⟩ := Option.bind_eq_some_iff.mp e
  obtain ⟨args, h2, h⟩ := Option.bind_eq_some_iff.mp h
  split at h
  · rename_i hn
    obtain ⟨⟨d', cs'⟩, h3, h⟩ := Option.map_eq_some_iff.mp h
    cases h
    refine q1 F C s σ H _ ps s1 hK G h1 fun vs C1 H1 a1 r1 => ?_
    have ao := fin_all a1.1 h2 r1
    refine ⟨by rw [ao.length]; exact hn.1, ?_⟩
    exact spOf_call hK a1.1 hn.2 h3 (ao.perm q0.idx) fun v H' a2 r2 => q v C1 H' (a1.trans a2) r2
  · cases h

/-! ### a call whose answer is a list of its own -/
def lfArg : Arg → Bool
  | .val d => lf d
  | .brw _ => true
  | .cell _ => true
def callL (fs : FSem) (np : Nat) (fa : State → Option (List Pre × State)) (s : State) : Option (List D × State) :=
  (fa s).bind fun p => (finArgs p.2 p.1).bind fun args => if args.length = np ∧ args.all lfArg = true then (fs args p.2.cs).bind fun r => match r.1 with
    | .list ds => if lfAll ds then some (ds, { p.2 with cs := r.2 }) else none
    | _ => none else none
def ownFr (F : Fr) {C : List Addr} {s : State} {σ : L2.St} {H : Hp} (G : Good F C Z0 s σ H) : Fr where
  K := F.K
  W0 := fun a => mutk (H a)
  H0 := H
  C0 := C
  w0 := fun a w => w
  c0 := fun a h => G.mut (.inr (.inl h))
theorem ArgsOk.own {F : Fr} {C : List Addr} {s : State} {σ : L2.St} {H : Hp} (G : Good F C Z0 s σ H) : ∀ {xs : List Arg} {vs : List V}, ArgsOk (calleeFr G) H xs vs → xs.all lfArg = true → ArgsOk (ownFr F G) H xs vs
  | [], vs, h, _ => h
  | x :: xs, vs, h, l => by
    obtain ⟨v, r, e, h1, h2⟩ := h
    rw [List.all_cons, Bool.and_eq_true] at l
    refine ⟨v, r, e, ?_, ArgsOk.own G h2 l.2⟩
    cases x with
    | val d =>
      refine Rep.lf (fun a o u e => ⟨e, fun z => ?_⟩) d v l.1 h1
      rcases z with z | z
      · have z' : mutk (H a) := z
        rw [e] at z'
        exact z'
      · exact G.tup e (.inr (.inl z))
    | brw d => exact h1
    | cell n => exact h1
theorem spOf_own {F : Fr} {C : List Addr} {s : State} {σ : L2.St} {H : Hp} {K : PySem.W.Frag} (hK : F.K = K) (G : Good F C Z0 s σ H) {np : Nat} {fs : FSem} {args : List Arg} {vs : List V} {ds : List D} {cs' : Cells} {Q : VK} (hn : args.length = np) (e : fs args s.cs = some (.list ds, cs'))
    (ha : ArgsOk (calleeFr G) H args vs) (hl : args.all lfArg = true) (hd : lfAll ds = true) (q : ∀ p us H', Fresh F C s σ H C { s with cs := cs' } H' p → H' p = some (.lst us) → RepL F.K (fun a => Wf F C s.env σ a ∨ a = p) H' ds us → Q (.ref p) H') : spOf K np fs vs H Q := by
  refine ⟨ownFr F G, args, s.cs, .list ds, cs', hK, rfl, hn, e, G.cell, G.cnd, ha.own G hl, fun v H' hk hc r => ?_⟩
  simp only [Rep] at r
  obtain ⟨p, us, rfl, n, hp, rl⟩ := r
  have hp0 : H p = none := by
    cases ho : H p with
    | none => rfl
    | some o =>
      have e1 := hk p o ho fun z => n (.inr z)
      rw [hp] at e1
      cases e1
      exact absurd (show mutk (H p) by rw [ho]; trivial) fun z => n (.inl z)
  obtain ⟨G1, st⟩ := G.called (Z' := fun a => a = p) (fun a z => by rw [z]; exact hp0) hk hc
  obtain ⟨G0, _⟩ := G.called0 hk hc
  have f : Fresh F C s σ H C { s with cs := cs' } H' p := ⟨G1, st, G.nw hp0, G.h0 hp0⟩
  refine q p us H' f hp ?_
  rw [← hK] at rl
  refine RepL.lf (fun a o u e => ⟨e, fun z => ?_⟩) ds us hd rl
  rcases z with z | z
  · exact G0.tup e z
  · rw [z, hp] at e
    cases e
theorem sf_call {N : List Str} {S : Sco} {k k' np : Nat} {kwl : List KwPat} {x : Str} {fs : FSem} {p : Pos} {f : State → Option (List Pre × State)} (cx : CtxOk X N S k) (fa : FnAt X.prog X.w X.K X.mg X.base k' x np kwl fs) (hk : k' ≤ k) (hg : Gl X x) (hdb : (x == ("__debug__" : Str)) = false)
    (ha : SArgL X (e :: es) f) (he : ∀ y ∈ e :: es, isStar y = false) : SFr X (.Call (.Name x p) (e :: es) [] pos) (callL fs np f) := by
  obtain ⟨t, pt, q0⟩ := ha
  refine ⟨_, pe_g fa (cx.room.mono hk) cx.guards hg hdb pt he, fun F C s σ H Q d s' hK G e q => ?_⟩
  obtain ⟨⟨ps, s1⟩, h1, h⟩ := Option.bind_eq_some_iff.mp e
  obtain ⟨args, h2, h⟩ := Option.bind_eq_some_iff.mp h
  split at h
  · rename_i hn
    obtain ⟨⟨d', cs'⟩, h3, h⟩ := Option.bind_eq_some_iff.mp h
    cases d' with
    | list ds =>
      simp only at h
      split at h
      · cases h
        refine q0 F C s σ H _ ps s1 hK G h1 fun vs C1 H1 a1 r1 => ?_
        exact spOf_own hK a1.1 hn.1 h3 (fin_all a1.1 h2 r1) hn.2 (by assumption) fun p us H' f hp rl => q p us C1 H' (f.after a1) hp rl
      · cases h
    | _ => cases h
  · cases h
/-- f(e), where e is a new list of ints: it is from then on a cell -/
def callC (fs : FSem) (fa : State → Option (List D × State)) (s : State) : Option (D × State) :=
  (fa s).bind fun p => (allInts p.1).bind fun ns => (fs [.cell p.2.cs.length] (p.2.cs ++ [ns])).map fun r => (r.1, { p.2 with cs := r.2 })
theorem sv_callC {N : List Str} {S : Sco} {k k' : Nat} {kwl : List KwPat} {x : Str} {fs : FSem} {p : Pos} {f : State → Option (List D × State)} (cx : CtxOk X N S k) (fa : FnAt X.prog X.w X.K X.mg X.base k' x 1 kwl fs) (hk : k' ≤ k) (hg : Gl X x) (hdb : (x == ("__debug__" : Str)) = false)
    (ha : SFr X e f) (he : isStar e = false) : SVal X (.Call (.Name x p) [e] [] pos) (callC fs f) := by
  obtain ⟨t, pt, q0⟩ := ha
  refine ⟨_, pe_g fa (cx.room.mono hk) cx.guards hg hdb (pa_cons pt pa_nil (star1 he)) (fun y hy => by cases hy with | head => exact he | tail _ h => cases h), fun F C s σ H Q d s' hK G e q => ?_⟩
  obtain ⟨⟨ds, s1⟩, h1, h⟩ := Option.bind_eq_some_iff.mp e
  obtain ⟨ns, h2, h⟩ := Option.bind_eq_some_iff.mp h
  obtain ⟨⟨d', cs'⟩, h3, h⟩ := Option.map_eq_some_iff.mp h
  cases h
  refine q0 F C s σ H _ ds s1 hK G h1 fun p vs C1 H1 f1 hp rl => ?_
  have ev := rl.intsOf h2
  subst ev
  obtain ⟨G2, hc, wf⟩ := f1.1.newcell (ns := ns) f1.2.2.1 f1.2.2.2 hp
  refine spOf_call (s := { s1 with cs := s1.cs ++ [ns] }) hK G2 rfl h3 ⟨_, [], rfl, ⟨p, hc, rfl⟩, rfl⟩ fun v H' a2 r2 => ?_
  refine q v (C1 ++ [p]) H' ⟨a2.1, fun a o e n => ?_⟩ r2
  obtain ⟨e2, n2⟩ := f1.2.1 a o e n
  exact a2.2 a o e2 fun w => n2 (wf a w)
end
end IR

end
section
/-! Ir10: names by their scope; frames within frames; targets; what is walked. -/
namespace IR
open PySem PySem.Spec PyProof.Rows L2

/-! ### names -/
def visB (sc : Scope) (x : Str) : Bool := match sc.names.lookup x with
  | some .local => true
  | some .cell => true
  | some .free => true
  | _ => false
def locB (sc : Scope) (x : Str) : Bool := match sc.names.lookup x with
  | some .local => true
  | some .cell => true
  | _ => false
def localB (sc : Scope) (x : Str) : Bool := match sc.names.lookup x with
  | some .local => true
  | _ => false
def glB (sc : Scope) (x : Str) : Bool := match sc.names.lookup x with
  | some .globalImplicit => true
  | _ => false
section
variable {X : Cx} {N : List Str} {S : Sco} {k : Nat}
theorem CtxOk.vis (cx : CtxOk X N S k) {x : Str} (h : visB S.sc x = true) : L2.Vis X.env.scope x := by
  unfold visB at h
  unfold L2.Vis
  rw [cx.sc]
  split at h <;> first | exact .inl (by assumption) | exact .inr (.inl (by assumption)) | exact .inr (.inr (by assumption)) | cases h
theorem CtxOk.loc (cx : CtxOk X N S k) {x : Str} (h : locB S.sc x = true) : L2.Loc X.env.scope x := by
  unfold locB at h
  unfold L2.Loc
  rw [cx.sc]
  split at h <;> first | exact .inl (by assumption) | exact .inr (by assumption) | cases h
theorem CtxOk.local (cx : CtxOk X N S k) {x : Str} (h : localB S.sc x = true) : X.env.scope.names.lookup x = some .local := by
  unfold localB at h
  rw [cx.sc]
  split at h <;> first | assumption | cases h
theorem CtxOk.gl (cx : CtxOk X N S k) {x : Str} (h : glB S.sc x = true) : Gl X x := by
  unfold glB at h
  show X.env.scope.names.lookup x = some .globalImplicit
  rw [cx.sc]
  split at h <;> first | assumption | cases h
theorem CtxOk.nm (cx : CtxOk X N S k) {i : Nat} {x : Str} (h : N[i]? = some x) : X.N[i]? = some x := by
  rw [cx.n]
  exact h
theorem CtxOk.ndX (cx : CtxOk X N S k) : X.N.Nodup := by
  rw [cx.n]
  exact cx.nd
theorem CtxOk.fnOr (cx : CtxOk X N S k) {x : Str} (h : (S.fn x || localB S.sc x) = true) : X.fn x = true ∨ X.env.scope.names.lookup x = some .local := by
  rcases Bool.or_eq_true _ _ ▸ h with h | h
  · exact .inl (cx.fn x h)
  · exact .inr (cx.local h)
/-- the block of a comprehension -/
def Sco.blk (S : Sco) (scope : Scope) : Sco := ⟨relS scope S.sc, fun x => scope.names.lookup x == some .cell⟩
theorem CtxOk.blk (cx : CtxOk X N S k) (s : Shared) (H : Hp) (scope : Scope) (C : Addr) (cl : List (Str × Addr)) (fp : List Addr) : CtxOk (X.blk s H scope (compEnvC scope cl C X.env) fp) N (S.blk scope) k where
  n := cx.n
  nd := cx.nd
  sc := by
    show relS scope X.env.scope = relS scope S.sc
    rw [cx.sc]
  fn := fun x h => h
  calm := cx.calm
  xe := rfl
  room := cx.room
  guards := cx.guards
  blt := cx.blt
theorem CtxOk.u65 (cx : CtxOk X N S k) : X.A.units + 65 < cLine := by have := cx.room.un; omega
theorem CtxOk.u1 (cx : CtxOk X N S k) : X.A.units + 1 < cLine := by have := cx.room.un; omega
end

/-! ### a frame within a frame: what stands is read only -/
def subSlot : Slot → Slot
  | .box ds => .brw (.list ds)
  | .dbox kvs => .brw (.dict kvs)
  | sl => sl
def wipeE (env : List Slot) : List Nat → List Slot
  | [] => env
  | v :: vs => (wipeE env vs).set v .emp
def subS (vs : List Nat) (s : State) : State := ⟨wipeE (s.env.map subSlot) vs, s.cs⟩
theorem wipeE_len (env : List Slot) : ∀ vs : List Nat, (wipeE env vs).length = env.length
  | [] => rfl
  | v :: vs => by unfold wipeE; rw [List.length_set, wipeE_len env vs]
theorem wipeE_get {env : List Slot} {i : Nat} {sl : Slot} : ∀ {vs : List Nat}, (wipeE env vs)[i]? = some sl → sl = .emp ∨ (env[i]? = some sl ∧ i ∉ vs)
  | [], h => .inr ⟨h, by simp⟩
  | v :: vs, h => by
    unfold wipeE at h
    by_cases e : v = i
    · subst e
      rw [List.getElem?_set] at h
      simp only [if_true] at h
      split at h
      · cases h
        exact .inl rfl
      · cases h
    · rw [List.getElem?_set_ne e] at h
      rcases wipeE_get h with h | ⟨h, n⟩
      · exact .inl h
      · refine .inr ⟨h, fun z => ?_⟩
        rcases List.mem_cons.mp z with z | z
        · exact e z.symm
        · exact n z
theorem wipe_get {σ : L2.St} {i : Nat} : ∀ {vs : List Nat}, i ∉ vs → (wipe σ vs)[i]? = σ[i]?
  | [], _ => rfl
  | v :: vs, h => by
    unfold wipe
    rw [List.getElem?_set_ne (fun z => h (by simp [z])), wipe_get fun z => h (List.mem_cons_of_mem _ z)]
section
variable {F : Fr} {C C' : List Addr} {Z Z' : Addr → Prop} {s s' s2 : State} {σ σ2 : L2.St} {H H' : Hp}
def subFr (G : Good F C Z s σ H) (hz : ∀ a, Z a → mutk (H a)) : Fr where
  K := F.K
  W0 := fun a => Wf F C s.env σ a ∨ Z a
  H0 := H
  C0 := C
  w0 := fun a w => w.elim G.mut (hz a)
  c0 := fun a h => G.mut (.inr (.inl h))
theorem noBx {vs : List Nat} {env : List Slot} {i : Nat} {a : Addr} : ¬ bxAt (wipeE (env.map subSlot) vs) σ i a := by
  rintro ⟨sl, e1, e2, _⟩
  rcases wipeE_get e1 with h | ⟨h, _⟩
  · subst h
    cases e2
  · rw [List.getElem?_map] at h
    obtain ⟨x, _, ex⟩ := Option.map_eq_some_iff.mp h
    subst ex
    cases x <;> cases e2
theorem Good.sub (G : Good F C Z s σ H) (hz : ∀ a, Z a → mutk (H a)) (vs : List Nat) : Good (subFr G hz) C Z0 (subS vs s) (wipe σ vs) H := by
  have wf : ∀ a, Wf (subFr G hz) C (subS vs s).env (wipe σ vs) a → Wf F C s.env σ a ∨ Z a := fun a w => by
    rcases w with w | w | ⟨j, w⟩
    · exact w
    · exact .inl (.inr (.inl w))
    · exact absurd w noBx
  refine ⟨?_, fun i sl e => ?_, G.cell, G.cnd, ⟨[], by simp [subFr], fun a z => nomatch z⟩, fun i j a h => absurd h noBx, fun i a h => absurd h noBx, fun i a h => absurd h noBx, fun a o e _ => e⟩
  · show (wipeE (s.env.map subSlot) vs).length = (wipe σ vs).length
    rw [wipeE_len, List.length_map, wipe_length]
    exact G.len
  · have e' : (wipeE (s.env.map subSlot) vs)[i]? = some sl := e
    rcases wipeE_get e' with z | ⟨e1, ni⟩
    · subst z
      trivial
    · rw [List.getElem?_map] at e1
      obtain ⟨x, ex, exx⟩ := Option.map_eq_some_iff.mp e1
      subst exx
      have q := G.slot i x ex
      have ew := wipe_get (σ := σ) ni
      have mono : ∀ a, (Wf (subFr G hz) C (subS vs s).env (wipe σ vs) a ∨ Z0 a) → Wf F C s.env σ a ∨ Z a := fun a w => w.elim (wf a) fun z => z.elim
      cases x with
      | emp => trivial
      | val d =>
        obtain ⟨v, e1, r⟩ := q
        exact ⟨v, ew.trans e1, r.mono mono⟩
      | box ds =>
        obtain ⟨a, us, e1, e2, r⟩ := q
        exact ⟨.ref a, ew.trans e1, a, us, rfl, G.apart i a ⟨_, ex, rfl, e1⟩, .inl e2, r.mono fun b w => .inl (.inr (.inl w))⟩
      | dbox ds =>
        obtain ⟨a, us, e1, e2, r⟩ := q
        refine ⟨.ref a, ew.trans e1, ?_⟩
        show Rep _ _ _ (.dict ds) _
        simp only [Rep]
        exact ⟨a, us, rfl, G.apart i a ⟨_, ex, rfl, e1⟩, e2, r.mono fun b w => .inl (.inr (.inl w))⟩
      | brw d =>
        obtain ⟨v, e1, r⟩ := q
        refine ⟨v, ew.trans e1, ?_⟩
        have st : Stp (fun a => a ∈ F.C0) F.H0 (fun a => a ∈ C) H := fun a o e n => by
          refine ⟨G.ext a o e n, fun z => ?_⟩
          obtain ⟨r, er, hr⟩ := G.cpre
          rw [er] at z
          rcases List.mem_append.mp z with z | z
          · exact n z
          · rw [hr a z] at e
            cases e
        exact r.stp st
      | cell n =>
        obtain ⟨a, e1, e2⟩ := q
        exact ⟨a, e1, ew.trans e2⟩
/-- back in the outer frame: its names are as they were; Z' is what has come from within -/
theorem Good.back (G : Good F C Z s σ H) (hz : ∀ a, Z a → mutk (H a)) (h0 : ∀ a, Z a → ¬ Wf F C s.env σ a ∧ F.H0 a = none) (G2 : Good (subFr G hz) C' Z' s2 σ2 H') (hz' : ∀ a, Z' a → H a = none) :
    Good F C' (fun a => Z a ∨ Z' a) ⟨s.env, s2.cs⟩ σ H' ∧ Stp (fun a => Wf F C s.env σ a ∨ Z a) H (fun a => Wf F C' s.env σ a ∨ Z a ∨ Z' a) H' ∧
      (∀ a, (Wf F C' s.env σ a ∨ Z a) → Wf (subFr G hz) C' s2.env σ2 a) ∧ (∀ a o, H a = some o → a ∉ C → H' a = some o) ∧ (∀ a, Z a → ¬ Wf F C' s.env σ a) := by
  obtain ⟨r, er, hr⟩ := G2.cpre
  have er : C' = C ++ r := er
  have hr : ∀ a ∈ r, H a = none := hr
  have wfo : ∀ a, Wf F C' s.env σ a → Wf F C s.env σ a ∨ a ∈ r := fun a w => by
    rcases w with w | w | w
    · exact .inl (.inl w)
    · rw [er] at w
      rcases List.mem_append.mp w with w | w
      · exact .inl (.inr (.inl w))
      · exact .inr w
    · exact .inl (.inr (.inr w))
  have wfi : ∀ a, (Wf F C' s.env σ a ∨ Z a) → Wf (subFr G hz) C' s2.env σ2 a := fun a w => by
    rcases w with w | w
    · rcases w with w | w | w
      · exact .inl (.inl (.inl w))
      · exact .inr (.inl w)
      · exact .inl (.inl (.inr (.inr w)))
    · exact .inl (.inr w)
  have ext : ∀ a o, H a = some o → a ∉ C → H' a = some o := G2.ext
  have st : Stp (fun a => Wf F C s.env σ a ∨ Z a) H (fun a => Wf F C' s.env σ a ∨ Z a ∨ Z' a) H' := fun a o e n => by
    refine ⟨ext a o e fun z => n (.inl (.inr (.inl z))), fun w => ?_⟩
    rcases w with w | w | w
    · rcases wfo a w with w | w
      · exact n (.inl w)
      · rw [hr a w] at e
        cases e
    · exact n (.inr w)
    · rw [hz' a w] at e
      cases e
  have zn : ∀ a, Z a → ¬ Wf F C' s.env σ a := fun a z w => by
    rcases wfo a w with w | w
    · exact (h0 a z).1 w
    · have q := hz a z
      rw [hr a w] at q
      exact q
  have st0 : Stp (fun a => Wf F C s.env σ a ∨ Z a) H (fun a => Wf F C' s.env σ a ∨ (Z a ∨ Z' a)) H' := st
  refine ⟨⟨G.len, fun i sl e => ?_, G2.cell, G2.cnd, ?_, G.sep, fun i a h => ?_, G.fresh, fun a o e n => ?_⟩, st, wfi, ext, zn⟩
  · have q := G.slot i sl e
    cases sl with
    | emp => trivial
    | val d =>
      obtain ⟨v, e1, r⟩ := q
      exact ⟨v, e1, r.stp st0 _ _⟩
    | box ds =>
      obtain ⟨a, us, e1, e2, r⟩ := q
      exact ⟨a, us, e1, ext a _ e2 (G.apart i a ⟨_, e, rfl, e1⟩), r.stp st0 _ _⟩
    | dbox ds =>
      obtain ⟨a, us, e1, e2, r⟩ := q
      exact ⟨a, us, e1, ext a _ e2 (G.apart i a ⟨_, e, rfl, e1⟩), r.stp st0 _ _⟩
    | brw d => exact q
    | cell n =>
      obtain ⟨a, e1, e2⟩ := q
      exact ⟨a, by rw [er, List.getElem?_append_left (List.getElem?_eq_some_iff.mp e1).1]; exact e1, e2⟩
  · obtain ⟨q, eq, hq⟩ := G.cpre
    refine ⟨q ++ r, by rw [er, eq, List.append_assoc], fun a ha => ?_⟩
    rcases List.mem_append.mp ha with ha | ha
    · exact hq a ha
    · exact G.h0 (hr a ha)
  · intro z
    rw [er] at z
    rcases List.mem_append.mp z with z | z
    · exact G.apart i a h z
    · have q := G.bx h
      rw [hr a z] at q
      exact q
  · refine ext a o (G.ext a o e n) fun z => ?_
    obtain ⟨q, eq, hq⟩ := G.cpre
    rw [eq] at z
    rcases List.mem_append.mp z with z | z
    · exact n z
    · rw [hq a z] at e
      cases e
end
end IR

end
section
/-! Ir11: targets; what is walked. -/
namespace IR
open PySem PySem.Spec PyProof.Rows L2

/-- what a loop hands out: a thing, or a new pair -/
inductive Item where
  | one (d : D)
  | two (a b : D)
def IRep (K : PySem.W.Frag) (W : Addr → Prop) (H : Hp) : Item → V → Prop
  | .one d, x => Rep K W H d x
  | .two a b, x => ∃ p v u, x = .ref p ∧ H p = some (.tup [v, u]) ∧ Rep K W H a v ∧ Rep K W H b u

theorem wipe_set (σ : L2.St) (i : Nat) (x : Option V) : ∀ vs : List Nat, (i ∈ vs → wipe (σ.set i x) vs = wipe σ vs) ∧ (i ∉ vs → wipe (σ.set i x) vs = (wipe σ vs).set i x)
  | [] => ⟨fun h => by simp at h, fun _ => rfl⟩
  | v :: vs => by
    obtain ⟨h1, h2⟩ := wipe_set σ i x vs
    refine ⟨fun h => ?_, fun h => ?_⟩
    · by_cases e : i ∈ vs
      · unfold wipe
        rw [h1 e]
      · have ev : i = v := by
          rcases List.mem_cons.mp h with z | z
          · exact z
          · exact absurd z e
        unfold wipe
        rw [h2 e, ev, List.set_set]
    · have n1 : i ≠ v := fun z => h (by simp [z])
      have n2 : i ∉ vs := fun z => h (List.mem_cons_of_mem _ z)
      unfold wipe
      rw [h2 n2, List.set_comm _ _ (Ne.symm n1).symm]

def Wiped (σ σ' : L2.St) (ts : List Nat) : Prop := ∀ vs : List Nat, (∀ i ∈ ts, i ∈ vs) → wipe σ' vs = wipe σ vs
theorem Wiped.refl {σ : L2.St} : Wiped σ σ [] := fun _ _ => rfl
theorem Wiped.trans {σ σ1 σ2 : L2.St} {ts us : List Nat} (a : Wiped σ σ1 ts) (b : Wiped σ1 σ2 us) : Wiped σ σ2 (ts ++ us) := fun vs h =>
  (b vs fun i hi => h i (List.mem_append_right _ hi)).trans (a vs fun i hi => h i (List.mem_append_left _ hi))
def STg (X : Cx) (tg : Expr) (ts : List Nat) (g : Item → State → Option State) : Prop := ∃ t : TG, PG X tg t ∧ ∀ F C s σ H it x s' Q, F.K = X.K → Good F C Z0 s σ H → IRep F.K (Wf F C s.env σ) H it x → g it s = some s' →
  (∀ σ', Good F C Z0 s' σ' H → Stp (Wf F C s.env σ) H (Wf F C s'.env σ') H → Wiped σ σ' ts → Q σ' H) → t x σ H Q
def STgs (X : Cx) (es : List Expr) (ts : List Nat) (g : List D → State → Option State) : Prop := ∃ t : TGs, PGs X es t ∧ ∀ F C s σ H ds xs s' Q, F.K = X.K → Good F C Z0 s σ H → RepL F.K (Wf F C s.env σ) H ds xs → g ds s = some s' →
  (∀ σ', Good F C Z0 s' σ' H → Stp (Wf F C s.env σ) H (Wf F C s'.env σ') H → Wiped σ σ' ts → Q σ' H) → t xs σ H Q

def setV (i : Nat) (d : D) (s : State) : State := { s with env := s.env.set i (.val d) }
theorem wf_setV {F : Fr} {C : List Addr} {s : State} {σ : L2.St} {i : Nat} {d : D} {o : Option V} {a : Addr} (w : Wf F C (setV i d s).env (σ.set i o) a) : Wf F C s.env σ a := by
  rcases w with w | w | ⟨j, w⟩
  · exact .inl w
  · exact .inr (.inl w)
  · rcases bxAt_set w with ⟨_, w⟩ | ⟨_, z, _⟩
    · exact .inr (.inr ⟨j, w⟩)
    · cases z
def isStarT : Expr → Bool
  | .Starred _ _ => true
  | _ => false
def gName1 (i : Nat) : Item → State → Option State
  | .one d, s => some (setV i d s)
  | .two _ _, _ => none
def gNil1 : List D → State → Option State
  | [], s => some s
  | _, _ => none
def gCons1 (g : Item → State → Option State) (gs : List D → State → Option State) : List D → State → Option State
  | d :: ds, s => (g (.one d) s).bind (gs ds)
  | [], _ => none
def gTup1 (n : Nat) (gs : List D → State → Option State) : Item → State → Option State
  | .one (.tuple ds), s => if ds.length = n then gs ds s else none
  | .one (.list ds), s => if ds.length = n then gs ds s else none
  | .two a b, s => if 2 = n then gs [a, b] s else none
  | _, _ => none
section
variable {X : Cx} {N : List Str} {S : Sco} {k : Nat} {e : Expr} {es : List Expr} {pos : Pos}
theorem tg_name (cx : CtxOk X N S k) {i : Nat} {x : Str} (hi : N[i]? = some x) (hx : locB S.sc x = true) (hf : (S.fn x || localB S.sc x) = true) : STg X (.Name x pos) [i] (gName1 i) := by
  refine ⟨_, pg_name cx.ndX (cx.nm hi) (cx.loc hx) (cx.fnOr hf), fun F C s σ H it v s' Q hK G r e q => ?_⟩
  cases it with
  | two a b => cases e
  | one d =>
    cases e
    refine q _ (G.set_val r) (fun a o e n => ⟨e, fun w => n (wf_setV w)⟩) fun vs h => ?_
    exact (wipe_set σ i (some v) vs).1 (h i (by simp))
theorem tgs_nil : STgs X [] [] gNil1 := by
  refine ⟨_, pgs_nil, fun F C s σ H ds xs s' Q hK G r e q => ?_⟩
  cases ds with
  | cons d ds => cases e
  | nil =>
    cases e
    exact ⟨r, q σ G Stp.refl Wiped.refl⟩
theorem assignEach_cons (h : isStarT e = false) (env : Env) : assignEach (e :: es) env = (false, assign e env) :: assignEach es env := by
  cases e <;> first | rfl | cases h
theorem tgs_cons {ts us : List Nat} {g : Item → State → Option State} {gs : List D → State → Option State} (h1 : STg X e ts g) (hs : isStarT e = false) (h2 : STgs X es us gs) : STgs X (e :: es) (ts ++ us) (gCons1 g gs) := by
  obtain ⟨t, pt, q0⟩ := h1
  obtain ⟨t', pt', q1⟩ := h2
  refine ⟨_, pgs_cons pt pt' (by rw [assignEach_cons hs]; rfl), fun F C s σ H ds xs s' Q hK G r e q => ?_⟩
  cases ds with
  | nil => cases e
  | cons d ds =>
    simp only [RepL] at r
    obtain ⟨v, vs, ev, r1, r2⟩ := r
    obtain ⟨s1, e1, e2⟩ := Option.bind_eq_some_iff.mp e
    refine ⟨v, vs, ev, q0 F C s σ H (.one d) v s1 _ hK G r1 e1 fun σ1 G1 st1 w1 => ?_⟩
    exact q1 F C s1 σ1 H ds vs s' _ hK G1 (r2.stp st1 _ _) e2 fun σ2 G2 st2 w2 => q σ2 G2 (st1.trans st2) (w1.trans w2)
theorem PG.or {t u : TG} (h1 : PG X e t) (h2 : PG X e u) : PG X e fun v σ H Q => t v σ H Q ∨ u v σ H Q :=
  ⟨fun pins s σ H v w Q I r h => h.elim (h1.run pins s σ H v w Q I r) (h2.run pins s σ H v w Q I r)⟩
theorem tg_tup (hc : X.calm = true) {ts : List Nat} {gs : List D → State → Option State} {kk n : Nat} (h : STgs X es ts gs) (hn : es.length = n) (hs : es.all (fun e => !isStarT e) = true) : STg X (.Tuple es kk pos) ts (gTup1 n gs) := by
  obtain ⟨t, pt, q0⟩ := h
  have lenE : ∀ {es : List Expr}, es.all (fun e => !isStarT e) = true → (assignEach es X.env).length = es.length ∧ (assignEach es X.env).findIdx? (·.1) = none := by
    intro es
    induction es with
    | nil => intro _; exact ⟨rfl, rfl⟩
    | cons e es ih =>
      intro h
      rw [List.all_cons, Bool.and_eq_true] at h
      have h1 : isStarT e = false := by simpa using h.1
      obtain ⟨i1, i2⟩ := ih h.2
      rw [assignEach_cons h1]
      refine ⟨by simp [i1], ?_⟩
      rw [List.findIdx?_cons, i2]
      rfl
  obtain ⟨l1, l2⟩ := lenE hs
  refine ⟨_, PG.or (pg_tup hc pt (l1.trans hn) l2) (pg_lst hc pt (l1.trans hn) l2), fun F C s σ H it v s' Q hK G r e q => ?_⟩
  cases it with
  | two a b =>
    obtain ⟨p, x, y, ev, hp, r1, r2⟩ := r
    simp only [gTup1] at e
    split at e
    · refine .inl ⟨p, [x, y], ev, .inl (.inl hp), by simpa using (by assumption : 2 = n), ?_⟩
      exact q0 F C s σ H [a, b] [x, y] s' Q hK G (.cons r1 (.one r2)) e q
    · cases e
  | one d =>
    cases d with
    | tuple ds =>
      have r : Rep _ _ _ (.tuple ds) v := r
      simp only [Rep] at r
      obtain ⟨a, vs, ev, ht, rl⟩ := r
      simp only [gTup1] at e
      split at e
      · have hs := ht.sqT
        rw [hK] at hs
        exact .inl ⟨a, vs, ev, hs, by rw [rl.length]; assumption, q0 F C s σ H ds vs s' Q hK G rl e q⟩
      · cases e
    | list ds =>
      have r : Rep _ _ _ (.list ds) v := r
      simp only [Rep] at r
      obtain ⟨a, vs, ev, hn, ha, rl⟩ := r
      simp only [gTup1] at e
      split at e
      · exact .inr ⟨a, vs, ev, .of ha, by rw [rl.length]; assumption, q0 F C s σ H ds vs s' Q hK G rl e q⟩
      · cases e
    | _ => cases e
end

/-! ### what is walked -/
/-- later on: what stood stands; also what was there ahead of the frame -/
def Later (F : Fr) (W : Addr → Prop) (H : Hp) (W' : Addr → Prop) (H' : Hp) : Prop := Stp W H W' H' ∧ ∀ a o, F.H0 a = some o → a ∉ F.C0 → H' a = some o
def ItOk (F : Fr) (W : Addr → Prop) (H : Hp) (J : It) (its : List Item) : Prop := ∀ W2 H2, Later F W H W2 H2 → ∀ i : Nat,
  (i < its.length → J.go i H2 ∧ ∀ x H3, J.yld i H2 x H3 → ∃ it, its[i]? = some it ∧ IRep F.K W2 H3 it x ∧ (H3 = H2 ∨ ∃ p o, H2 p = none ∧ H3 = upd H2 p o)) ∧ (its.length ≤ i → J.stop i H2)
def SIt (X : Cx) (tg e : Expr) (f : State → Option (List Item × State)) : Prop := ∃ wi : TI, PI X tg e wi ∧ ∀ F C s σ H R its s', F.K = X.K → Good F C Z0 s σ H → f s = some (its, s') →
  (∀ J C' H', Aft F C s σ H C' s' H' → ItOk F (Wf F C' s'.env σ) H' J its → R J H') → wi σ H R
def ones (ds : List D) : List Item := ds.map .one
theorem ones_get {ds : List D} {i : Nat} {d : D} (h : ds[i]? = some d) : (ones ds)[i]? = some (.one d) := by
  unfold ones
  rw [List.getElem?_map, h]
  rfl
theorem ones_len {ds : List D} : (ones ds).length = ds.length := by simp [ones]
def strItems (x : Str) : List Item := x.cps.toList.map fun c => .one (.str ⟨#[c]⟩)
def seqItems : D → Option (List Item)
  | .list ds => some (ones ds)
  | .tuple ds => some (ones ds)
  | .str x => some (strItems x)
  | _ => none
section
variable {X : Cx} {tg e : Expr} {F : Fr} {W : Addr → Prop} {H : Hp}
theorem PI.or {w1 w2 : TI} (h1 : PI X tg e w1) (h2 : PI X tg e w2) : PI X tg e fun σ H R => w1 σ H R ∨ w2 σ H R :=
  ⟨fun pins s σ H R I h => h.elim (h1.run pins s σ H R I) (h2.run pins s σ H R I)⟩
theorem it_list {K : PySem.W.Frag} (hK : F.K = K) {a : Addr} {vs : List V} {ds : List D} (ha : ∀ W2 H2, Later F W H W2 H2 → SqL K H2 a vs) (r : RepL F.K W H ds vs) : ItOk F W H (Itl K a) (ones ds) := by
  intro W2 H2 l i
  have h2 := ha W2 H2 l
  have r2 := r.stp l.1
  refine ⟨fun hi => ?_, fun hi => ⟨vs, h2, by rw [r.length, ← ones_len]; exact hi⟩⟩
  rw [ones_len] at hi
  obtain ⟨v, e1, e2⟩ := r2.get (List.getElem?_eq_getElem hi)
  refine ⟨⟨vs, v, h2, e1⟩, fun x H3 y => ⟨_, ones_get (List.getElem?_eq_getElem hi), ?_, .inl y.1⟩⟩
  have e3 := y.2 vs h2
  rw [e1] at e3
  cases e3
  rw [y.1]
  exact e2
theorem it_tup {K : PySem.W.Frag} (hK : F.K = K) {a : Addr} {vs : List V} {ds : List D} (ha : ∀ W2 H2, Later F W H W2 H2 → SqT K H2 a vs) (r : RepL F.K W H ds vs) : ItOk F W H (Itt K a) (ones ds) := by
  intro W2 H2 l i
  have h2 := ha W2 H2 l
  have r2 := r.stp l.1
  refine ⟨fun hi => ?_, fun hi => ⟨vs, h2, by rw [r.length, ← ones_len]; exact hi⟩⟩
  rw [ones_len] at hi
  obtain ⟨v, e1, e2⟩ := r2.get (List.getElem?_eq_getElem hi)
  refine ⟨⟨vs, v, h2, e1⟩, fun x H3 y => ⟨_, ones_get (List.getElem?_eq_getElem hi), ?_, .inl y.1⟩⟩
  have e3 := y.2 vs h2
  rw [e1] at e3
  cases e3
  rw [y.1]
  exact e2
theorem it_str {x : Str} : ItOk F W H (Its x) (strItems x) := by
  intro W2 H2 l i
  refine ⟨fun hi => ?_, fun hi => (show x.cps.size ≤ i by simpa [strItems] using hi)⟩
  have hi : i < x.cps.size := by simpa [strItems] using hi
  refine ⟨hi, fun v H3 y => ?_⟩
  obtain ⟨e1, c, e2, ev⟩ := y
  refine ⟨.one (.str ⟨#[c]⟩), ?_, by rw [ev]; show Rep _ _ _ _ _; exact rp_str, .inl e1⟩
  unfold strItems
  rw [List.getElem?_map, Array.getElem?_toList, e2]
  rfl
def itF (fa : State → Option (D × State)) (s : State) : Option (List Item × State) := (fa s).bind fun p => (seqItems p.1).map fun l => (l, p.2)
theorem it_seq {fa : State → Option (D × State)} (ha : SVal X e fa) : SIt X tg e (itF fa) := by
  obtain ⟨t, pt, q0⟩ := ha
  refine ⟨_, PI.or (PI.or (pi_list pt) (pi_tup pt)) (pi_str pt), fun F C s σ H R its s' hK G e q => ?_⟩
  obtain ⟨⟨d, s1⟩, h1, h⟩ := Option.bind_eq_some_iff.mp e
  obtain ⟨l, h2, h⟩ := Option.map_eq_some_iff.mp h
  cases h
  cases d with
  | list ds =>
    cases h2
    refine .inl (.inl (q0 F C s σ H _ _ s1 hK G h1 fun v C1 H1 a1 r1 => ?_))
    simp only [Rep] at r1
    obtain ⟨a, vs, ev, n, ha, rl⟩ := r1
    exact ⟨a, ev, ⟨vs, .of ha⟩, q _ C1 H1 a1 (it_list hK (fun W2 H2 l => .of (l.1 a _ ha n).1) rl)⟩
  | tuple ds =>
    cases h2
    refine .inl (.inr (q0 F C s σ H _ _ s1 hK G h1 fun v C1 H1 a1 r1 => ?_))
    simp only [Rep] at r1
    obtain ⟨a, vs, ev, ht, rl⟩ := r1
    have hs := ht.sqT
    rw [hK] at hs
    refine ⟨a, ev, ⟨vs, hs⟩, q _ C1 H1 a1 (it_tup hK (fun W2 H2 l => ?_) rl)⟩
    rw [← hK]
    exact (ht.stp l.1).sqT
  | str x =>
    cases h2
    refine .inr (q0 F C s σ H _ _ s1 hK G h1 fun v C1 H1 a1 r1 => ?_)
    exact ⟨x, by simpa [Rep] using r1, q _ C1 H1 a1 it_str⟩
  | _ => cases h2
/-- a name whose list is borrowed -/
def itVar (i : Nat) (s : State) : Option (List Item × State) := match s.env[i]? with
  | some (.brw (.list ds)) => if lfAll ds then some (ones ds, s) else none
  | _ => (lkSlot s i).bind fun p => (seqItems p.1).map fun l => (l, p.2)
theorem it_var {N : List Str} {S : Sco} {k i : Nat} {x : Str} {pos : Pos} (cx : CtxOk X N S k) (hi : N[i]? = some x) (hx : visB S.sc x = true) (hd : (x == ("__debug__" : Str)) = false) (hcd : (x == ("__classdict__" : Str)) = false) : SIt X tg (.Name x pos) (itVar i) := by
  obtain ⟨wi, pi, q0⟩ := it_seq (tg := tg) (sv_var (pos := pos) (cx.nm hi) (cx.vis hx) hd hcd)
  refine ⟨_, PI.or pi (pi_list (pe_var (cx.nm hi) (cx.vis hx) hd hcd)), fun F C s σ H R its s' hK G e q => ?_⟩
  unfold itVar at e
  split at e
  · rename_i ds es
    split at e
    · cases e
      obtain ⟨v, e1, r⟩ := G.slot i _ es
      obtain ⟨a, vs, ev, na, hr, rl⟩ := r
      subst ev
      refine .inr ⟨_, e1, a, rfl, ?_⟩
      have tp : ∀ a o u, F.H0 a = some (.frz o u) → H a = some (.frz o u) ∧ ¬ Wf F C s.env σ a := fun a o u e => by
        have nc : a ∉ F.C0 := fun z => by
          have q := F.c0 a z
          rw [e] at q
          exact q
        have e2 := G.ext a _ e nc
        exact ⟨e2, G.tup e2⟩
      have rl2 : RepL F.K (Wf F C s.env σ) H ds vs := RepL.lf tp ds vs (by assumption) rl
      have sq : ∀ W2 H2, Later F (Wf F C s.env σ) H W2 H2 → SqL X.K H2 a vs := fun W2 H2 l => by
        rcases hr with hr | ⟨o, hr⟩
        · exact .inl (.inl (l.2 a _ hr na))
        · exact .inl (.inr ⟨o, l.2 a _ hr na⟩)
      exact ⟨⟨vs, sq _ _ ⟨Stp.refl, G.ext⟩⟩, q _ C H (Aft.refl G) (it_list hK sq rl2)⟩
    · cases e
  · exact .inl (q0 F C s σ H R its s' hK G e q)

/-! ### range, enumerate, zip -/
def small62 (i : Int) : Bool := decide (-(2 ^ 62) ≤ i) && decide (i < 2 ^ 62)
def rangeItems (lo : Int) (n : Nat) : List Item := (List.range n).map fun (i : Nat) => .one (.int (lo + i))
def rng1 : List D → Option (List Item)
  | [.int j] => if small62 j then some (rangeItems 0 j.toNat) else none
  | _ => none
def rng2 : List D → Option (List Item)
  | [.int i, .int j] => if small62 i && small62 j then some (rangeItems i (j - i).toNat) else none
  | _ => none
def rng3 : List D → Option (List Item)
  | [.int i, .int j, .int c] => if c ≠ 0 ∧ c.natAbs < 1073741824 ∧ Builtin.Range.small i j c = true then some ((List.range (Builtin.Range.rangeSize i j c).toNat).map fun (m : Nat) => .one (.int (i + m * c))) else none
  | _ => none
theorem rng1_some {ds : List D} {l : List Item} (h : rng1 ds = some l) : ∃ j, ds = [.int j] ∧ small62 j = true ∧ l = rangeItems 0 j.toNat := by
  unfold rng1 at h
  split at h
  · split at h
    · cases h
      exact ⟨_, rfl, by assumption, rfl⟩
    · cases h
  · cases h
theorem rng2_some {ds : List D} {l : List Item} (h : rng2 ds = some l) : ∃ i j, ds = [.int i, .int j] ∧ (small62 i && small62 j) = true ∧ l = rangeItems i (j - i).toNat := by
  unfold rng2 at h
  split at h
  · split at h
    · cases h
      exact ⟨_, _, rfl, by assumption, rfl⟩
    · cases h
  · cases h
theorem rng3_some {ds : List D} {l : List Item} (h : rng3 ds = some l) : ∃ i j c, ds = [.int i, .int j, .int c] ∧ (c ≠ 0 ∧ c.natAbs < 1073741824 ∧ Builtin.Range.small i j c = true) ∧ l = (List.range (Builtin.Range.rangeSize i j c).toNat).map fun (m : Nat) => .one (.int (i + m * c)) := by
  unfold rng3 at h
  split at h
  · split at h
    · cases h
      exact ⟨_, _, _, rfl, by assumption, rfl⟩
    · cases h
  · cases h
theorem it_rng {lo : Int} {n : Nat} : ItOk F W H (Itr lo n) (rangeItems lo n) := by
  intro W2 H2 l i
  refine ⟨fun hi => ?_, fun hi => (show n ≤ i by simpa [rangeItems] using hi)⟩
  have hi : i < n := by simpa [rangeItems] using hi
  refine ⟨hi, fun v H3 y => ⟨.one (.int (lo + (i : Nat))), ?_, ?_, .inl y.1⟩⟩
  · unfold rangeItems
    rw [List.getElem?_map, List.getElem?_range hi]
    rfl
  · rw [y.2]
    show Rep _ _ _ _ _
    exact rp_int
def itR (r : List D → Option (List Item)) (f : State → Option (List D × State)) (s : State) : Option (List Item × State) := (f s).bind fun p => (r p.1).map fun l => (l, p.2)
variable {N : List Str} {S : Sco} {k : Nat} {a b : Expr} {p pos : Pos}
theorem small62_ok {i : Int} (h : small62 i = true) : -(2 ^ 62) ≤ i ∧ i < 2 ^ 62 := by
  unfold small62 at h
  simpa using h
theorem it_range1 (cx : CtxOk X N S k) (hg : glB S.sc "range" = true) {f : State → Option (List D × State)} (h : SList X [a] f) (hs : isStar a = false) : SIt X tg (.Call (.Name "range" p) [a] [] pos) (itR rng1 f) := by
  obtain ⟨t, pt, q0⟩ := h
  refine ⟨_, pi_range1 (cx.gl hg) (cx.blt _ (by decide)) pt (star1 hs), fun F C s σ H R its s' hK G e q => ?_⟩
  obtain ⟨⟨ds, s1⟩, h1, h⟩ := Option.bind_eq_some_iff.mp e
  obtain ⟨l, h2, h⟩ := Option.map_eq_some_iff.mp h
  cases h
  refine q0 F C s σ H _ ds s1 hK G h1 fun vs C1 H1 a1 r1 => ?_
  obtain ⟨j, rfl, hh, rfl⟩ := rng1_some h2
  simp only [RepL, Rep] at r1
  obtain ⟨v, r, ev, e1, e2⟩ := r1
  subst e1 e2 ev
  obtain ⟨b1, b2⟩ := small62_ok hh
  exact ⟨_, rfl, b1, b2, q _ C1 H1 a1 it_rng⟩
theorem it_range2 (cx : CtxOk X N S k) (hg : glB S.sc "range" = true) {f : State → Option (List D × State)} (h : SList X [a, b] f) (hs : isStar a = false) (hs2 : isStar b = false) : SIt X tg (.Call (.Name "range" p) [a, b] [] pos) (itR rng2 f) := by
  obtain ⟨t, pt, q0⟩ := h
  refine ⟨_, pi_range2 (cx.gl hg) (cx.blt _ (by decide)) pt (by rw [star1 hs, star1 hs2]; rfl) (star1 hs2), fun F C s σ H R its s' hK G e q => ?_⟩
  obtain ⟨⟨ds, s1⟩, h1, h⟩ := Option.bind_eq_some_iff.mp e
  obtain ⟨l, h2, h⟩ := Option.map_eq_some_iff.mp h
  cases h
  refine q0 F C s σ H _ ds s1 hK G h1 fun vs C1 H1 a1 r1 => ?_
  obtain ⟨i, j, rfl, hh, rfl⟩ := rng2_some h2
  rw [Bool.and_eq_true] at hh
  simp only [RepL, Rep] at r1
  obtain ⟨v, r, ev, e1, v2, r2, ev2, e2, e3⟩ := r1
  subst e1 e2 e3 ev2 ev
  obtain ⟨b1, b2⟩ := small62_ok hh.1
  obtain ⟨b3, b4⟩ := small62_ok hh.2
  exact ⟨_, _, rfl, ⟨b1, b2, b3, b4⟩, q _ C1 H1 a1 it_rng⟩
theorem it_range3 (cx : CtxOk X N S k) (hg : glB S.sc "range" = true) {c : Expr} {f : State → Option (List D × State)} (h : SList X [a, b, c] f) (hs : isStar a = false) (hs2 : isStar b = false) (hs3 : isStar c = false) : SIt X tg (.Call (.Name "range" p) [a, b, c] [] pos) (itR rng3 f) := by
  obtain ⟨t, pt, q0⟩ := h
  refine ⟨_, pi_range3 (cx.gl hg) (cx.blt _ (by decide)) pt (by first | exact star1 hs | (rw [star1 hs, star1 hs2, star1 hs3]; rfl)) (by first | exact stars_none (fun y hy => by rcases List.mem_cons.mp hy with z | z; (rw [z]; exact hs2); (have : y = c := by simpa using z); rw [this]; exact hs3) | (rw [star1 hs2, star1 hs3]; rfl)), fun F C s σ H R its s' hK G e q => ?_⟩
  obtain ⟨⟨ds, s1⟩, h1, h⟩ := Option.bind_eq_some_iff.mp e
  obtain ⟨l, h2, h⟩ := Option.map_eq_some_iff.mp h
  cases h
  refine q0 F C s σ H _ ds s1 hK G h1 fun vs C1 H1 a1 r1 => ?_
  obtain ⟨i, j, c, rfl, hh, rfl⟩ := rng3_some h2
  simp only [RepL, Rep] at r1
  obtain ⟨v, r, ev, e1, v2, r2, ev2, e2, v3, r3, ev3, e3, e4⟩ := r1
  subst e1 e2 e3 e4 ev3 ev2 ev
  have hn : (0 : Int) ≤ Builtin.Range.rangeSize i j c := by
    unfold Builtin.Range.rangeSize
    split
    · split <;> first | omega | (refine Int.add_nonneg (Int.ediv_nonneg (by omega) (by omega)) (by omega))
    · split <;> first | omega | (refine Int.add_nonneg (Int.ediv_nonneg (by omega) (by omega)) (by omega))
  refine ⟨i, j, c, (Builtin.Range.rangeSize i j c).toNat, rfl, ⟨hh.1, hh.2.1, hh.2.2, by omega⟩, q _ C1 H1 a1 ?_⟩
  intro W2 H2 l m
  refine ⟨fun hm => ?_, fun hm => (show _ ≤ m by simpa using hm)⟩
  have hm : m < (Builtin.Range.rangeSize i j c).toNat := by simpa using hm
  refine ⟨hm, fun v H3 y => ⟨.one (.int (i + (m : Nat) * c)), ?_, ?_, .inl y.1⟩⟩
  · rw [List.getElem?_map, List.getElem?_range hm]
    rfl
  · rw [y.2]
    show Rep _ _ _ _ _
    exact rp_int
def numbered (ds : List D) : List Item := ds.zipIdx.map fun p => .two (.int (p.2 : Nat)) p.1
def enumItems : List D → Option (List Item)
  | [.list ds] => some (numbered ds)
  | _ => none
theorem enum_some {ds : List D} {l : List Item} (h : enumItems ds = some l) : ∃ xs, ds = [.list xs] ∧ l = numbered xs := by
  unfold enumItems at h
  split at h
  · cases h
    exact ⟨_, rfl, rfl⟩
  · cases h
theorem it_enum {elts : List Expr} {kk : Nat} {tpos : Pos} (cx : CtxOk X N S k) (hg : glB S.sc "enumerate" = true) {f : State → Option (List D × State)} (h : SList X [a] f) (hs : isStar a = false) : SIt X (.Tuple elts kk tpos) (.Call (.Name "enumerate" p) [a] [] pos) (itR enumItems f) := by
  obtain ⟨t, pt, q0⟩ := h
  refine ⟨_, pi_enum (cx.gl hg) (cx.blt _ (by decide)) pt (star1 hs), fun F C s σ H R its s' hK G e q => ?_⟩
  obtain ⟨⟨ds, s1⟩, h1, h⟩ := Option.bind_eq_some_iff.mp e
  obtain ⟨l, h2, h⟩ := Option.map_eq_some_iff.mp h
  cases h
  refine q0 F C s σ H _ ds s1 hK G h1 fun vs C1 H1 a1 r1 => ?_
  obtain ⟨xs, rfl, rfl⟩ := enum_some h2
  simp only [RepL, Rep] at r1
  obtain ⟨v, r, ev, ⟨a, us, e1, na, ha, rl⟩, e2⟩ := r1
  subst e1 e2 ev
  refine ⟨a, us, rfl, .of ha, q _ C1 H1 a1 ?_⟩
  intro W2 H2 l i
  obtain ⟨h2, _⟩ := l.1 a _ ha na
  have r2 := rl.stp l.1
  refine ⟨fun hi => ?_, fun hi => ⟨us, .of h2, by rw [rl.length]; simpa [numbered] using hi⟩⟩
  have hi : i < xs.length := by simpa [numbered] using hi
  obtain ⟨v, e1, e2⟩ := r2.get (List.getElem?_eq_getElem hi)
  refine ⟨⟨us, v, .of h2, e1⟩, fun x H3 y => ?_⟩
  obtain ⟨T, w, ex, hT, e3, e4⟩ := y
  have e5 := e4 us (.of h2)
  rw [e1] at e5
  cases e5
  refine ⟨.two (.int (i : Nat)) xs[i], ?_, ?_, .inr ⟨T, _, hT, e3⟩⟩
  · unfold numbered
    rw [List.getElem?_map, List.getElem?_zipIdx, List.getElem?_eq_getElem hi]
    simp
  · rw [e3]
    refine ⟨T, _, _, ex, upd_same, rp_int, e2.stp (fun b o e n => ⟨?_, n⟩) _ _⟩
    rw [upd_ne (fun z => by rw [z, hT] at e; cases e)]
    exact e
def pairUp (xs ys : List D) : List Item := (xs.zip ys).map fun p => .two p.1 p.2
def zipItems : List D → Option (List Item)
  | [.list xs, .list ys] => some (pairUp xs ys)
  | [.tuple xs, .tuple ys] => some (pairUp xs ys)
  | _ => none
theorem zip_some {ds : List D} {l : List Item} (h : zipItems ds = some l) : ∃ xs ys, l = pairUp xs ys ∧ (ds = [.list xs, .list ys] ∨ ds = [.tuple xs, .tuple ys]) := by
  unfold zipItems at h
  split at h
  · cases h
    exact ⟨_, _, rfl, .inl rfl⟩
  · cases h
    exact ⟨_, _, rfl, .inr rfl⟩
  · cases h
theorem it_zip {elts : List Expr} {kk : Nat} {tpos : Pos} (cx : CtxOk X N S k) (hg : glB S.sc "zip" = true) {f : State → Option (List D × State)} (h : SList X [a, b] f) (hs : isStar a = false) (hs2 : isStar b = false) : SIt X (.Tuple elts kk tpos) (.Call (.Name "zip" p) [a, b] [] pos) (itR zipItems f) := by
  obtain ⟨t, pt, q0⟩ := h
  refine ⟨_, RZ.pi_zipA (cx.gl hg) (cx.blt _ (by decide)) pt (star1 hs) (stars_none fun y hy => (List.mem_singleton.mp hy) ▸ hs2), fun F C s σ H R its s' hK G e q => ?_⟩
  obtain ⟨⟨ds, s1⟩, h1, h⟩ := Option.bind_eq_some_iff.mp e
  obtain ⟨l, h2, h⟩ := Option.map_eq_some_iff.mp h
  cases h
  refine q0 F C s σ H _ ds s1 hK G h1 fun vs C1 H1 a1 r1 => ?_
  have step : ∀ {xs ys : List D} {us ws : List V} {W2 : Addr → Prop} {H2 H3 : Hp} {T : Addr} {i : Nat} {v : V} {x y : V} (hx : i < xs.length) (hy : i < ys.length), RepL F.K W2 H2 xs us → RepL F.K W2 H2 ys ws → us[i]? = some x → ws[i]? = some y → v = .ref T → H2 T = none → H3 = upd H2 T (.tup [x, y]) →
      ∃ it, (pairUp xs ys)[i]? = some it ∧ IRep F.K W2 H3 it v ∧ (H3 = H2 ∨ ∃ p o, H2 p = none ∧ H3 = upd H2 p o) := fun {xs ys us ws W2 H2 H3 T i v x y} hx hy r2 r3 e1 e2 ev hT e3 => by
    obtain ⟨x', f1, g1⟩ := r2.get (List.getElem?_eq_getElem hx)
    obtain ⟨y', f2, g2⟩ := r3.get (List.getElem?_eq_getElem hy)
    rw [e1] at f1
    rw [e2] at f2
    cases f1
    cases f2
    have st : Stp W2 H2 W2 H3 := fun b o e n => ⟨by rw [e3, upd_ne (fun z => by rw [z, hT] at e; cases e)]; exact e, n⟩
    refine ⟨.two xs[i] ys[i], ?_, ⟨T, x, y, ev, by rw [e3]; exact upd_same, g1.stp st _ _, g2.stp st _ _⟩, .inr ⟨T, _, hT, e3⟩⟩
    unfold pairUp
    rw [List.getElem?_map, (List.getElem?_zip_eq_some (z := (xs[i], ys[i]))).mpr ⟨List.getElem?_eq_getElem hx, List.getElem?_eq_getElem hy⟩]
    rfl
  obtain ⟨xs, ys, rfl, hd⟩ := zip_some h2
  rcases hd with rfl | rfl
  · simp only [RepL, Rep] at r1
    obtain ⟨v, r, ev, ⟨a, us, e1, na, ha, rl⟩, v2, r2, ev2, ⟨b, ws, e2, nb, hb, rl2⟩, e3⟩ := r1
    subst e1 e2 e3 ev2 ev
    refine ⟨a, b, us, ws, rfl, .inl ⟨.of ha, .of hb, q _ C1 H1 a1 ?_⟩⟩
    intro W2 H2 l i
    obtain ⟨h2, _⟩ := l.1 a _ ha na
    obtain ⟨h3, _⟩ := l.1 b _ hb nb
    have r2 := rl.stp l.1
    have r3 := rl2.stp l.1
    have ln : (pairUp xs ys).length = min xs.length ys.length := by simp [pairUp]
    refine ⟨fun hi => ?_, fun hi => ⟨us, ws, .of h2, .of h3, by rw [rl.length, rl2.length]; omega⟩⟩
    have hx : i < xs.length := by omega
    have hy : i < ys.length := by omega
    obtain ⟨x, f1, _⟩ := r2.get (List.getElem?_eq_getElem hx)
    obtain ⟨y, f2, _⟩ := r3.get (List.getElem?_eq_getElem hy)
    refine ⟨⟨us, ws, x, y, .of h2, .of h3, f1, f2⟩, fun v H3 yy => ?_⟩
    obtain ⟨T, x', y', ex, hT, e3, e4, e5⟩ := yy
    exact step hx hy r2 r3 (e4 us (.of h2)) (e5 ws (.of h3)) ex hT e3
  · simp only [RepL, Rep] at r1
    obtain ⟨v, r, ev, ⟨a, us, e1, ha, rl⟩, v2, r2, ev2, ⟨b, ws, e2, hb, rl2⟩, e3⟩ := r1
    subst e1 e2 e3 ev2 ev
    have sa := ha.sqT
    have sb := hb.sqT
    rw [hK] at sa sb
    refine ⟨a, b, us, ws, rfl, .inr ⟨sa, sb, q _ C1 H1 a1 ?_⟩⟩
    intro W2 H2 l i
    have h2 := (ha.stp l.1).sqT
    have h3 := (hb.stp l.1).sqT
    rw [hK] at h2 h3
    have r2 := rl.stp l.1
    have r3 := rl2.stp l.1
    have ln : (pairUp xs ys).length = min xs.length ys.length := by simp [pairUp]
    refine ⟨fun hi => ?_, fun hi => ⟨us, ws, h2, h3, by rw [rl.length, rl2.length]; omega⟩⟩
    have hx : i < xs.length := by omega
    have hy : i < ys.length := by omega
    obtain ⟨x, f1, _⟩ := r2.get (List.getElem?_eq_getElem hx)
    obtain ⟨y, f2, _⟩ := r3.get (List.getElem?_eq_getElem hy)
    refine ⟨⟨us, ws, x, y, h2, h3, f1, f2⟩, fun v H3 yy => ?_⟩
    obtain ⟨T, x', y', ex, hT, e3, e4, e5⟩ := yy
    exact step hx hy r2 r3 (e4 us h2) (e5 ws h3) ex hT e3
end
end IR

end
section
/-! Ir12: comprehensions. -/
namespace IR
open PySem PySem.Spec PyProof.Rows L2

/-! ### one reading for all blocks of a comprehension -/
abbrev Bx := Shared × Hp × Addr × List (Str × Addr) × List Addr
abbrev blkX (X : Cx) (scope : Scope) (i : Bx) : Cx := X.blk i.1 i.2.1 scope (compEnvC scope i.2.2.2.1 i.2.2.1 X.env) i.2.2.2.2
section
variable {X : Cx} {e tg : Expr} {scope : Scope}
theorem SVal.fam {f : State → Option (D × State)} (h : ∀ i : Bx, SVal (blkX X scope i) e f) : ∃ te : TE, (∀ i : Bx, PE (blkX X scope i) e te) ∧ ∀ F C s σ H Q d s', F.K = X.K → Good F C Z0 s σ H → f s = some (d, s') →
    (∀ v C' H', Aft F C s σ H C' s' H' → Rep F.K (Wf F C' s'.env σ) H' d v → Q v H') → te σ H Q :=
  ⟨fun σ H Q => ∀ i, Classical.choose (h i) σ H Q, fun i => ⟨fun pins s σ H Q I hq => (Classical.choose_spec (h i)).1.run pins s σ H Q I (hq i)⟩,
    fun F C s σ H Q d s' hK G e q i => (Classical.choose_spec (h i)).2 F C s σ H Q d s' hK G e q⟩
def STs (X : Cx) (ifs : List Expr) (f : State → Option (Bool × State)) : Prop := ∃ t : TT, PTs X ifs t ∧ ∀ F C s σ H Q b s', F.K = X.K → Good F C Z0 s σ H → f s = some (b, s') →
  (∀ C' H', Aft F C s σ H C' s' H' → Q b H') → t σ H Q
def yesF (s : State) : Option (Bool × State) := some (true, s)
theorem sts_nil : STs X [] yesF := ⟨_, pts_nil, fun F C s σ H Q b s' hK G e q => by cases e; exact q C H (Aft.refl G)⟩
theorem sts_one {f : State → Option (Bool × State)} (h : STst X e f) : STs X [e] f := by
  obtain ⟨t, pt, q0⟩ := h
  exact ⟨t, pts_one pt, q0⟩
theorem STs.fam {ifs : List Expr} {f : State → Option (Bool × State)} (h : ∀ i : Bx, STs (blkX X scope i) ifs f) : ∃ tt : TT, (∀ i : Bx, PTs (blkX X scope i) ifs tt) ∧ ∀ F C s σ H Q b s', F.K = X.K → Good F C Z0 s σ H → f s = some (b, s') →
    (∀ C' H', Aft F C s σ H C' s' H' → Q b H') → tt σ H Q :=
  ⟨fun σ H Q => ∀ i, Classical.choose (h i) σ H Q, fun i => ⟨fun pins s σ H Q I hq => (Classical.choose_spec (h i)).1.run pins s σ H Q I (hq i)⟩,
    fun F C s σ H Q d s' hK G e q i => (Classical.choose_spec (h i)).2 F C s σ H Q d s' hK G e q⟩
theorem STg.fam {ts : List Nat} {g : Item → State → Option State} (h : ∀ i : Bx, STg (blkX X scope i) tg ts g) : ∃ t : TG, (∀ i : Bx, PG (blkX X scope i) tg t) ∧ ∀ F C s σ H it x s' Q, F.K = X.K → Good F C Z0 s σ H → IRep F.K (Wf F C s.env σ) H it x → g it s = some s' →
    (∀ σ', Good F C Z0 s' σ' H → Stp (Wf F C s.env σ) H (Wf F C s'.env σ') H → Wiped σ σ' ts → Q σ' H) → t x σ H Q :=
  ⟨fun x σ H Q => ∀ i, Classical.choose (h i) x σ H Q, fun i => ⟨fun pins s σ H v u Q I r hq => (Classical.choose_spec (h i)).1.run pins s σ H v u Q I r (hq i)⟩,
    fun F C s σ H it x s' Q hK G r e q i => (Classical.choose_spec (h i)).2 F C s σ H it x s' Q hK G r e q⟩
end

/-! ### a turn -/
theorem upd_own {H : Hp} {a : Addr} {o : HO} (h : H a = some o) : upd H a o = H := by
  funext b
  by_cases e : b = a
  · rw [e, upd_same, h]
  · rw [upd_ne e]
theorem wipe_wipe (σ : L2.St) (vs : List Nat) : ∀ us : List Nat, (∀ i ∈ us, i ∈ vs) → wipe (wipe σ us) vs = wipe σ vs
  | [], _ => rfl
  | u :: us, h => by
    have e : wipe σ (u :: us) = (wipe σ us).set u none := rfl
    rw [e, (wipe_set (wipe σ us) u none vs).1 (h u (by simp)), wipe_wipe σ vs us fun i hi => h i (List.mem_cons_of_mem _ hi)]
section
variable {F : Fr} {C C' : List Addr} {s s5 : State} {σ σ5 : L2.St} {H H' : Hp} {D : Addr}
theorem sub_wf {Z : Addr → Prop} (G : Good F C Z s σ H) (hz : ∀ a, Z a → mutk (H a)) (vs : List Nat) {a : Addr} (w : Wf (subFr G hz) C (subS vs s).env (wipe σ vs) a) : Wf F C s.env σ a ∨ Z a := by
  rcases w with w | w | ⟨j, w⟩
  · exact w
  · exact .inl (.inr (.inl w))
  · exact absurd w noBx
/-- the new thing D is written at a turn's end -/
theorem turn_upd (G : Good F C (fun a => a = D) s σ H) (hz : ∀ a, a = D → mutk (H a)) (hw : ¬ Wf F C s.env σ D) (h0 : F.H0 D = none) (G5 : Good (subFr G hz) C' Z0 s5 σ5 H') (o : HO) :
    Good F C' (fun a => a = D) ⟨s.env, s5.cs⟩ σ (upd H' D o) ∧ Stp (fun a => Wf F C s.env σ a ∨ a = D) H (fun a => Wf F C' s.env σ a ∨ a = D) (upd H' D o) ∧ ¬ Wf F C' s.env σ D ∧ H' D = H D ∧
      Stp (Wf (subFr G hz) C' s5.env σ5) H' (fun a => Wf F C' s.env σ a ∨ a = D) (upd H' D o) := by
  obtain ⟨G6, st, wfi, ext, zn⟩ := Good.back G hz (fun a e => by subst e; exact ⟨hw, h0⟩) G5 (fun a z => z.elim)
  have hD : H' D = H D := by
    obtain ⟨u, e⟩ := mutk_some (hz D rfl)
    rw [e]
    exact ext D u e fun z => hw (.inr (.inl z))
  have nw : ¬ Wf F C' s.env σ D := zn D rfl
  have ne : ∀ {a}, Wf F C' s.env σ a → a ≠ D := fun {a} w e => nw (e ▸ w)
  refine ⟨G6.heap (fun a u e n => ?_) (fun i a h => upd_ne (ne (.inr (.inr ⟨i, h⟩)))) (fun a h => upd_ne (ne (.inr (.inl h)))) (fun a u e n q => ?_), fun a u e n => ?_, nw, hD, fun a u e n => ?_⟩
  · have na : a ≠ D := fun z => n (.inr (.inl z))
    exact ⟨by rw [upd_ne na]; exact e, fun w => w.elim (fun w => n (.inl w)) na⟩
  · rw [upd_ne (fun z => by rw [z, h0] at e; cases e)]
    exact q
  · obtain ⟨e1, n1⟩ := st a u e n
    have na : a ≠ D := fun z => n (.inr z)
    exact ⟨by rw [upd_ne na]; exact e1, fun w => w.elim (fun w => n1 (.inl w)) na⟩
  · have na : a ≠ D := fun z => n (wfi a (.inr z))
    exact ⟨by rw [upd_ne na]; exact e, fun w => w.elim (fun w => n (wfi a (.inl w))) na⟩
end

/-! ### [elt for tg in iter if ..] -/
def lcTurn (vs : List Nat) (g : Item → State → Option State) (ft : State → Option (Bool × State)) (fe : State → Option (D × State)) (it : Item) (s : State) : Option (Option D × State) :=
  (g it (subS vs s)).bind fun s1 => (ft s1).bind fun b => if b.1 then (fe b.2).map fun r => (some r.1, ⟨s.env, r.2.cs⟩) else some (none, ⟨s.env, b.2.cs⟩)
def lcGo (vs : List Nat) (g : Item → State → Option State) (ft : State → Option (Bool × State)) (fe : State → Option (D × State)) : List Item → State → Option (List D × State)
  | [], s => some ([], s)
  | it :: its, s => (lcTurn vs g ft fe it s).bind fun r => (lcGo vs g ft fe its r.2).map fun q => (match r.1 with
    | some d => d :: q.1
    | none => q.1, q.2)
def lcF (vs : List Nat) (fi : State → Option (List Item × State)) (g : Item → State → Option State) (ft : State → Option (Bool × State)) (fe : State → Option (D × State)) (s : State) : Option (List D × State) :=
  (fi s).bind fun p => (lcGo vs g ft fe p.1 p.2).bind fun r => if sizeOk r.1.length then some r else none
theorem sizeOk_lt {n : Nat} (h : sizeOk n = true) : n ≤ 1000000 := by simpa [sizeOk] using h
theorem sizeLine_big : 1000000 < sizeLine := by decide

section
variable {X : Cx} {N : List Str} {S : Sco} {k : Nat} {elt tg iter : Expr} {ifs : List Expr} {scope : Scope} {own : List (Str × Nat)} {pos spos : Pos}
theorem lc_parts (cx : CtxOk X N S k) {fi : State → Option (List Item × State)} {g : Item → State → Option State} {ft : State → Option (Bool × State)} {fe : State → Option (D × State)} {ts : List Nat} (hts : ∀ i ∈ ts, i ∈ own.map (·.2))
    (hi : SIt X tg iter fi) (hg : ∀ i : Bx, STg (blkX X scope i) tg ts g) (ht : ∀ i : Bx, STs (blkX X scope i) ifs ft) (he : ∀ i : Bx, SVal (blkX X scope i) elt fe) :
    ∃ wi tgr tt te, PI X tg iter wi ∧ (∀ i : Bx, PG (blkX X scope i) tg tgr) ∧ (∀ i : Bx, PTs (blkX X scope i) ifs tt) ∧ (∀ i : Bx, PE (blkX X scope i) elt te) ∧
      ∀ F C s σ H Q ds s', F.K = X.K → Good F C Z0 s σ H → lcF (own.map (·.2)) fi g ft fe s = some (ds, s') →
        (∀ p us C' H', Fresh F C s σ H C' s' H' p → H' p = some (.lst us) → RepL F.K (fun a => Wf F C' s'.env σ a ∨ a = p) H' ds us → Q (.ref p) H') → tLc wi tgr tt te (own.map (·.2)) σ H Q := by
  obtain ⟨wi, pi, qi⟩ := hi
  obtain ⟨tgr, pg, qg⟩ := STg.fam hg
  obtain ⟨tt, pt, qt⟩ := STs.fam ht
  obtain ⟨te, pe, qe⟩ := SVal.fam he
  refine ⟨wi, tgr, tt, te, pi, pg, pt, pe, fun F C s σ H Q ds s' hK G e q => ?_⟩
  generalize hvs : own.map (·.2) = vs at hts e ⊢
  obtain ⟨⟨its, s1⟩, h1, h⟩ := Option.bind_eq_some_iff.mp e
  obtain ⟨⟨ds', s''⟩, h2, h⟩ := Option.bind_eq_some_iff.mp h
  simp only at h h2
  split at h
  case isFalse => cases h
  rename_i hsz
  cases h
  have hlen := sizeOk_lt hsz
  refine qi F C s σ H _ its s1 hK G h1 fun J C1 H1 a1 iok => ?_
  intro D hD
  have G1 := a1.1
  let Inv' : Nat → Hp → Prop := fun i H2 => ∃ C2 s2 acc us rest, Good F C2 (fun a => a = D) s2 σ H2 ∧ Stp (Wf F C1 s1.env σ) H1 (fun a => Wf F C2 s2.env σ a ∨ a = D) H2 ∧ ¬ Wf F C2 s2.env σ D ∧ H2 D = some (.lst us) ∧
    RepL F.K (fun a => Wf F C2 s2.env σ a ∨ a = D) H2 acc us ∧ lcGo vs g ft fe (its.drop i) s2 = some (rest, s') ∧ ds = acc ++ rest
  have hD0 : F.H0 D = none := G1.h0 hD
  refine ⟨fun i m H2 => m = its.length - i ∧ i ≤ its.length ∧ Inv' i H2, ⟨its.length, rfl, Nat.zero_le _, C1, s1, [], [], ds, G1.alloc hD (fun a e => .inl e), Stp.alloc hD (fun a w => w), G1.nw hD, upd_same, RepL.nil, h2, rfl⟩, ?_⟩
  rintro i m H2 ⟨hm, hile, C2, s2, acc, us, rest, G2, st2, nw2, hd2, r2, go2, e2⟩
  have later : Later F (Wf F C1 s1.env σ) H1 (fun a => Wf F C2 s2.env σ a ∨ a = D) H2 := ⟨st2, G2.ext⟩
  obtain ⟨iok1, iok2⟩ := iok _ _ later i
  by_cases hlt : i < its.length
  case neg =>
    have ei : i = its.length := by omega
    refine .inl ⟨iok2 (by omega), ?_⟩
    rw [ei, List.drop_length] at go2
    cases go2
    rw [List.append_nil] at e2
    subst e2
    exact q D us C2 H2 ⟨G2, a1.2.trans st2, nw2, hD0⟩ hd2 r2
  case pos =>
    obtain ⟨go, yl⟩ := iok1 hlt
    refine .inr ⟨go, fun H' => ∃ m', m' < m ∧ m' = its.length - (i + 1) ∧ i + 1 ≤ its.length ∧ Inv' (i + 1) H', fun H' ⟨m', h1, h2, h3, h4⟩ => ⟨m', h1, h2, h3, h4⟩, fun x H3 y => ?_⟩
    obtain ⟨it, ei, ir, e3⟩ := yl x H3 y
    rw [List.drop_eq_getElem_cons hlt] at go2
    have eit : its[i] = it := by
      rw [List.getElem?_eq_getElem hlt] at ei
      exact Option.some.inj ei
    rw [eit] at go2
    obtain ⟨⟨od, s6⟩, g1, g2⟩ := Option.bind_eq_some_iff.mp go2
    obtain ⟨⟨rest2, s7⟩, g3, g4⟩ := Option.map_eq_some_iff.mp g2
    -- the pair that the walk lays
    have key : Good F C2 (fun a => a = D) s2 σ H3 ∧ Stp (fun a => Wf F C2 s2.env σ a ∨ a = D) H2 (fun a => Wf F C2 s2.env σ a ∨ a = D) H3 ∧ H3 D = some (.lst us) := by
      rcases e3 with e3 | ⟨p, o, hp, e3⟩
      · rw [e3]
        exact ⟨G2, Stp.refl, hd2⟩
      · rw [e3]
        refine ⟨G2.alloc hp (fun a e => .inr e), Stp.alloc hp (fun a w => .inl w), ?_⟩
        rw [upd_ne (fun z => by rw [← z, hd2] at hp; cases hp)]
        exact hd2
    obtain ⟨G3, st3, hd3⟩ := key
    have hz : ∀ a, a = D → mutk (H3 a) := fun a e => by
      rw [e, hd3]
      trivial
    have r3 := r2.stp st3
    obtain ⟨s8, g5, g6⟩ := Option.bind_eq_some_iff.mp g1
    obtain ⟨⟨b, s9⟩, g7, g8⟩ := Option.bind_eq_some_iff.mp g6
    have Gs := G3.sub hz vs
    have ir' : IRep (subFr G3 hz).K (Wf (subFr G3 hz) C2 (subS vs s2).env (wipe σ vs)) H3 it x := by
      have mono : ∀ a, Wf (subFr G3 hz) C2 (subS vs s2).env (wipe σ vs) a → Wf F C2 s2.env σ a ∨ a = D := fun a w => sub_wf G3 hz vs w
      cases it with
      | one d => exact Rep.mono (W := fun a => Wf F C2 s2.env σ a ∨ a = D) mono (show Rep _ _ _ _ _ from ir)
      | two a b =>
        obtain ⟨p, v, u, ex, hp, ra, rb⟩ := ir
        exact ⟨p, v, u, ex, hp, ra.mono mono, rb.mono mono⟩
    refine qg (subFr G3 hz) C2 (subS vs s2) (wipe σ vs) H3 it x s8 _ hK Gs ir' g5 fun σ4 G4 st4 w4 => ⟨?_, ?_⟩
    · rw [w4 vs hts]
      exact wipe_wipe σ vs vs fun i hi => hi
    · refine qt (subFr G3 hz) C2 s8 σ4 H3 _ b s9 hK G4 g7 fun C5 H5 a5 => ?_
      cases b with
      | false =>
        simp only [Bool.false_eq_true, if_false] at g8 ⊢
        cases g8
        obtain ⟨G6, st6, nw6, hd6, _⟩ := turn_upd G3 hz nw2 hD0 a5.1 (.lst us)
        have eu : upd H5 D (.lst us) = H5 := upd_own (hd6.trans hd3)
        rw [eu] at G6 st6
        refine ⟨its.length - (i + 1), by omega, rfl, hlt, C5, _, acc, us, rest, G6, (st2.trans st3).trans st6, nw6, hd6.trans hd3, r3.stp st6 _ _, ?_, e2⟩
        rw [g3]
        cases g4
        rfl
      | true =>
        simp only [if_true] at g8 ⊢
        obtain ⟨⟨d, s10⟩, g9, g10⟩ := Option.map_eq_some_iff.mp g8
        cases g10
        refine qe (subFr G3 hz) C5 s9 σ4 H5 _ d s10 hK a5.1 g9 fun v C6 H6 a6 r6 => ?_
        obtain ⟨G7, st7, nw7, hd7, st8⟩ := turn_upd G3 hz nw2 hD0 a6.1 (.lst (us ++ [v]))
        cases g4
        have hl : us.length < sizeLine := by
          have z := r2.length
          have z2 := congrArg List.length e2
          have z3 := sizeLine_big
          rw [List.length_append] at z2
          omega
        refine ⟨us, hd7.trans hd3, hl, its.length - (i + 1), by omega, rfl, hlt, C6, _, acc ++ [d], us ++ [v], rest2, G7, (st2.trans st3).trans st7, nw7, upd_same, ?_, g3, by simpa using e2⟩
        exact (r3.stp st7 _ _).append (.one (r6.stp st8 _ _))
theorem sf_lc (cx : CtxOk X N S k) {fi : State → Option (List Item × State)} {g : Item → State → Option State} {ft : State → Option (Bool × State)} {fe : State → Option (D × State)} {ts : List Nat} (hts : ∀ i ∈ ts, i ∈ own.map (·.2)) (ok : blkC N S.sc scope own = true)
    (hs : ∀ x, foldedSetIterable iter X.env x = pure x)
    (hi : SIt X tg iter fi) (hg : ∀ i : Bx, STg (blkX X scope i) tg ts g) (ht : ∀ i : Bx, STs (blkX X scope i) ifs ft) (he : ∀ i : Bx, SVal (blkX X scope i) elt fe) :
    SFr X (.ListComp elt [⟨tg, iter, ifs, 0⟩] scope pos) (lcF (own.map (·.2)) fi g ft fe) := by
  obtain ⟨wi, tgr, tt, te, pi, pg, pt, pe, q⟩ := lc_parts cx hts hi hg ht he
  have ok' : BlkOk X.N X.env.scope scope own := by
    rw [cx.n, cx.sc]
    exact blkOk_by ok
  exact ⟨_, pe_lc cx.calm cx.ndX pi ok' (fun s H C cl fp => pg (s, H, C, cl, fp)) (fun s H C cl fp => pt (s, H, C, cl, fp)) (fun s H C cl fp => pe (s, H, C, cl, fp)) hs, q⟩

/-! ### {kx: vx for tg in iter if ..} -/
def dcTurn (vs : List Nat) (g : Item → State → Option State) (ft : State → Option (Bool × State)) (fk fe : State → Option (D × State)) (it : Item) (s : State) : Option (Option (D × D) × State) :=
  (g it (subS vs s)).bind fun s1 => (ft s1).bind fun b => if b.1 then (fk b.2).bind fun kk => if isKey kk.1 then (fe kk.2).map fun r => (some (kk.1, r.1), ⟨s.env, r.2.cs⟩) else none else some (none, ⟨s.env, b.2.cs⟩)
def dcGo (vs : List Nat) (g : Item → State → Option State) (ft : State → Option (Bool × State)) (fk fe : State → Option (D × State)) : List Item → State → List (D × D) → Option (List (D × D) × State)
  | [], s, acc => some (acc, s)
  | it :: its, s, acc => (dcTurn vs g ft fk fe it s).bind fun r => match r.1 with
    | some (a, b) => if sizeOk acc.length then dcGo vs g ft fk fe its r.2 (put a b acc) else none
    | none => dcGo vs g ft fk fe its r.2 acc
def dcF (vs : List Nat) (fi : State → Option (List Item × State)) (g : Item → State → Option State) (ft : State → Option (Bool × State)) (fk fe : State → Option (D × State)) (s : State) : Option (List (D × D) × State) :=
  (fi s).bind fun p => dcGo vs g ft fk fe p.1 p.2 []
theorem dc_parts (cx : CtxOk X N S k) {kx vx : Expr} {fi : State → Option (List Item × State)} {g : Item → State → Option State} {ft : State → Option (Bool × State)} {fk fe : State → Option (D × State)} {ts : List Nat} (hts : ∀ i ∈ ts, i ∈ own.map (·.2))
    (hi : SIt X tg iter fi) (hg : ∀ i : Bx, STg (blkX X scope i) tg ts g) (ht : ∀ i : Bx, STs (blkX X scope i) ifs ft) (hk : ∀ i : Bx, SVal (blkX X scope i) kx fk) (he : ∀ i : Bx, SVal (blkX X scope i) vx fe) :
    ∃ wi tgr tt tk te, PI X tg iter wi ∧ (∀ i : Bx, PG (blkX X scope i) tg tgr) ∧ (∀ i : Bx, PTs (blkX X scope i) ifs tt) ∧ (∀ i : Bx, PE (blkX X scope i) kx tk) ∧ (∀ i : Bx, PE (blkX X scope i) vx te) ∧
      ∀ F C s σ H Q ds s', F.K = X.K → Good F C Z0 s σ H → dcF (own.map (·.2)) fi g ft fk fe s = some (ds, s') →
        (∀ p us C' H', Fresh F C s σ H C' s' H' p → H' p = some (.dK us) → RepKV F.K (fun a => Wf F C' s'.env σ a ∨ a = p) H' ds us → Q (.ref p) H') → tDc wi tgr tt tk te (own.map (·.2)) σ H Q := by
  obtain ⟨wi, pi, qi⟩ := hi
  obtain ⟨tgr, pg, qg⟩ := STg.fam hg
  obtain ⟨tt, pt, qt⟩ := STs.fam ht
  obtain ⟨tk, pk, qk⟩ := SVal.fam hk
  obtain ⟨te, pe, qe⟩ := SVal.fam he
  refine ⟨wi, tgr, tt, tk, te, pi, pg, pt, pk, pe, fun F C s σ H Q ds s' hK G e q => ?_⟩
  generalize hvs : own.map (·.2) = vs at hts e ⊢
  obtain ⟨⟨its, s1⟩, h1, h2⟩ := Option.bind_eq_some_iff.mp e
  simp only at h2
  refine qi F C s σ H _ its s1 hK G h1 fun J C1 H1 a1 iok => ?_
  intro D hD
  have G1 := a1.1
  let Inv' : Nat → Hp → Prop := fun i H2 => ∃ C2 s2 acc us, Good F C2 (fun a => a = D) s2 σ H2 ∧ Stp (Wf F C1 s1.env σ) H1 (fun a => Wf F C2 s2.env σ a ∨ a = D) H2 ∧ ¬ Wf F C2 s2.env σ D ∧ H2 D = some (.dK us) ∧
    RepKV F.K (fun a => Wf F C2 s2.env σ a ∨ a = D) H2 acc us ∧ dcGo vs g ft fk fe (its.drop i) s2 acc = some (ds, s')
  have hD0 : F.H0 D = none := G1.h0 hD
  refine ⟨fun i m H2 => m = its.length - i ∧ i ≤ its.length ∧ Inv' i H2, ⟨its.length, rfl, Nat.zero_le _, C1, s1, [], [], G1.alloc hD (fun a e => .inl e), Stp.alloc hD (fun a w => w), G1.nw hD, upd_same, by simp [RepKV], h2⟩, ?_⟩
  rintro i m H2 ⟨hm, hile, C2, s2, acc, us, G2, st2, nw2, hd2, r2, go2⟩
  have later : Later F (Wf F C1 s1.env σ) H1 (fun a => Wf F C2 s2.env σ a ∨ a = D) H2 := ⟨st2, G2.ext⟩
  obtain ⟨iok1, iok2⟩ := iok _ _ later i
  by_cases hlt : i < its.length
  case neg =>
    have ei : i = its.length := by omega
    refine .inl ⟨iok2 (by omega), ?_⟩
    rw [ei, List.drop_length] at go2
    cases go2
    exact q D us C2 H2 ⟨G2, a1.2.trans st2, nw2, hD0⟩ hd2 r2
  case pos =>
    obtain ⟨go, yl⟩ := iok1 hlt
    refine .inr ⟨go, fun H' => ∃ m', m' < m ∧ m' = its.length - (i + 1) ∧ i + 1 ≤ its.length ∧ Inv' (i + 1) H', fun H' ⟨m', h1, h2, h3, h4⟩ => ⟨m', h1, h2, h3, h4⟩, fun x H3 y => ?_⟩
    obtain ⟨it, ei, ir, e3⟩ := yl x H3 y
    rw [List.drop_eq_getElem_cons hlt] at go2
    have eit : its[i] = it := by
      rw [List.getElem?_eq_getElem hlt] at ei
      exact Option.some.inj ei
    rw [eit] at go2
    obtain ⟨⟨od, s6⟩, g1, g2⟩ := Option.bind_eq_some_iff.mp go2
    have key : Good F C2 (fun a => a = D) s2 σ H3 ∧ Stp (fun a => Wf F C2 s2.env σ a ∨ a = D) H2 (fun a => Wf F C2 s2.env σ a ∨ a = D) H3 ∧ H3 D = some (.dK us) := by
      rcases e3 with e3 | ⟨p, o, hp, e3⟩
      · rw [e3]
        exact ⟨G2, Stp.refl, hd2⟩
      · rw [e3]
        refine ⟨G2.alloc hp (fun a e => .inr e), Stp.alloc hp (fun a w => .inl w), ?_⟩
        rw [upd_ne (fun z => by rw [← z, hd2] at hp; cases hp)]
        exact hd2
    obtain ⟨G3, st3, hd3⟩ := key
    have hz : ∀ a, a = D → mutk (H3 a) := fun a e => by
      rw [e, hd3]
      trivial
    have r3 := r2.stp st3
    obtain ⟨s8, g5, g6⟩ := Option.bind_eq_some_iff.mp g1
    obtain ⟨⟨b, s9⟩, g7, g8⟩ := Option.bind_eq_some_iff.mp g6
    have Gs := G3.sub hz vs
    have ir' : IRep (subFr G3 hz).K (Wf (subFr G3 hz) C2 (subS vs s2).env (wipe σ vs)) H3 it x := by
      have mono : ∀ a, Wf (subFr G3 hz) C2 (subS vs s2).env (wipe σ vs) a → Wf F C2 s2.env σ a ∨ a = D := fun a w => sub_wf G3 hz vs w
      cases it with
      | one d => exact Rep.mono (W := fun a => Wf F C2 s2.env σ a ∨ a = D) mono (show Rep _ _ _ _ _ from ir)
      | two a b =>
        obtain ⟨p, v, u, ex, hp, ra, rb⟩ := ir
        exact ⟨p, v, u, ex, hp, ra.mono mono, rb.mono mono⟩
    refine qg (subFr G3 hz) C2 (subS vs s2) (wipe σ vs) H3 it x s8 _ hK Gs ir' g5 fun σ4 G4 st4 w4 => ⟨?_, ?_⟩
    · rw [w4 vs hts]
      exact wipe_wipe σ vs vs fun i hi => hi
    · refine qt (subFr G3 hz) C2 s8 σ4 H3 _ b s9 hK G4 g7 fun C5 H5 a5 => ?_
      cases b with
      | false =>
        simp only [Bool.false_eq_true, if_false] at g8 ⊢
        cases g8
        obtain ⟨G6, st6, nw6, hd6, _⟩ := turn_upd G3 hz nw2 hD0 a5.1 (.dK us)
        have eu : upd H5 D (.dK us) = H5 := upd_own (hd6.trans hd3)
        rw [eu] at G6 st6
        exact ⟨its.length - (i + 1), by omega, rfl, hlt, C5, _, acc, us, G6, (st2.trans st3).trans st6, nw6, hd6.trans hd3, r3.stp st6 _ _, g2⟩
      | true =>
        simp only [if_true] at g8 ⊢
        obtain ⟨⟨kd, s10⟩, g9, g10⟩ := Option.bind_eq_some_iff.mp g8
        simp only at g10
        split at g10
        case isFalse => cases g10
        rename_i hkey
        obtain ⟨⟨d, s11⟩, g11, g12⟩ := Option.map_eq_some_iff.mp g10
        cases g12
        simp only at g2
        split at g2
        case isFalse => cases g2
        rename_i hsz
        refine qk (subFr G3 hz) C5 s9 σ4 H5 _ kd s10 hK a5.1 g9 fun kv C6 H6 a6 r6 => ?_
        refine qe (subFr G3 hz) C6 s10 σ4 H6 _ d s11 hK a6.1 g11 fun v C7 H7 a7 r7 => ?_
        obtain ⟨kq, rfl⟩ := key_of hkey
        obtain ⟨G8, st8, nw8, hd8, st9⟩ := turn_upd G3 hz nw2 hD0 a7.1 (.dK (putK us kq v))
        have hl : us.length < sizeLine := by
          have z := r2.len
          have z2 := sizeOk_lt hsz
          have z3 := sizeLine_big
          omega
        refine ⟨us, kq, rr_key (Rep.r r6), hd8.trans hd3, hl, its.length - (i + 1), by omega, rfl, hlt, C7, _, put (keyD kq) d acc, putK us kq v, G8, (st2.trans st3).trans st8, nw8, upd_same, ?_, g2⟩
        exact RepKV.put (r7.stp st9 _ _) (r3.stp st8 _ _)
theorem sd_dc (cx : CtxOk X N S k) {kx vx : Expr} {fi : State → Option (List Item × State)} {g : Item → State → Option State} {ft : State → Option (Bool × State)} {fk fe : State → Option (D × State)} {ts : List Nat} (hts : ∀ i ∈ ts, i ∈ own.map (·.2)) (ok : blkC N S.sc scope own = true)
    (hs : ∀ x, foldedSetIterable iter X.env x = pure x)
    (hi : SIt X tg iter fi) (hg : ∀ i : Bx, STg (blkX X scope i) tg ts g) (ht : ∀ i : Bx, STs (blkX X scope i) ifs ft) (hk : ∀ i : Bx, SVal (blkX X scope i) kx fk) (he : ∀ i : Bx, SVal (blkX X scope i) vx fe) :
    SFd X (.DictComp kx vx [⟨tg, iter, ifs, 0⟩] scope pos) (dcF (own.map (·.2)) fi g ft fk fe) := by
  obtain ⟨wi, tgr, tt, tk, te, pi, pg, pt, pk, pe, q⟩ := dc_parts cx hts hi hg ht hk he
  have ok' : BlkOk X.N X.env.scope scope own := by
    rw [cx.n, cx.sc]
    exact blkOk_by ok
  exact ⟨_, pe_dc cx.calm cx.ndX pi ok' (fun s H C cl fp => pg (s, H, C, cl, fp)) (fun s H C cl fp => pt (s, H, C, cl, fp)) (fun s H C cl fp => pk (s, H, C, cl, fp)) (fun s H C cl fp => pe (s, H, C, cl, fp)) hs, q⟩
end
end IR

end
section
/-! Ir13: statements. -/
namespace IR
open PySem PySem.Spec PyProof.Rows L2

def SSt (X : Cx) (st : Stmt) (f : State → Option (Out × State)) : Prop := ∃ t : TS, PS X st t ∧ ∀ F C s σ H Dn out s', F.K = X.K → Good F C Z0 s σ H → f s = some (out, s') → EndOk F C s σ H Dn s' out → t Dn σ H
def bNil (s : State) : Option (Out × State) := some (.next, s)
def bCons (f g : State → Option (Out × State)) (s : State) : Option (Out × State) := (f s).bind fun p => match p.1 with
  | .next => g p.2
  | o => some (o, p.2)
section
variable {F : Fr} {C C1 : List Addr} {s s1 s' : State} {σ σ1 : L2.St} {H H1 : Hp} {Dn : Ends} {out : Out}
theorem EndOk.after (st : Stp (Wf F C s.env σ) H (Wf F C1 s1.env σ1) H1) (h : EndOk F C s σ H Dn s' out) : EndOk F C1 s1 σ1 H1 Dn s' out := by
  cases out with
  | next => exact fun σ' C' H' G' st' => h σ' C' H' G' (st.trans st')
  | brk => exact fun σ' C' H' G' st' => h σ' C' H' G' (st.trans st')
  | cont => exact fun σ' C' H' G' st' => h σ' C' H' G' (st.trans st')
  | ret d => exact h
end
section
variable {X : Cx} {N : List Str} {S : Sco} {k : Nat} {st : Stmt} {rest a b body : List Stmt} {c e tg iter : Expr} {pos : Pos}
theorem sb_nil : SBlk X [] bNil :=
  ⟨_, pss_nil, fun F C s σ H Dn out s' hK G e q => by cases e; exact q σ C H G Stp.refl⟩
theorem sb_cons {f g : State → Option (Out × State)} (h1 : SSt X st f) (h2 : SBlk X rest g) : SBlk X (st :: rest) (bCons f g) := by
  obtain ⟨t, pt, q0⟩ := h1
  obtain ⟨u, pu, q1⟩ := h2
  refine ⟨_, pss_cons pt pu, fun F C s σ H Dn out s' hK G e q => ?_⟩
  obtain ⟨⟨o1, s1⟩, e1, e2⟩ := Option.bind_eq_some_iff.mp e
  refine q0 F C s σ H { Dn with nx := u Dn } o1 s1 hK G e1 ?_
  cases o1 with
  | next => exact fun σ' C' H' G' st' => q1 F C' s1 σ' H' Dn out s' hK G' e2 (q.after st')
  | ret d =>
    cases e2
    exact q
  | brk =>
    cases e2
    exact q
  | cont =>
    cases e2
    exact q
def neverF (s : State) : Option (Out × State) := none
theorem ss_never : SSt X st neverF := ⟨_, ps_never, fun F C s σ H Dn out s' hK G e q => by cases e⟩
theorem ss_doc {x : Str} {j : Nat} {pos' : Pos} : SSt X (.Expr (.Constant (.str x) j pos) pos') bNil := ⟨_, ps_doc, fun F C s σ H Dn out s' hK G e q => by cases e; exact q σ C H G Stp.refl⟩
theorem ss_pass : SSt X (.Pass pos) bNil := ⟨_, ps_pass, fun F C s σ H Dn out s' hK G e q => by cases e; exact q σ C H G Stp.refl⟩
def brkF (s : State) : Option (Out × State) := some (.brk, s)
def contF (s : State) : Option (Out × State) := some (.cont, s)
theorem ss_break : SSt X (.Break pos) brkF := ⟨_, ps_break, fun F C s σ H Dn out s' hK G e q => by cases e; exact q σ C H G Stp.refl⟩
theorem ss_cont : SSt X (.Continue pos) contF := ⟨_, ps_continue, fun F C s σ H Dn out s' hK G e q => by cases e; exact q σ C H G Stp.refl⟩
theorem retOk {F : Fr} {C : List Addr} {s : State} {σ : L2.St} {H : Hp} (G : Good F C Z0 s σ H) : RetOk F C s.cs H := by
  refine ⟨G.cell, ?_, G.ext⟩
  obtain ⟨r, e, _⟩ := G.cpre
  exact ⟨r, e⟩
def retF (f : State → Option (D × State)) (s : State) : Option (Out × State) := (f s).map fun p => (.ret p.1, p.2)
theorem ss_ret {f : State → Option (D × State)} (h : SVal X e f) : SSt X (.Return (some e) pos) (retF f) := by
  obtain ⟨t, pt, q0⟩ := h
  refine ⟨_, ps_ret pt, fun F C s σ H Dn out s' hK G e q => ?_⟩
  obtain ⟨⟨d, s1⟩, e1, e2⟩ := Option.map_eq_some_iff.mp e
  cases e2
  refine q0 F C s σ H _ d s1 hK G e1 fun v C1 H1 a1 r1 => q v C1 H1 (retOk a1.1) (r1.mono fun b w => ?_)
  rcases w with w | w
  · exact .inl w
  · exact .inr (.inl w)
def retN (s : State) : Option (Out × State) := some (.ret .none, s)
theorem ss_retN : SSt X (.Return none pos) retN :=
  ⟨_, ps_retN, fun F C s σ H Dn out s' hK G e q => by cases e; exact q .non C H (retOk G) rp_none⟩
def dropF (f : State → Option (D × State)) (s : State) : Option (Out × State) := (f s).map fun p => (.next, p.2)
theorem ss_expr {f : State → Option (D × State)} (h : SVal X e f) (hs : swapsWith e none pos.line X.env = pure false) : SSt X (.Expr e pos) (dropF f) := by
  obtain ⟨t, pt, q0⟩ := h
  refine ⟨_, ps_expr pt hs, fun F C s σ H Dn out s' hK G e q => ?_⟩
  obtain ⟨⟨d, s1⟩, e1, e2⟩ := Option.map_eq_some_iff.mp e
  cases e2
  exact q0 F C s σ H _ d s1 hK G e1 fun v C1 H1 a1 r1 => q σ C1 H1 a1.1 a1.2
def sIf (c : State → Option (Bool × State)) (f g : State → Option (Out × State)) (s : State) : Option (Out × State) := (c s).bind fun p => if p.1 then f p.2 else g p.2
theorem ss_if {fc : State → Option (Bool × State)} {f g : State → Option (Out × State)} (hc : STst X c fc) (ha : SBlk X a f) (hb : SBlk X b g) : SSt X (.If c a b pos) (sIf fc f g) := by
  obtain ⟨tc, pc, qc⟩ := hc
  obtain ⟨t, pt, q0⟩ := ha
  obtain ⟨u, pu, q1⟩ := hb
  refine ⟨_, ps_if pc pt pu, fun F C s σ H Dn out s' hK G e q => ?_⟩
  obtain ⟨⟨k1, s1⟩, e1, e2⟩ := Option.bind_eq_some_iff.mp e
  refine qc F C s σ H _ k1 s1 hK G e1 fun C1 H1 a1 => ?_
  cases k1 with
  | true => exact q0 F C1 s1 σ H1 Dn out s' hK a1.1 e2 (q.after a1.2)
  | false => exact q1 F C1 s1 σ H1 Dn out s' hK a1.1 e2 (q.after a1.2)

/-! ### stores -/
/-- what is stored in a slot: a value, a list or a dict of one's own, a cell -/
def setB (i : Nat) (ds : List D) (s : State) : State := { s with env := s.env.set i (.box ds) }
def setDB (i : Nat) (ds : List (D × D)) (s : State) : State := { s with env := s.env.set i (.dbox ds) }
theorem wf_set {F : Fr} {C : List Addr} {s : State} {σ : L2.St} {i : Nat} {sl : Slot} {p : Addr} {a : Addr} (w : Wf F C (s.env.set i sl) (σ.set i (some (.ref p))) a) : Wf F C s.env σ a ∨ a = p := by
  rcases w with w | w | ⟨j, w⟩
  · exact .inl (.inl w)
  · exact .inl (.inr (.inl w))
  · rcases bxAt_set w with ⟨_, w⟩ | ⟨_, _, z⟩
    · exact .inl (.inr (.inr ⟨j, w⟩))
    · cases z
      exact .inr rfl
def asgV (i : Nat) (f : State → Option (D × State)) (s : State) : Option (Out × State) := (f s).map fun p => (.next, setV i p.1 p.2)
def asgB (i : Nat) (f : State → Option (List D × State)) (s : State) : Option (Out × State) := (f s).map fun p => (.next, setB i p.1 p.2)
def asgD (i : Nat) (f : State → Option (List (D × D) × State)) (s : State) : Option (Out × State) := (f s).map fun p => (.next, setDB i p.1 p.2)
def asgC (i : Nat) (f : State → Option (List D × State)) (s : State) : Option (Out × State) := (f s).bind fun p => (allInts p.1).map fun ns => (.next, ⟨p.2.env.set i (.cell p.2.cs.length), p.2.cs ++ [ns]⟩)
theorem endV {F : Fr} {C C1 : List Addr} {s s1 : State} {σ : L2.St} {H H1 : Hp} {Dn : Ends} {i : Nat} {d : D} {v : V} (a1 : Aft F C s σ H C1 s1 H1) (r1 : Rep F.K (Wf F C1 s1.env σ) H1 d v) (q : EndOk F C s σ H Dn (setV i d s1) .next) : Dn.nx (σ.set i (some v)) H1 :=
  q _ C1 H1 (a1.1.set_val r1) (a1.2.trans fun a o e n => ⟨e, fun w => n (wf_setV w)⟩)
theorem endB {F : Fr} {C C1 : List Addr} {s s1 : State} {σ : L2.St} {H H1 : Hp} {Dn : Ends} {i : Nat} {ds : List D} {p : Addr} {vs : List V} (f1 : Fresh F C s σ H C1 s1 H1 p) (hp : H1 p = some (.lst vs)) (rl : RepL F.K (fun a => Wf F C1 s1.env σ a ∨ a = p) H1 ds vs) (q : EndOk F C s σ H Dn (setB i ds s1) .next) : Dn.nx (σ.set i (some (.ref p))) H1 :=
  q _ C1 H1 (f1.1.set_box f1.2.2.1 f1.2.2.2 hp rl) fun a o e n => by
    obtain ⟨e2, n2⟩ := f1.2.1 a o e n
    exact ⟨e2, fun w => n2 (wf_set w)⟩
theorem endD {F : Fr} {C C1 : List Addr} {s s1 : State} {σ : L2.St} {H H1 : Hp} {Dn : Ends} {i : Nat} {ds : List (D × D)} {p : Addr} {vs : List (Key × V)} (f1 : Fresh F C s σ H C1 s1 H1 p) (hp : H1 p = some (.dK vs)) (rl : RepKV F.K (fun a => Wf F C1 s1.env σ a ∨ a = p) H1 ds vs) (q : EndOk F C s σ H Dn (setDB i ds s1) .next) : Dn.nx (σ.set i (some (.ref p))) H1 :=
  q _ C1 H1 (f1.1.set_dbox f1.2.2.1 f1.2.2.2 hp rl) fun a o e n => by
    obtain ⟨e2, n2⟩ := f1.2.1 a o e n
    exact ⟨e2, fun w => n2 (wf_set w)⟩
section
variable {i : Nat} {x : Str} {pos' : Pos}
theorem ss_setV (cx : CtxOk X N S k) (hi : N[i]? = some x) (hx : locB S.sc x = true) (hf : (S.fn x || localB S.sc x) = true) (hs : swapsWith e (some (.Name x pos')) pos.line X.env = pure false) {f : State → Option (D × State)} (h : SVal X e f) :
    SSt X (.Assign [.Name x pos'] e pos) (asgV i f) := by
  obtain ⟨t, pt, q0⟩ := h
  refine ⟨_, ps_set cx.ndX (cx.nm hi) (cx.loc hx) pt hs (cx.fnOr hf), fun F C s σ H Dn out s' hK G e q => ?_⟩
  obtain ⟨⟨d, s1⟩, e1, e2⟩ := Option.map_eq_some_iff.mp e
  cases e2
  exact q0 F C s σ H _ d s1 hK G e1 fun v C1 H1 a1 r1 => endV a1 r1 q
theorem ss_setB (cx : CtxOk X N S k) (hi : N[i]? = some x) (hx : locB S.sc x = true) (hf : (S.fn x || localB S.sc x) = true) (hs : swapsWith e (some (.Name x pos')) pos.line X.env = pure false) {f : State → Option (List D × State)} (h : SFr X e f) :
    SSt X (.Assign [.Name x pos'] e pos) (asgB i f) := by
  obtain ⟨t, pt, q0⟩ := h
  refine ⟨_, ps_set cx.ndX (cx.nm hi) (cx.loc hx) pt hs (cx.fnOr hf), fun F C s σ H Dn out s' hK G e q => ?_⟩
  obtain ⟨⟨d, s1⟩, e1, e2⟩ := Option.map_eq_some_iff.mp e
  cases e2
  exact q0 F C s σ H _ d s1 hK G e1 fun p vs C1 H1 f1 hp rl => endB f1 hp rl q
theorem ss_setD (cx : CtxOk X N S k) (hi : N[i]? = some x) (hx : locB S.sc x = true) (hf : (S.fn x || localB S.sc x) = true) (hs : swapsWith e (some (.Name x pos')) pos.line X.env = pure false) {f : State → Option (List (D × D) × State)} (h : SFd X e f) :
    SSt X (.Assign [.Name x pos'] e pos) (asgD i f) := by
  obtain ⟨t, pt, q0⟩ := h
  refine ⟨_, ps_set cx.ndX (cx.nm hi) (cx.loc hx) pt hs (cx.fnOr hf), fun F C s σ H Dn out s' hK G e q => ?_⟩
  obtain ⟨⟨d, s1⟩, e1, e2⟩ := Option.map_eq_some_iff.mp e
  cases e2
  exact q0 F C s σ H _ d s1 hK G e1 fun p vs C1 H1 f1 hp rl => endD f1 hp rl q
theorem ss_setC (cx : CtxOk X N S k) (hi : N[i]? = some x) (hx : locB S.sc x = true) (hf : (S.fn x || localB S.sc x) = true) (hs : swapsWith e (some (.Name x pos')) pos.line X.env = pure false) {f : State → Option (List D × State)} (h : SFr X e f) :
    SSt X (.Assign [.Name x pos'] e pos) (asgC i f) := by
  obtain ⟨t, pt, q0⟩ := h
  refine ⟨_, ps_set cx.ndX (cx.nm hi) (cx.loc hx) pt hs (cx.fnOr hf), fun F C s σ H Dn out s' hK G e q => ?_⟩
  obtain ⟨⟨d, s1⟩, e1, e2⟩ := Option.bind_eq_some_iff.mp e
  obtain ⟨ns, e3, e4⟩ := Option.map_eq_some_iff.mp e2
  cases e4
  refine q0 F C s σ H _ d s1 hK G e1 fun p vs C1 H1 f1 hp rl => ?_
  have ev := rl.intsOf e3
  subst ev
  obtain ⟨G2, hc, wf⟩ := f1.1.newcell (ns := ns) f1.2.2.1 f1.2.2.2 hp
  refine q _ (C1 ++ [p]) H1 (G2.store (i := i) (sl := .cell s1.cs.length) (o := some (.ref p)) (fun a z => z) (fun a z => by cases z) fun W hw hl => ⟨p, hc, List.getElem?_set_self hl⟩) fun a o e n => ?_
  obtain ⟨e2, n2⟩ := f1.2.1 a o e n
  refine ⟨e2, fun w => ?_⟩
  rcases wf_set w with w | w
  · exact n2 (wf a w)
  · exact n2 (.inr w)
/-- x = [.. for ..] on one row -/
theorem ss_setLc (cx : CtxOk X N S k) {elt : Expr} {ifs : List Expr} {scope : Scope} {own : List (Str × Nat)} {spos : Pos} {fi : State → Option (List Item × State)} {g : Item → State → Option State} {ft : State → Option (Bool × State)} {fe : State → Option (D × State)} {ts : List Nat}
    (hi : N[i]? = some x) (hx : localB S.sc x = true) (hsw : swapsWith (.ListComp elt [⟨tg, iter, ifs, 0⟩] scope pos) (some (.Name x pos')) spos.line X.env = pure true)
    (hts : ∀ i ∈ ts, i ∈ own.map (·.2)) (ok : blkC N S.sc scope own = true) (hs : ∀ x, foldedSetIterable iter X.env x = pure x)
    (hit : SIt X tg iter fi) (hg : ∀ i : Bx, STg (blkX X scope i) tg ts g) (ht : ∀ i : Bx, STs (blkX X scope i) ifs ft) (he : ∀ i : Bx, SVal (blkX X scope i) elt fe) :
    SSt X (.Assign [.Name x pos'] (.ListComp elt [⟨tg, iter, ifs, 0⟩] scope pos) spos) (asgB i (lcF (own.map (·.2)) fi g ft fe)) := by
  obtain ⟨wi, tgr, tt, te, pi, pg, pt, pe, q0⟩ := lc_parts cx hts hit hg ht he
  have ok' : BlkOk X.N X.env.scope scope own := by
    rw [cx.n, cx.sc]
    exact blkOk_by ok
  refine ⟨_, ps_setLc cx.calm cx.ndX (cx.nm hi) (cx.local hx) hsw pi ok' (fun s H C cl fp => pg (s, H, C, cl, fp)) (fun s H C cl fp => pt (s, H, C, cl, fp)) (fun s H C cl fp => pe (s, H, C, cl, fp)) hs, fun F C s σ H Dn out s' hK G e q => ?_⟩
  obtain ⟨⟨d, s1⟩, e1, e2⟩ := Option.map_eq_some_iff.mp e
  cases e2
  exact q0 F C s σ H _ d s1 hK G e1 fun p vs C1 H1 f1 hp rl => endB f1 hp rl q
end
/-- tuple targets -/
def asgT (g : Item → State → Option State) (f : State → Option (D × State)) (s : State) : Option (Out × State) := (f s).bind fun p => (g (.one p.1) p.2).map fun s1 => (.next, s1)
theorem ss_asg {ts : List Nat} {g : Item → State → Option State} {f : State → Option (D × State)} (h : SVal X e f) (hg : STg X tg ts g) (hs : swapsWithSole [tg] e pos.line X.env = pure false) (hw : swappedStores [tg] e X.env = pure none) (h1 : isStarT tg = false) :
    SSt X (.Assign [tg] e pos) (asgT g f) := by
  obtain ⟨t, pt, q0⟩ := h
  obtain ⟨u, pu, q1⟩ := hg
  refine ⟨_, ps_asg pt pu hs hw (by rw [assignEach_cons h1]; rfl), fun F C s σ H Dn out s' hK G e q => ?_⟩
  obtain ⟨⟨d, s1⟩, e1, e2⟩ := Option.bind_eq_some_iff.mp e
  obtain ⟨s2, e3, e4⟩ := Option.map_eq_some_iff.mp e2
  cases e4
  refine q0 F C s σ H _ d s1 hK G e1 fun v C1 H1 a1 r1 => ?_
  exact q1 F C1 s1 σ H1 (.one d) v _ _ hK a1.1 r1 e3 fun σ' G' st' _ => q σ' C1 H1 G' (a1.2.trans st')

/-! ### loops -/
def forGo (g : Item → State → Option State) (fb : State → Option (Out × State)) : List Item → State → Option (Out × State)
  | [], s => some (.next, s)
  | it :: its, s => (g it s).bind fun s1 => (fb s1).bind fun p => match p.1 with
    | .next => forGo g fb its p.2
    | .cont => forGo g fb its p.2
    | .brk => some (.next, p.2)
    | .ret d => some (.ret d, p.2)
def forF (fi : State → Option (List Item × State)) (g : Item → State → Option State) (fb : State → Option (Out × State)) (s : State) : Option (Out × State) := (fi s).bind fun p => forGo g fb p.1 p.2
theorem ss_for (cx : CtxOk X N S k) {fi : State → Option (List Item × State)} {ts : List Nat} {g : Item → State → Option State} {fb : State → Option (Out × State)} (hi : SIt X tg iter fi) (hg : STg X tg ts g) (hb : SBlk X body fb) (hs : ∀ x, foldedSetIterable iter X.env x = pure x) :
    SSt X (.For tg iter body [] pos) (forF fi g fb) := by
  obtain ⟨wi, pi, qi⟩ := hi
  obtain ⟨tr, pg, qg⟩ := hg
  obtain ⟨tb, pb, qb⟩ := hb
  have own : PassesOwn (model X.prog X.w) X.A X.env X.xe := by
    rw [cx.xe]
    exact PassesOwn.never
  refine ⟨_, ps_for own cx.calm pi pg pb hs, fun F C s σ H Dn out s' hK G e q => ?_⟩
  obtain ⟨⟨its, s1⟩, h1, h2⟩ := Option.bind_eq_some_iff.mp e
  simp only at h2
  refine qi F C s σ H _ its s1 hK G h1 fun J C1 H1 a1 iok => ?_
  have q1 := q.after a1.2
  let Inv' : Nat → L2.St → Hp → Prop := fun i σ2 H2 => ∃ C2 s2, Good F C2 Z0 s2 σ2 H2 ∧ Stp (Wf F C1 s1.env σ) H1 (Wf F C2 s2.env σ2) H2 ∧ forGo g fb (its.drop i) s2 = some (out, s')
  refine ⟨fun i m σ2 H2 => m = its.length - i ∧ i ≤ its.length ∧ Inv' i σ2 H2, ⟨its.length, rfl, Nat.zero_le _, C1, s1, a1.1, Stp.refl, h2⟩, ?_⟩
  rintro i m σ2 H2 ⟨hm, hile, C2, s2, G2, st2, go2⟩
  obtain ⟨iok1, iok2⟩ := iok _ _ ⟨st2, G2.ext⟩ i
  have q2 := q1.after st2
  by_cases hlt : i < its.length
  case neg =>
    have ei : i = its.length := by omega
    refine .inl ⟨iok2 (by omega), ?_⟩
    rw [ei, List.drop_length] at go2
    cases go2
    exact q2 σ2 C2 H2 G2 Stp.refl
  case pos =>
    obtain ⟨go, yl⟩ := iok1 hlt
    refine .inr ⟨go, fun σ' H' => ∃ m', m' < m ∧ m' = its.length - (i + 1) ∧ i + 1 ≤ its.length ∧ Inv' (i + 1) σ' H', fun σ' H' ⟨m', h1, h2, h3, h4⟩ => ⟨m', h1, h2, h3, h4⟩, fun x H3 y => ?_⟩
    obtain ⟨it, ei, ir, e3⟩ := yl x H3 y
    rw [List.drop_eq_getElem_cons hlt] at go2
    have eit : its[i] = it := by
      rw [List.getElem?_eq_getElem hlt] at ei
      exact Option.some.inj ei
    rw [eit] at go2
    obtain ⟨s3, g1, g2⟩ := Option.bind_eq_some_iff.mp go2
    obtain ⟨⟨ob, s4⟩, g3, g4⟩ := Option.bind_eq_some_iff.mp g2
    have key : Good F C2 Z0 s2 σ2 H3 ∧ Stp (Wf F C2 s2.env σ2) H2 (Wf F C2 s2.env σ2) H3 := by
      rcases e3 with e3 | ⟨p, o, hp, e3⟩
      · rw [e3]
        exact ⟨G2, Stp.refl⟩
      · rw [e3]
        exact ⟨G2.alloc hp (fun a e => .inr e), Stp.alloc hp (fun a w => .inl w)⟩
    obtain ⟨G3, st3⟩ := key
    refine qg F C2 s2 σ2 H3 it x s3 _ hK G3 ir g1 fun σ4 G4 st4 _ => ?_
    have st5 := st3.trans st4
    refine qb F C2 s3 σ4 H3 _ ob s4 hK G4 g3 ?_
    cases ob with
    | next => exact fun σ' C' H' G' st' => ⟨its.length - (i + 1), by omega, rfl, hlt, C', s4, G', (st2.trans st5).trans st', g4⟩
    | cont => exact fun σ' C' H' G' st' => ⟨its.length - (i + 1), by omega, rfl, hlt, C', s4, G', (st2.trans st5).trans st', g4⟩
    | brk =>
      cases g4
      exact fun σ' C' H' G' st' => q2 σ' C' H' G' (st5.trans st')
    | ret d =>
      cases g4
      exact q2
def whileGo (fc : State → Option (Bool × State)) (fb : State → Option (Out × State)) : Nat → State → Option (Out × State)
  | 0, _ => none
  | n + 1, s => (fc s).bind fun p => if p.1 then (fb p.2).bind fun q => match q.1 with
    | .next => whileGo fc fb n q.2
    | .cont => whileGo fc fb n q.2
    | .brk => some (.next, q.2)
    | .ret d => some (.ret d, q.2) else some (.next, p.2)
theorem ss_while (cx : CtxOk X N S k) (n : Nat) {fc : State → Option (Bool × State)} {fb : State → Option (Out × State)} (hc : STst X c fc) (hb : SBlk X body fb) : SSt X (.While c body [] pos) (whileGo fc fb n) := by
  obtain ⟨tc, pc, qc⟩ := hc
  obtain ⟨tb, pb, qb⟩ := hb
  have own : PassesOwn (model X.prog X.w) X.A X.env X.xe := by
    rw [cx.xe]
    exact PassesOwn.never
  refine ⟨_, ps_while own pc pb, fun F C s σ H Dn out s' hK G e q => ?_⟩
  refine ⟨fun m σ2 H2 => ∃ C2 s2, Good F C2 Z0 s2 σ2 H2 ∧ Stp (Wf F C s.env σ) H (Wf F C2 s2.env σ2) H2 ∧ whileGo fc fb m s2 = some (out, s'), ⟨n, C, s, G, Stp.refl, e⟩, ?_⟩
  rintro m σ2 H2 ⟨C2, s2, G2, st2, go2⟩
  have q2 := q.after st2
  cases m with
  | zero => cases go2
  | succ m =>
    obtain ⟨⟨b, s3⟩, g1, g2⟩ := Option.bind_eq_some_iff.mp go2
    refine qc F C2 s2 σ2 H2 _ b s3 hK G2 g1 fun C3 H3 a3 => ?_
    cases b with
    | false =>
      simp only [Bool.false_eq_true, if_false] at g2 ⊢
      cases g2
      exact q2 σ2 C3 H3 a3.1 a3.2
    | true =>
      simp only [if_true] at g2 ⊢
      obtain ⟨⟨ob, s4⟩, g3, g4⟩ := Option.bind_eq_some_iff.mp g2
      refine ⟨fun σ' H' => ∃ C2 s2, Good F C2 Z0 s2 σ' H' ∧ Stp (Wf F C s.env σ) H (Wf F C2 s2.env σ') H' ∧ whileGo fc fb m s2 = some (out, s'), fun σ' H' h => ⟨m, Nat.lt_succ_self m, h⟩, ?_⟩
      refine qb F C3 s3 σ2 H3 _ ob s4 hK a3.1 g3 ?_
      cases ob with
      | next => exact fun σ' C' H' G' st' => ⟨C', s4, G', (st2.trans a3.2).trans st', g4⟩
      | cont => exact fun σ' C' H' G' st' => ⟨C', s4, G', (st2.trans a3.2).trans st', g4⟩
      | brk =>
        cases g4
        exact fun σ' C' H' G' st' => q2 σ' C' H' G' (a3.2.trans st')
      | ret d =>
        cases g4
        exact q2
end
end IR

end
section
/-! Ir14: lists and dicts of one's own are changed; several names at once. -/
namespace IR
open PySem PySem.Spec PyProof.Rows L2

section
variable {X : Cx} {N : List Str} {S : Sco} {k : Nat} {e o ke : Expr} {es : List Expr} {pos apos cpos p2 : Pos} {i : Nat} {x : Str}

def atBox (i : Nat) (s : State) : Option (List D) := match s.env[i]? with
  | some (.box ds) => some ds
  | _ => none
theorem atBox_some {i : Nat} {s : State} {ds : List D} (h : atBox i s = some ds) : s.env[i]? = some (.box ds) := by
  unfold atBox at h
  split at h
  · cases h
    assumption
  · cases h
def putB (i : Nat) (ds : List D) (s : State) : State := { s with env := s.env.set i (.box ds) }
theorem box_at {F : Fr} {C : List Addr} {s : State} {σ : L2.St} {H : Hp} (G : Good F C Z0 s σ H) {ds : List D} (h : atBox i s = some ds) : ∃ a vs, σ[i]? = some (some (.ref a)) ∧ H a = some (.lst vs) ∧ RepL F.K (Wf F C s.env σ) H ds vs := by
  obtain ⟨a, vs, e1, e2, r⟩ := G.slot i _ (atBox_some h)
  exact ⟨a, vs, e1, e2, r.mono fun b w => .inl w⟩

/-! ### x.append(e) -/
def appF (i : Nat) (fe : State → Option (D × State)) (s : State) : Option (Out × State) :=
  (atBox i s).bind fun _ => (fe s).bind fun p => (atBox i p.2).bind fun ds => if sizeOk ds.length then some (.next, putB i (ds ++ [p.1]) p.2) else none
theorem ss_append (cx : CtxOk X N S k) (hi : N[i]? = some x) (hx : visB S.sc x = true) (hd : (x == ("__debug__" : Str)) = false) (hcd : (x == ("__classdict__" : Str)) = false) {fe : State → Option (D × State)} (h : SVal X e fe) (hse : isStar e = false)
    (hbase : attributeBase (.Name x p2) "append" X.env (eval (.Name x p2) X.env) = eval (.Name x p2) X.env)
    (hfew : ((backTo cpos (starEach [e] X.env)).all (fun x => !x.1) && (backToKw cpos (keywordEach [] X.env)).all (fun x => x.1.isSome) && decide (([e] : List Expr).length + ([] : List Keyword).length + (if ([] : List Keyword).isEmpty then 0 else 1) < 30)) = true)
    (hline : (apos.endLine == cpos.line) = true) (hs : swapsWith (.Call (.Attribute (.Name x p2) "append" apos) [e] [] cpos) none pos.line X.env = pure false) :
    SSt X (.Expr (.Call (.Attribute (.Name x p2) "append" apos) [e] [] cpos) pos) (appF i fe) := by
  obtain ⟨t, pt, q0⟩ := h
  refine ⟨_, ps_expr (pe_bm PySem.F.plainAttrs_list PySem.F.slot_list_append PySem.F.type_list_append mt_append (pe_var (cx.nm hi) (cx.vis hx) hd hcd) (pa_cons pt pa_nil (star1 hse)) hbase hfew hline (star1 hse) rfl) hs, fun F C s σ H Dn out s' hK G e q => ?_⟩
  obtain ⟨ds0, e0, e⟩ := Option.bind_eq_some_iff.mp e
  obtain ⟨⟨d, s1⟩, e1, e⟩ := Option.bind_eq_some_iff.mp e
  obtain ⟨ds, e2, e⟩ := Option.bind_eq_some_iff.mp e
  simp only at e e2
  split at e
  case isFalse => cases e
  rename_i hsz
  cases e
  obtain ⟨a, vs, ea, eh, _⟩ := box_at G e0
  refine ⟨_, ea, .inl ⟨rfl, vs, .of eh⟩, q0 F C s σ H _ d s1 hK G e1 fun v C1 H1 a1 r1 => ?_⟩
  obtain ⟨b, us, eb, eh1, rl⟩ := box_at a1.1 e2
  rw [ea] at eb
  cases eb
  have hl : us.length < sizeLine := by
    have z := rl.length
    have z2 := sizeOk_lt hsz
    have z3 := sizeLine_big
    omega
  obtain ⟨G2, st2⟩ := a1.1.mut_box (atBox_some e2) ea (ds' := ds ++ [d]) (vs' := us ++ [v]) (rl.append (.one r1))
  exact ⟨_, us, v, rfl, rfl, eh1, hl, q σ C1 _ G2 (a1.2.trans st2)⟩
/-- x.extend(e) -/
def extF (i : Nat) (fe : State → Option (D × State)) (s : State) : Option (Out × State) :=
  (atBox i s).bind fun _ => (fe s).bind fun p => (atBox i p.2).bind fun ds => match p.1 with
    | .list es => if sizeOk (ds.length + es.length) then some (.next, putB i (ds ++ es) p.2) else none
    | _ => none
theorem ss_extend (cx : CtxOk X N S k) (hi : N[i]? = some x) (hx : visB S.sc x = true) (hd : (x == ("__debug__" : Str)) = false) (hcd : (x == ("__classdict__" : Str)) = false) {fe : State → Option (D × State)} (h : SVal X e fe) (hse : isStar e = false)
    (hbase : attributeBase (.Name x p2) "extend" X.env (eval (.Name x p2) X.env) = eval (.Name x p2) X.env)
    (hfew : ((backTo cpos (starEach [e] X.env)).all (fun x => !x.1) && (backToKw cpos (keywordEach [] X.env)).all (fun x => x.1.isSome) && decide (([e] : List Expr).length + ([] : List Keyword).length + (if ([] : List Keyword).isEmpty then 0 else 1) < 30)) = true)
    (hline : (apos.endLine == cpos.line) = true) (hs : swapsWith (.Call (.Attribute (.Name x p2) "extend" apos) [e] [] cpos) none pos.line X.env = pure false) :
    SSt X (.Expr (.Call (.Attribute (.Name x p2) "extend" apos) [e] [] cpos) pos) (extF i fe) := by
  obtain ⟨t, pt, q0⟩ := h
  refine ⟨_, ps_expr (pe_bm PySem.F.plainAttrs_list PySem.F.slot_list_extend PySem.F.type_list_extend mt_extend (pe_var (cx.nm hi) (cx.vis hx) hd hcd) (pa_cons pt pa_nil (star1 hse)) hbase hfew hline (star1 hse) rfl) hs, fun F C s σ H Dn out s' hK G e q => ?_⟩
  obtain ⟨ds0, e0, e⟩ := Option.bind_eq_some_iff.mp e
  obtain ⟨⟨d, s1⟩, e1, e⟩ := Option.bind_eq_some_iff.mp e
  obtain ⟨ds, e2, e⟩ := Option.bind_eq_some_iff.mp e
  simp only at e e2
  cases d with
  | list es =>
    simp only at e
    split at e
    case isFalse => cases e
    rename_i hsz
    cases e
    obtain ⟨a, vs, ea, eh, _⟩ := box_at G e0
    refine ⟨_, ea, .inl ⟨rfl, vs, .of eh⟩, q0 F C s σ H _ _ s1 hK G e1 fun v C1 H1 a1 r1 => ?_⟩
    obtain ⟨b, us, eb, eh1, rl⟩ := box_at a1.1 e2
    rw [ea] at eb
    cases eb
    simp only [Rep] at r1
    obtain ⟨b, ws, ev, nb, hb, rl2⟩ := r1
    subst ev
    have hl : us.length + ws.length ≤ sizeLine := by
      have z := rl.length
      have z1 := rl2.length
      have z2 := sizeOk_lt hsz
      have z3 := sizeLine_big
      omega
    obtain ⟨G2, st2⟩ := a1.1.mut_box (atBox_some e2) ea (ds' := ds ++ es) (vs' := us ++ ws) (rl.append rl2)
    exact ⟨_, b, us, ws, rfl, rfl, eh1, hb, hl, q σ C1 _ G2 (a1.2.trans st2)⟩
  | _ => cases e

/-! ### x[k] = e -/
def atDbox (i : Nat) (s : State) : Option (List (D × D)) := match s.env[i]? with
  | some (.dbox ds) => some ds
  | _ => none
theorem atDbox_some {i : Nat} {s : State} {ds : List (D × D)} (h : atDbox i s = some ds) : s.env[i]? = some (.dbox ds) := by
  unfold atDbox at h
  split at h
  · cases h
    assumption
  · cases h
def setF (i : Nat) (fe : State → Option (D × State)) (fk : State → Option (Pre × State)) (s : State) : Option (Out × State) :=
  (fe s).bind fun p => (fk p.2).bind fun r => (post r.2 r.1).bind fun kd => (atBox i p.2).bind fun _ => (atBox i r.2).bind fun ds => match kd with
    | .int j => (ixN ds.length j).map fun m => (.next, putB i (ds.set m p.1) r.2)
    | _ => none
def setDF (i : Nat) (fe : State → Option (D × State)) (fk : State → Option (Pre × State)) (s : State) : Option (Out × State) :=
  (fe s).bind fun p => (fk p.2).bind fun r => (post r.2 r.1).bind fun kd => (atDbox i p.2).bind fun _ => (atDbox i r.2).bind fun ds =>
    if isKey kd ∧ sizeOk ds.length = true then some (.next, { r.2 with env := r.2.env.set i (.dbox (put kd p.1 ds)) }) else none
def atCell (i : Nat) (s : State) : Option Nat := match s.env[i]? with
  | some (.cell n) => some n
  | _ => none
theorem atCell_some {i : Nat} {s : State} {n : Nat} (h : atCell i s = some n) : s.env[i]? = some (.cell n) := by
  unfold atCell at h
  split at h
  · cases h
    assumption
  · cases h
def setCF (i : Nat) (fe : State → Option (D × State)) (fk : State → Option (Pre × State)) (s : State) : Option (Out × State) :=
  (fe s).bind fun p => (fk p.2).bind fun r => (post r.2 r.1).bind fun kd => (atCell i p.2).bind fun _ => (atCell i r.2).bind fun n => (r.2.cs[n]?).bind fun ns => match kd, p.1 with
    | .int j, .int v => (ixN ns.length j).map fun m => (.next, { r.2 with cs := r.2.cs.set n (ns.set m v) })
    | _, _ => none
section
variable (cx : CtxOk X N S k) (hi : N[i]? = some x) (hx : visB S.sc x = true) (hd : (x == ("__debug__" : Str)) = false) (hcd : (x == ("__classdict__" : Str)) = false)
  (hs : swapsWithSole [.Subscript (.Name x p2) ke apos] e pos.line X.env = pure false) (hw : swappedStores [.Subscript (.Name x p2) ke apos] e X.env = pure none)
  (ha : ∀ v, assign (.Subscript (.Name x p2) ke apos) X.env v = (do
      let ov ← holding [v] (eval (.Name x p2) X.env)
      let iv ← holding [v, ov] (eval ke X.env)
      standAt apos
      holding [v, ov, iv] (setItem ov iv v)
      release [v, ov, iv] []))
include cx hi hx hd hcd hs hw ha
theorem ss_setitem {fe : State → Option (D × State)} {fk : State → Option (Pre × State)} (h : SVal X e fe) (hk : SPre X ke fk) : SSt X (.Assign [.Subscript (.Name x p2) ke apos] e pos) (setF i fe fk) := by
  obtain ⟨t, pt, q0⟩ := h
  obtain ⟨u, pu, q1⟩ := hk
  refine ⟨_, ps_asg pt (pg_sub (pe_var (cx.nm hi) (cx.vis hx) hd hcd) pu set_list ha) hs hw rfl, fun F C s σ H Dn out s' hK G e q => ?_⟩
  obtain ⟨⟨d, s1⟩, e1, e⟩ := Option.bind_eq_some_iff.mp e
  obtain ⟨⟨p, s2⟩, e2, e⟩ := Option.bind_eq_some_iff.mp e
  obtain ⟨kd, e3, e⟩ := Option.bind_eq_some_iff.mp e
  obtain ⟨ds0, e4, e⟩ := Option.bind_eq_some_iff.mp e
  obtain ⟨ds, e5, e⟩ := Option.bind_eq_some_iff.mp e
  simp only at e e2 e3 e4 e5
  cases kd with
  | int j =>
    obtain ⟨m, e6, e7⟩ := Option.map_eq_some_iff.mp e
    cases e7
    refine q0 F C s σ H _ d s1 hK G e1 fun v C1 H1 a1 r1 => ?_
    obtain ⟨a, vs, ea, eh, _⟩ := box_at a1.1 e4
    refine ⟨_, ea, q1 F C1 s1 σ H1 _ p s2 hK a1.1 e2 fun kv C2 H2 a2 r2 => ?_⟩
    obtain ⟨b, us, eb, eh2, rl⟩ := box_at a2.1 e5
    rw [ea] at eb
    cases eb
    have kv' := rr_int (post_rep a2.1 e3 r2)
    subst kv'
    obtain ⟨G2, st2⟩ := a2.1.mut_box (atBox_some e5) ea (ds' := ds.set m d) (vs' := us.set m v) (rl.set (r1.stp a2.2 _ _) m)
    exact ⟨_, us, j, m, rfl, rfl, eh2, by rw [rl.length]; exact e6, q σ C2 _ G2 ((a1.2.trans a2.2).trans st2)⟩
  | _ => cases e
theorem ss_setdict {fe : State → Option (D × State)} {fk : State → Option (Pre × State)} (h : SVal X e fe) (hk : SPre X ke fk) : SSt X (.Assign [.Subscript (.Name x p2) ke apos] e pos) (setDF i fe fk) := by
  obtain ⟨t, pt, q0⟩ := h
  obtain ⟨u, pu, q1⟩ := hk
  refine ⟨_, ps_asg pt (pg_sub (pe_var (cx.nm hi) (cx.vis hx) hd hcd) pu (set_dict cx.u1) ha) hs hw rfl, fun F C s σ H Dn out s' hK G e q => ?_⟩
  obtain ⟨⟨d, s1⟩, e1, e⟩ := Option.bind_eq_some_iff.mp e
  obtain ⟨⟨p, s2⟩, e2, e⟩ := Option.bind_eq_some_iff.mp e
  obtain ⟨kd, e3, e⟩ := Option.bind_eq_some_iff.mp e
  obtain ⟨ds0, e4, e⟩ := Option.bind_eq_some_iff.mp e
  obtain ⟨ds, e5, e⟩ := Option.bind_eq_some_iff.mp e
  simp only at e e2 e3 e4 e5
  split at e
  case isFalse => cases e
  rename_i hh
  cases e
  obtain ⟨kq, rfl⟩ := key_of hh.1
  refine q0 F C s σ H _ d s1 hK G e1 fun v C1 H1 a1 r1 => ?_
  obtain ⟨a, vs, ea, eh, _⟩ := a1.1.slot i _ (atDbox_some e4)
  refine ⟨_, ea, q1 F C1 s1 σ H1 _ p s2 hK a1.1 e2 fun kv C2 H2 a2 r2 => ?_⟩
  obtain ⟨b, us, eb, eh2, rl⟩ := a2.1.slot i _ (atDbox_some e5)
  rw [ea] at eb
  cases eb
  have kv' := rr_key (post_rep a2.1 e3 r2)
  subst kv'
  have rl' : RepKV F.K (Wf F C2 s2.env σ) H2 ds us := rl.mono fun b w => .inl w
  obtain ⟨G2, st2⟩ := a2.1.mut_dbox (atDbox_some e5) ea (ds' := put (keyD kq) d ds) (vs' := putK us kq v) (RepKV.put (r1.stp a2.2 _ _) rl')
  have hl : us.length < sizeLine := by
    have z := rl.len
    have z2 := sizeOk_lt hh.2
    have z3 := sizeLine_big
    omega
  exact ⟨_, _, rfl, DPut.k eh2 hl, q σ C2 _ G2 ((a1.2.trans a2.2).trans st2)⟩
theorem ss_setcell {fe : State → Option (D × State)} {fk : State → Option (Pre × State)} (h : SVal X e fe) (hk : SPre X ke fk) : SSt X (.Assign [.Subscript (.Name x p2) ke apos] e pos) (setCF i fe fk) := by
  obtain ⟨t, pt, q0⟩ := h
  obtain ⟨u, pu, q1⟩ := hk
  refine ⟨_, ps_asg pt (pg_sub (pe_var (cx.nm hi) (cx.vis hx) hd hcd) pu set_list ha) hs hw rfl, fun F C s σ H Dn out s' hK G e q => ?_⟩
  obtain ⟨⟨d, s1⟩, e1, e⟩ := Option.bind_eq_some_iff.mp e
  obtain ⟨⟨p, s2⟩, e2, e⟩ := Option.bind_eq_some_iff.mp e
  obtain ⟨kd, e3, e⟩ := Option.bind_eq_some_iff.mp e
  obtain ⟨n0, e4, e⟩ := Option.bind_eq_some_iff.mp e
  obtain ⟨n, e5, e⟩ := Option.bind_eq_some_iff.mp e
  obtain ⟨ns, e6, e⟩ := Option.bind_eq_some_iff.mp e
  simp only at e e2 e3 e4 e5 e6
  cases kd with
  | int j =>
    cases d with
    | int v =>
      obtain ⟨m, e7, e8⟩ := Option.map_eq_some_iff.mp e
      cases e8
      refine q0 F C s σ H _ _ s1 hK G e1 fun v' C1 H1 a1 r1 => ?_
      obtain ⟨a, ca, ea⟩ := a1.1.slot i _ (atCell_some e4)
      refine ⟨_, ea, q1 F C1 s1 σ H1 _ p s2 hK a1.1 e2 fun kv C2 H2 a2 r2 => ?_⟩
      obtain ⟨b, cb, eb⟩ := a2.1.slot i _ (atCell_some e5)
      rw [ea] at eb
      cases eb
      have kv' := rr_int (post_rep a2.1 e3 r2)
      subst kv'
      have v2 : v' = .int v := by simpa [Rep] using r1
      subst v2
      obtain ⟨ms, f1, f2⟩ := a2.1.cell.2 n a cb
      rw [e6] at f1
      cases f1
      obtain ⟨G2, st2⟩ := a2.1.cellset (ns := ns.set m v) cb
      refine ⟨_, ns.map V.int, j, m, rfl, rfl, f2, by rw [List.length_map]; exact e7, ?_⟩
      have em : (ns.map V.int).set m (.int v) = (ns.set m v).map V.int := List.map_set.symm
      rw [em]
      exact q σ C2 _ G2 ((a1.2.trans a2.2).trans st2)
    | _ => cases e
  | _ => cases e
end
end
end IR

end
section
/-! Ir15: pop; several names at once, with new lists among the values. -/
namespace IR
open PySem PySem.Spec PyProof.Rows L2

section
variable {X : Cx} {N : List Str} {S : Sco} {k : Nat} {e : Expr} {es : List Expr} {pos apos cpos p2 : Pos} {i : Nat} {x : Str}
/-! ### x.pop(e), x.pop() -/
def popF (i : Nat) (fe : State → Option (Pre × State)) (s : State) : Option (D × State) :=
  (atBox i s).bind fun _ => (fe s).bind fun p => (post p.2 p.1).bind fun kd => (atBox i p.2).bind fun ds => match kd with
    | .int j => if -(2 ^ 63) ≤ j ∧ j < 2 ^ 63 then (seqIndex? j ds.length).bind fun m => (ds[m]?).map fun d => (d, putB i (ds.eraseIdx m) p.2) else none
    | _ => none
theorem RepL.eraseIdx {K : PySem.W.Frag} {W : Addr → Prop} {H : Hp} : ∀ {ds : List D} {vs : List V} (m : Nat), RepL K W H ds vs → RepL K W H (ds.eraseIdx m) (vs.eraseIdx m)
  | [], vs, m, h => by
    simp only [RepL] at h
    subst h
    exact RepL.nil
  | d :: ds, vs, 0, h => by
    simp only [RepL] at h
    obtain ⟨v, r, e, _, h2⟩ := h
    subst e
    exact h2
  | d :: ds, vs, m + 1, h => by
    simp only [RepL] at h
    obtain ⟨v, r, e, h1, h2⟩ := h
    subst e
    exact RepL.cons h1 (RepL.eraseIdx m h2)
theorem sv_pop (cx : CtxOk X N S k) (hi : N[i]? = some x) (hx : visB S.sc x = true) (hd : (x == ("__debug__" : Str)) = false) (hcd : (x == ("__classdict__" : Str)) = false) {fe : State → Option (Pre × State)} (h : SPre X e fe) (hse : isStar e = false)
    (hbase : attributeBase (.Name x p2) "pop" X.env (eval (.Name x p2) X.env) = eval (.Name x p2) X.env)
    (hfew : ((backTo cpos (starEach [e] X.env)).all (fun x => !x.1) && (backToKw cpos (keywordEach [] X.env)).all (fun x => x.1.isSome) && decide (([e] : List Expr).length + ([] : List Keyword).length + (if ([] : List Keyword).isEmpty then 0 else 1) < 30)) = true)
    (hline : (apos.endLine == cpos.line) = true) : SVal X (.Call (.Attribute (.Name x p2) "pop" apos) [e] [] cpos) (popF i fe) := by
  obtain ⟨t, pt, q0⟩ := h
  refine ⟨_, pe_bm PySem.F.plainAttrs_list PySem.F.slot_list_pop PySem.F.type_list_pop mt_popAt (pe_var (cx.nm hi) (cx.vis hx) hd hcd) (pa_cons pt pa_nil (star1 hse)) hbase hfew hline (star1 hse) rfl, fun F C s σ H Q d s' hK G e q => ?_⟩
  obtain ⟨ds0, e0, e⟩ := Option.bind_eq_some_iff.mp e
  obtain ⟨⟨p, s1⟩, e1, e⟩ := Option.bind_eq_some_iff.mp e
  obtain ⟨kd, e2, e⟩ := Option.bind_eq_some_iff.mp e
  obtain ⟨ds, e3, e⟩ := Option.bind_eq_some_iff.mp e
  simp only at e e2 e3
  cases kd with
  | int j =>
    simp only at e
    split at e
    case isFalse => cases e
    rename_i hj
    obtain ⟨m, e4, e⟩ := Option.bind_eq_some_iff.mp e
    obtain ⟨dd, e5, e6⟩ := Option.map_eq_some_iff.mp e
    cases e6
    obtain ⟨a, vs, ea, eh, _⟩ := box_at G e0
    refine ⟨_, ea, .inl ⟨rfl, vs, .of eh⟩, q0 F C s σ H _ p s1 hK G e1 fun kv C1 H1 a1 r1 => ?_⟩
    obtain ⟨b, us, eb, eh1, rl⟩ := box_at a1.1 e3
    rw [ea] at eb
    cases eb
    have kv' := rr_int (post_rep a1.1 e2 r1)
    subst kv'
    obtain ⟨y, e7, ry⟩ := rl.get e5
    obtain ⟨G2, st2⟩ := a1.1.mut_box (atBox_some e3) ea (ds' := ds.eraseIdx m) (vs' := us.eraseIdx m) (rl.eraseIdx m)
    refine ⟨_, us, j, m, y, rfl, rfl, eh1, hj.1, hj.2, by rw [rl.length]; exact e4, e7, ?_⟩
    exact q y C1 _ ⟨G2, a1.2.trans st2⟩ (ry.stp st2 _ _)
  | _ => cases e
def pop0F (i : Nat) (s : State) : Option (D × State) := (atBox i s).bind fun ds => (ds[ds.length - 1]?).map fun d => (d, putB i ds.dropLast s)
theorem RepL.dropLast {K : PySem.W.Frag} {W : Addr → Prop} {H : Hp} {ds : List D} {vs : List V} (h : RepL K W H ds vs) : RepL K W H ds.dropLast vs.dropLast := by
  rw [List.dropLast_eq_take, List.dropLast_eq_take, h.length]
  exact h.take _
theorem sv_pop0 (cx : CtxOk X N S k) (hi : N[i]? = some x) (hx : visB S.sc x = true) (hd : (x == ("__debug__" : Str)) = false) (hcd : (x == ("__classdict__" : Str)) = false)
    (hbase : attributeBase (.Name x p2) "pop" X.env (eval (.Name x p2) X.env) = eval (.Name x p2) X.env)
    (hline : (apos.endLine == cpos.line) = true) : SVal X (.Call (.Attribute (.Name x p2) "pop" apos) [] [] cpos) (pop0F i) := by
  refine ⟨_, pe_bm0 PySem.F.plainAttrs_list PySem.F.slot_list_pop PySem.F.type_list_pop mt_pop (pe_var (cx.nm hi) (cx.vis hx) hd hcd) hbase hline, fun F C s σ H Q d s' hK G e q => ?_⟩
  obtain ⟨ds, e0, e⟩ := Option.bind_eq_some_iff.mp e
  obtain ⟨dd, e1, e2⟩ := Option.map_eq_some_iff.mp e
  cases e2
  obtain ⟨a, vs, ea, eh, rl⟩ := box_at G e0
  obtain ⟨y, e7, ry⟩ := rl.get e1
  obtain ⟨G2, st2⟩ := G.mut_box (atBox_some e0) ea (ds' := ds.dropLast) (vs' := vs.dropLast) rl.dropLast
  exact ⟨_, ea, .inl ⟨rfl, vs, .of eh⟩, _, vs, y, rfl, rfl, eh, by rw [rl.length]; exact e7, q y C _ ⟨G2, st2⟩ (ry.stp st2 _ _)⟩

/-! ### several at once -/
inductive Mk where
  | v (d : D)
  | l (ds : List D)
  | d (kvs : List (D × D))
def RMk : RT Mk := fun F C s σ H C' s' H' m v => match m with
  | .v d => RVal F C s σ H C' s' H' d v
  | .l ds => RFr F C s σ H C' s' H' ds v
  | .d kvs => RFd F C s σ H C' s' H' kvs v
theorem mk_v {f : State → Option (D × State)} (h : SVal X e f) : SG X RMk e fun s => (f s).map fun p => (.v p.1, p.2) := by
  obtain ⟨t, pt, q0⟩ := h
  refine ⟨t, pt, fun F C s σ H Q m s' hK G e q => ?_⟩
  obtain ⟨⟨d, s1⟩, e1, e2⟩ := Option.map_eq_some_iff.mp e
  cases e2
  exact q0 F C s σ H Q d s1 hK G e1 fun v C1 H1 a r => q v C1 H1 ⟨a, r⟩
theorem mk_l {f : State → Option (List D × State)} (h : SFr X e f) : SG X RMk e fun s => (f s).map fun p => (.l p.1, p.2) := by
  obtain ⟨t, pt, q0⟩ := h
  refine ⟨t, pt, fun F C s σ H Q m s' hK G e q => ?_⟩
  obtain ⟨⟨d, s1⟩, e1, e2⟩ := Option.map_eq_some_iff.mp e
  cases e2
  exact q0 F C s σ H Q d s1 hK G e1 fun p vs C1 H1 f r1 r2 => q _ C1 H1 ⟨p, vs, rfl, f, r1, r2⟩
theorem mk_d {f : State → Option (List (D × D) × State)} (h : SFd X e f) : SG X RMk e fun s => (f s).map fun p => (.d p.1, p.2) := by
  obtain ⟨t, pt, q0⟩ := h
  refine ⟨t, pt, fun F C s σ H Q m s' hK G e q => ?_⟩
  obtain ⟨⟨d, s1⟩, e1, e2⟩ := Option.map_eq_some_iff.mp e
  cases e2
  exact q0 F C s σ H Q d s1 hK G e1 fun p vs C1 H1 f r1 r2 => q _ C1 H1 ⟨p, vs, rfl, f, r1, r2⟩
/-- the values, and the addresses of the new ones among them -/
def MksOk (K : PySem.W.Frag) (W : Addr → Prop) (H : Hp) : List Mk → List V → List Addr → Prop
  | [], vs, ps => vs = [] ∧ ps = []
  | .v d :: ms, vs, ps => ∃ v r, vs = v :: r ∧ Rep K W H d v ∧ MksOk K W H ms r ps
  | .l ds :: ms, vs, ps => ∃ p us r qs, vs = .ref p :: r ∧ ps = p :: qs ∧ H p = some (.lst us) ∧ RepL K W H ds us ∧ MksOk K W H ms r qs
  | .d ds :: ms, vs, ps => ∃ p us r qs, vs = .ref p :: r ∧ ps = p :: qs ∧ H p = some (.dK us) ∧ RepKV K W H ds us ∧ MksOk K W H ms r qs
theorem MksOk.mono {K : PySem.W.Frag} {W W' : Addr → Prop} {H : Hp} (hw : ∀ a, W' a → W a) : ∀ {ms : List Mk} {vs : List V} {ps : List Addr}, MksOk K W H ms vs ps → MksOk K W' H ms vs ps
  | [], vs, ps, h => h
  | .v d :: ms, vs, ps, h => by
    obtain ⟨v, r, e, h1, h2⟩ := h
    exact ⟨v, r, e, h1.mono hw, MksOk.mono hw h2⟩
  | .l ds :: ms, vs, ps, h => by
    obtain ⟨p, us, r, qs, e1, e2, h1, h2, h3⟩ := h
    exact ⟨p, us, r, qs, e1, e2, h1, h2.mono hw, MksOk.mono hw h3⟩
  | .d ds :: ms, vs, ps, h => by
    obtain ⟨p, us, r, qs, e1, e2, h1, h2, h3⟩ := h
    exact ⟨p, us, r, qs, e1, e2, h1, h2.mono hw, MksOk.mono hw h3⟩
def consM (f : State → Option (Mk × State)) (g : State → Option (List Mk × State)) (s : State) : Option (List Mk × State) := (f (subS [] s)).bind fun p => (g ⟨s.env, p.2.cs⟩).map fun r => (p.1 :: r.1, r.2)
def nilM (s : State) : Option (List Mk × State) := some ([], s)
/-- Z: what earlier ones have laid -/
def ZOk (F : Fr) (C : List Addr) (s : State) (σ : L2.St) (H : Hp) (Z : Addr → Prop) : Prop := ∀ a, Z a → mutk (H a) ∧ ¬ Wf F C s.env σ a ∧ F.H0 a = none
def SMks (X : Cx) (es : List Expr) (f : State → Option (List Mk × State)) : Prop := ∃ t : TA, PA X es t ∧ ∀ F C s σ H Z Q ms s', F.K = X.K → Good F C Z s σ H → ZOk F C s σ H Z → f s = some (ms, s') →
  (∀ vs C' H' ps, Good F C' (fun a => Z a ∨ a ∈ ps) s' σ H' → Stp (fun a => Wf F C s.env σ a ∨ Z a) H (fun a => Wf F C' s'.env σ a ∨ Z a ∨ a ∈ ps) H' → s'.env = s.env → (∀ a, Z a → H' a = H a) → ps.Nodup → (∀ p ∈ ps, ¬ Z p) → ZOk F C' s' σ H' (fun a => Z a ∨ a ∈ ps) →
    MksOk F.K (fun a => Wf F C' s'.env σ a ∨ Z a ∨ a ∈ ps) H' ms vs ps → Q vs H') → t σ H Q
theorem sm_nil : SMks X [] nilM := by
  refine ⟨_, pa_nil, fun F C s σ H Z Q ms s' hK G hz e q => ?_⟩
  cases e
  have ee : (fun a => Z a ∨ a ∈ ([] : List Addr)) = Z := by
    funext a
    simp
  refine q [] C H [] (by rw [ee]; exact G) ?_ rfl (fun _ _ => rfl) List.nodup_nil (fun p h => by cases h) (by rw [ee]; exact hz) ⟨rfl, rfl⟩
  intro a o e n
  exact ⟨e, fun w => n (w.imp id fun w => w.elim id fun z => by cases z)⟩
theorem sm_cons {f : State → Option (Mk × State)} {g : State → Option (List Mk × State)} (h1 : SG X RMk e f) (hs : isStar e = false) (h2 : SMks X es g) : SMks X (e :: es) (consM f g) := by
  obtain ⟨t, pt, q0⟩ := h1
  obtain ⟨u, pu, q1⟩ := h2
  refine ⟨_, pa_cons pt pu (star1 hs), fun F C s σ H Z Q ms s' hK G hz e q => ?_⟩
  obtain ⟨⟨m, s1⟩, e1, e2⟩ := Option.bind_eq_some_iff.mp e
  obtain ⟨⟨ms', s2⟩, e3, e4⟩ := Option.map_eq_some_iff.mp e2
  cases e4
  have hz1 : ∀ a, Z a → mutk (H a) := fun a z => (hz a z).1
  have Gs := G.sub hz1 []
  have zno : ∀ {a o}, Z a → H a = some o → a ∉ C := fun {a o} z _ w => (hz a z).2.1 (.inr (.inl w))
  refine q0 (subFr G hz1) C (subS [] s) σ H _ m s1 hK Gs e1 fun v C1 H1 r1 => ?_
  -- behind the first: what it has laid
  have key : ∃ ps1 : List Addr, ps1.Nodup ∧ Good (subFr G hz1) C1 (fun a => a ∈ ps1) s1 σ H1 ∧ (∀ p ∈ ps1, H p = none ∧ mutk (H1 p) ∧ ¬ Wf (subFr G hz1) C1 s1.env σ p) ∧ MksOk F.K (fun a => Wf (subFr G hz1) C1 s1.env σ a ∨ a ∈ ps1) H1 [m] [v] ps1 := by
    cases m with
    | v d =>
      obtain ⟨a1, r⟩ := r1
      have ee : (fun a => a ∈ ([] : List Addr)) = Z0 := by
        funext a
        simp
      refine ⟨[], List.nodup_nil, by rw [ee]; exact a1.1, fun p h => (by cases h), v, [], rfl, Rep.mono (W := Wf (subFr G hz1) C1 s1.env σ) (fun a w => w.elim id fun z => by cases z) r, rfl, rfl⟩
    | l ds =>
      obtain ⟨p, us, ev, fr, hp, rl⟩ := r1
      have ee : (fun a => a ∈ [p]) = fun a => a = p := by
        funext a
        simp
      refine ⟨[p], by simp, by rw [ee]; exact fr.1, fun a ha => ?_, p, us, [], [], by rw [ev], rfl, hp, RepL.mono (fun a w => w.imp id fun w => by simpa using w) rl, rfl, rfl⟩
      have : a = p := by simpa using ha
      subst this
      exact ⟨fr.2.2.2, by rw [hp]; trivial, fr.2.2.1⟩
    | d ds =>
      obtain ⟨p, us, ev, fr, hp, rl⟩ := r1
      have ee : (fun a => a ∈ [p]) = fun a => a = p := by
        funext a
        simp
      refine ⟨[p], by simp, by rw [ee]; exact fr.1, fun a ha => ?_, p, us, [], [], by rw [ev], rfl, hp, RepKV.mono (fun a w => w.imp id fun w => by simpa using w) rl, rfl, rfl⟩
      have : a = p := by simpa using ha
      subst this
      exact ⟨fr.2.2.2, by rw [hp]; trivial, fr.2.2.1⟩
  obtain ⟨ps1, nd1, G1, hp1, ok1⟩ := key
  obtain ⟨G2, st2, wfi, ext, zn⟩ := Good.back G hz1 (fun a z => (hz a z).2) G1 (fun a z => (hp1 a z).1)
  have hzH : ∀ a, Z a → H1 a = H a := fun a z => by
    obtain ⟨o, eo⟩ := mutk_some (hz1 a z)
    rw [eo]
    exact ext a o eo (zno z eo)
  have hz2 : ZOk F C1 ⟨s.env, s1.cs⟩ σ H1 (fun a => Z a ∨ a ∈ ps1) := fun a z => by
    rcases z with z | z
    · exact ⟨by rw [hzH a z]; exact hz1 a z, zn a z, (hz a z).2.2⟩
    · obtain ⟨n1, n2, n3⟩ := hp1 a z
      exact ⟨n2, fun w => n3 (wfi a (.inl w)), G.h0 n1⟩
  refine q1 F C1 ⟨s.env, s1.cs⟩ σ H1 (fun a => Z a ∨ a ∈ ps1) _ ms' s2 hK G2 hz2 e3 fun vs C3 H3 ps2 G3 st3 ee hk nd2 dis hz3 ok2 => ?_
  have z3 : (fun a => (Z a ∨ a ∈ ps1) ∨ a ∈ ps2) = fun a => Z a ∨ a ∈ ps1 ++ ps2 := by
    funext a
    simp [List.mem_append, or_assoc]
  have w3 : ∀ a, (Wf F C3 s2.env σ a ∨ Z a ∨ a ∈ ps1 ++ ps2) ↔ (Wf F C3 s2.env σ a ∨ (Z a ∨ a ∈ ps1) ∨ a ∈ ps2) := fun a => by simp [List.mem_append, or_assoc]
  refine q (v :: vs) C3 H3 (ps1 ++ ps2) (by rw [← z3]; exact G3) ?_ ee (fun a z => (hk a (.inl z)).trans (hzH a z)) ?_ (fun p hp => ?_) (by rw [← z3]; exact hz3) ?_
  · intro a o e n
    obtain ⟨e5, n5⟩ := st2 a o e n
    obtain ⟨e6, n6⟩ := st3 a o e5 n5
    exact ⟨e6, fun w => n6 ((w3 a).1 w)⟩
  · exact List.nodup_append.mpr ⟨nd1, nd2, fun a ha b hb e => dis b hb (.inr (e ▸ ha))⟩
  · rcases List.mem_append.mp hp with hp | hp
    · intro z
      obtain ⟨n1, _, _⟩ := hp1 p hp
      have q := hz1 p z
      rw [n1] at q
      exact q
    · exact fun z => dis p hp (.inl z)
  · -- the first one, later on
    have lift : ∀ a o, H1 a = some o → ¬ (Wf (subFr G hz1) C1 s1.env σ a ∨ a ∈ ps1) → H3 a = some o ∧ ¬ (Wf F C3 s2.env σ a ∨ Z a ∨ a ∈ ps1 ++ ps2) := fun a o e n => by
      obtain ⟨e6, n6⟩ := st3 a o e fun w => n (by
        rcases w with w | w | w
        · exact .inl (wfi a (.inl w))
        · exact .inl (wfi a (.inr w))
        · exact .inr w)
      exact ⟨e6, fun w => n6 ((w3 a).1 w)⟩
    have ok2' := ok2.mono (W' := fun a => Wf F C3 s2.env σ a ∨ Z a ∨ a ∈ ps1 ++ ps2) fun a w => (w3 a).1 w
    cases m with
    | v d =>
      obtain ⟨v', r, ev, hr, e8, e9⟩ := ok1
      cases ev
      subst e9
      exact ⟨v, vs, rfl, Rep.stp lift d v hr, ok2'⟩
    | l ds =>
      obtain ⟨p, us, r, qs, ev, e7, hp, hr, e8, e9⟩ := ok1
      cases ev
      subst e9
      subst e7
      exact ⟨p, us, vs, ps2, rfl, rfl, (hk p (.inr (by simp))).trans hp, RepL.stp lift _ _ hr, ok2'⟩
    | d ds =>
      obtain ⟨p, us, r, qs, ev, e7, hp, hr, e8, e9⟩ := ok1
      cases ev
      subst e9
      subst e7
      exact ⟨p, us, vs, ps2, rfl, rfl, (hk p (.inr (by simp))).trans hp, RepKV.stp lift _ _ hr, ok2'⟩

/-- the stores -/
def setMks : List Nat → List Mk → State → State
  | i :: is, .v d :: ms, s => setMks is ms (setV i d s)
  | i :: is, .l ds :: ms, s => setMks is ms (setB i ds s)
  | i :: is, .d ds :: ms, s => setMks is ms (setDB i ds s)
  | _, _, s => s
def setVs : List Nat → List V → L2.St → L2.St
  | i :: is, v :: vs, σ => setVs is vs (σ.set i (some v))
  | _, _, σ => σ
theorem wf_setP {F : Fr} {C : List Addr} {s : State} {σ : L2.St} {i : Nat} {sl : Slot} {v : V} {a : Addr} (w : Wf F C (s.env.set i sl) (σ.set i (some v)) a) : Wf F C s.env σ a ∨ (isBox sl = true ∧ v = .ref a) := by
  rcases w with w | w | ⟨j, w⟩
  · exact .inl (.inl w)
  · exact .inl (.inr (.inl w))
  · rcases bxAt_set w with ⟨_, w⟩ | ⟨_, z1, z2⟩
    · exact .inl (.inr (.inr ⟨j, w⟩))
    · exact .inr ⟨z1, Option.some.inj z2⟩
theorem store_mks {F : Fr} {C : List Addr} {H : Hp} : ∀ {is : List Nat} {ms : List Mk} {vs : List V} {ps : List Addr} {s : State} {σ : L2.St}, is.length = ms.length → Good F C (fun a => a ∈ ps) s σ H → ps.Nodup → ZOk F C s σ H (fun a => a ∈ ps) → MksOk F.K (fun a => Wf F C s.env σ a ∨ a ∈ ps) H ms vs ps →
    Good F C Z0 (setMks is ms s) (setVs is vs σ) H ∧ ∀ a, Wf F C (setMks is ms s).env (setVs is vs σ) a → Wf F C s.env σ a ∨ a ∈ ps
  | [], [], vs, ps, s, σ, _, G, _, _, ok => by
    obtain ⟨rfl, rfl⟩ := ok
    have ee : (fun a => a ∈ ([] : List Addr)) = Z0 := by
      funext a
      simp
    rw [ee] at G
    exact ⟨G, fun a w => .inl w⟩
  | i :: is, .v d :: ms, vs, ps, s, σ, hl, G, nd, hz, ok => by
    obtain ⟨v, r, rfl, h1, h2⟩ := ok
    have G1 : Good F C (fun a => a ∈ ps) (setV i d s) (σ.set i (some v)) H := G.store (fun _ z => z) (fun a z => by cases z) fun W hw hi => ⟨v, List.getElem?_set_self hi, h1.mono hw⟩
    have wf : ∀ a, Wf F C (setV i d s).env (σ.set i (some v)) a → Wf F C s.env σ a := fun a w => wf_setV w
    obtain ⟨G2, w2⟩ := store_mks (is := is) (ms := ms) (by simpa using hl) G1 nd (fun a z => ⟨(hz a z).1, fun w => (hz a z).2.1 (wf a w), (hz a z).2.2⟩) (h2.mono fun a w => w.imp (wf a) id)
    exact ⟨G2, fun a w => (w2 a w).imp (wf a) id⟩
  | i :: is, .l ds :: ms, vs, ps, s, σ, hl, G, nd, hz, ok => by
    obtain ⟨p, us, r, qs, rfl, rfl, hp, h1, h2⟩ := ok
    obtain ⟨nd1, nd2⟩ := List.nodup_cons.mp nd
    have G1 : Good F C (fun a => a ∈ qs) (setB i ds s) (σ.set i (some (.ref p))) H := G.store (sl := .box ds) (fun a z => List.mem_cons_of_mem _ z) (fun a _ e => by cases e; exact ⟨List.mem_cons_self .., (hz p (List.mem_cons_self ..)).2⟩) fun W hw hi => ⟨p, us, List.getElem?_set_self hi, hp, h1.mono hw⟩
    have wf : ∀ a, Wf F C (setB i ds s).env (σ.set i (some (.ref p))) a → Wf F C s.env σ a ∨ a = p := fun a w => wf_set w
    obtain ⟨G2, w2⟩ := store_mks (is := is) (ms := ms) (by simpa using hl) G1 nd2 (fun a z => ⟨(hz a (List.mem_cons_of_mem _ z)).1, fun w => (wf a w).elim (hz a (List.mem_cons_of_mem _ z)).2.1 fun e => nd1 (e ▸ z), (hz a (List.mem_cons_of_mem _ z)).2.2⟩)
      (h2.mono fun a w => by
        rcases w with w | w
        · rcases wf a w with w | w
          · exact .inl w
          · exact .inr (by simp [w])
        · exact .inr (List.mem_cons_of_mem _ w))
    refine ⟨G2, fun a w => ?_⟩
    rcases w2 a w with w | w
    · rcases wf a w with w | w
      · exact .inl w
      · exact .inr (by simp [w])
    · exact .inr (List.mem_cons_of_mem _ w)
  | i :: is, .d ds :: ms, vs, ps, s, σ, hl, G, nd, hz, ok => by
    obtain ⟨p, us, r, qs, rfl, rfl, hp, h1, h2⟩ := ok
    obtain ⟨nd1, nd2⟩ := List.nodup_cons.mp nd
    have G1 : Good F C (fun a => a ∈ qs) (setDB i ds s) (σ.set i (some (.ref p))) H := G.store (sl := .dbox ds) (fun a z => List.mem_cons_of_mem _ z) (fun a _ e => by cases e; exact ⟨List.mem_cons_self .., (hz p (List.mem_cons_self ..)).2⟩) fun W hw hi => ⟨p, us, List.getElem?_set_self hi, hp, h1.mono hw⟩
    have wf : ∀ a, Wf F C (setDB i ds s).env (σ.set i (some (.ref p))) a → Wf F C s.env σ a ∨ a = p := fun a w => wf_set w
    obtain ⟨G2, w2⟩ := store_mks (is := is) (ms := ms) (by simpa using hl) G1 nd2 (fun a z => ⟨(hz a (List.mem_cons_of_mem _ z)).1, fun w => (wf a w).elim (hz a (List.mem_cons_of_mem _ z)).2.1 fun e => nd1 (e ▸ z), (hz a (List.mem_cons_of_mem _ z)).2.2⟩)
      (h2.mono fun a w => by
        rcases w with w | w
        · rcases wf a w with w | w
          · exact .inl w
          · exact .inr (by simp [w])
        · exact .inr (List.mem_cons_of_mem _ w))
    refine ⟨G2, fun a w => ?_⟩
    rcases w2 a w with w | w
    · rcases wf a w with w | w
      · exact .inl w
      · exact .inr (by simp [w])
    · exact .inr (List.mem_cons_of_mem _ w)
  | [], _ :: _, _, _, _, _, h, _, _, _, _ => by cases h
  | _ :: _, [], _, _, _, _, h, _, _, _, _ => by cases h
def parF (is : List Nat) (f : State → Option (List Mk × State)) (s : State) : Option (Out × State) := (f s).bind fun p => if is.length = p.1.length then some (.next, setMks is p.1 p.2) else none
/-- the end of such a store -/
theorem par_end {F : Fr} {C : List Addr} {s s' : State} {σ : L2.St} {H : Hp} {Dn : Ends} {f : State → Option (List Mk × State)} {is : List Nat} {out : Out} {t : TA} (hK : F.K = X.K) (G : Good F C Z0 s σ H)
    (h : ∀ F C s σ H Z Q ms s', F.K = X.K → Good F C Z s σ H → ZOk F C s σ H Z → f s = some (ms, s') →
      (∀ vs C' H' ps, Good F C' (fun a => Z a ∨ a ∈ ps) s' σ H' → Stp (fun a => Wf F C s.env σ a ∨ Z a) H (fun a => Wf F C' s'.env σ a ∨ Z a ∨ a ∈ ps) H' → s'.env = s.env → (∀ a, Z a → H' a = H a) → ps.Nodup → (∀ p ∈ ps, ¬ Z p) → ZOk F C' s' σ H' (fun a => Z a ∨ a ∈ ps) →
        MksOk F.K (fun a => Wf F C' s'.env σ a ∨ Z a ∨ a ∈ ps) H' ms vs ps → Q vs H') → t σ H Q)
    (e : parF is f s = some (out, s')) (q : EndOk F C s σ H Dn s' out) {Q : List V → Hp → Prop} (fin : ∀ vs H1, vs.length = is.length → Dn.nx (setVs is vs σ) H1 → (∀ p o, H1 p = none → Dn.nx (setVs is vs σ) (upd H1 p o)) → Q vs H1) : t σ H Q := by
  obtain ⟨⟨ms, s1⟩, e1, e2⟩ := Option.bind_eq_some_iff.mp e
  simp only at e2
  split at e2
  case isFalse => cases e2
  rename_i hl
  cases e2
  refine h F C s σ H Z0 _ ms s1 hK G (fun a z => z.elim) e1 fun vs C1 H1 ps G1 st1 ee hk nd dis hz ok => ?_
  have z1 : (fun a => Z0 a ∨ a ∈ ps) = fun a => a ∈ ps := by
    funext a
    simp
  rw [z1] at G1 hz
  have ok' := ok.mono (W' := fun a => Wf F C1 s1.env σ a ∨ a ∈ ps) fun a w => w.imp id .inr
  obtain ⟨G2, w2⟩ := store_mks hl G1 nd hz ok'
  have st : Stp (Wf F C s.env σ) H (Wf F C1 (setMks is ms s1).env (setVs is vs σ)) H1 := fun a o e n => by
    obtain ⟨e3, n3⟩ := st1 a o e (fun w => w.elim n fun z => z.elim)
    exact ⟨e3, fun w => n3 ((w2 a w).imp id .inr)⟩
  have len : ∀ {ms : List Mk} {vs : List V} {ps : List Addr} {W : Addr → Prop}, MksOk F.K W H1 ms vs ps → vs.length = ms.length := by
    intro ms
    induction ms with
    | nil =>
      rintro vs ps W ⟨rfl, _⟩
      rfl
    | cons m ms ih =>
      intro vs ps W ok
      cases m with
      | v d =>
        obtain ⟨v, r, rfl, _, h2⟩ := ok
        simp [ih h2]
      | l ds =>
        obtain ⟨p, us, r, qs, rfl, _, _, _, h2⟩ := ok
        simp [ih h2]
      | d ds =>
        obtain ⟨p, us, r, qs, rfl, _, _, _, h2⟩ := ok
        simp [ih h2]
  refine fin vs H1 ((len ok').trans hl.symm) (q _ C1 H1 G2 st) fun p o hp => ?_
  exact q _ C1 _ (G2.alloc hp fun a e => .inr e) (st.trans (Stp.alloc hp fun a w => .inl w))
section
variable (cx : CtxOk X N S k) {j l : Nat} {y z : Str} {a b c : Expr} {px py pz pt pt2 : Pos} {kt k2 : Nat} {f : State → Option (List Mk × State)}
include cx
theorem ss_par2 (hi : N[i]? = some x) (hj : N[j]? = some y) (hij : i ≠ j) (hx : localB S.sc x = true) (hy : localB S.sc y = true) (h : SMks X [a, b] f)
    (hw : swappedStores [.Tuple [.Name x px, .Name y py] kt pt] (.Tuple [a, b] k2 pt2) X.env = pure (some [x, y])) (hs : swapsWithSole [.Tuple [.Name x px, .Name y py] kt pt] (.Tuple [a, b] k2 pt2) pos.line X.env = pure false) :
    SSt X (.Assign [.Tuple [.Name x px, .Name y py] kt pt] (.Tuple [a, b] k2 pt2) pos) (parF [i, j] f) := by
  obtain ⟨t, pt', q0⟩ := h
  refine ⟨_, ps_par cx.calm cx.ndX (cx.nm hi) (cx.nm hj) hij (cx.local hx) (cx.local hy) pt' hw hs, fun F C s σ H Dn out s' hK G e q => ?_⟩
  refine par_end hK G q0 e q fun vs H1 hl q1 q2 => ?_
  match vs, hl, q1 with
  | [v, w], _, q1 => exact ⟨v, w, rfl, q1⟩
theorem ss_par3 (hi : N[i]? = some x) (hj : N[j]? = some y) (hl : N[l]? = some z) (hij : i ≠ j) (hil : i ≠ l) (hjl : j ≠ l) (hx : localB S.sc x = true) (hy : localB S.sc y = true) (hz : localB S.sc z = true) (h : SMks X [a, b, c] f)
    (hw : swappedStores [.Tuple [.Name x px, .Name y py, .Name z pz] kt pt] (.Tuple [a, b, c] k2 pt2) X.env = pure (some [x, y, z])) (hs : swapsWithSole [.Tuple [.Name x px, .Name y py, .Name z pz] kt pt] (.Tuple [a, b, c] k2 pt2) pos.line X.env = pure false) :
    SSt X (.Assign [.Tuple [.Name x px, .Name y py, .Name z pz] kt pt] (.Tuple [a, b, c] k2 pt2) pos) (parF [i, j, l] f) := by
  obtain ⟨t, pt', q0⟩ := h
  refine ⟨_, ps_par3 cx.calm cx.ndX (cx.nm hi) (cx.nm hj) (cx.nm hl) hij hil hjl (cx.local hx) (cx.local hy) (cx.local hz) pt' hw hs, fun F C s σ H Dn out s' hK G e q => ?_⟩
  refine par_end hK G q0 e q fun vs H1 hl q1 q2 => ?_
  match vs, hl, q1 with
  | [v, w, u], _, q1 => exact ⟨v, w, u, rfl, q1⟩
/-- several names, by way of a tuple -/
def NamesOk (N : List Str) (S : Sco) : List Expr → List Nat → Prop
  | [], is => is = []
  | .Name x _ :: r, is => ∃ i js, is = i :: js ∧ N[i]? = some x ∧ locB S.sc x = true ∧ (S.fn x || localB S.sc x) = true ∧ NamesOk N S r js
  | _, _ => False
theorem pgs_names : ∀ {tgs : List Expr} {is : List Nat}, NamesOk N S tgs is → ∃ t, PGs X tgs t ∧ (∀ vs σ H Q, vs.length = is.length → Q (setVs is vs σ) H → t vs σ H Q) ∧ (assignEach tgs X.env).length = is.length ∧ (assignEach tgs X.env).findIdx? (·.1) = none
  | [], is, h => by
    cases (show is = [] from h)
    refine ⟨_, pgs_nil, fun vs σ H Q hl q => ?_, rfl, rfl⟩
    cases vs with
    | nil => exact ⟨rfl, q⟩
    | cons v vs => simp at hl
  | .Name x pp :: r, is, h => by
    obtain ⟨i, js, rfl, h1, h2, h3, h4⟩ := h
    obtain ⟨t, pt, q, l1, l2⟩ := pgs_names h4
    refine ⟨_, pgs_cons (pg_name cx.ndX (cx.nm h1) (cx.loc h2) (cx.fnOr h3)) pt (by rw [assignEach_cons rfl]; rfl), fun vs σ H Q hl q' => ?_, by rw [assignEach_cons rfl]; simp [l1], by rw [assignEach_cons rfl, List.findIdx?_cons, l2]; rfl⟩
    cases vs with
    | nil => simp at hl
    | cons v vs => exact ⟨v, vs, rfl, q vs _ H Q (by simpa using hl) q'⟩
theorem ss_parT {tgs : List Expr} {is : List Nat} (hn : NamesOk N S tgs is) (h : SMks X es f) (hs : swapsWithSole [.Tuple tgs kt pt] (.Tuple es k2 pt2) pos.line X.env = pure false) (hw : swappedStores [.Tuple tgs kt pt] (.Tuple es k2 pt2) X.env = pure none) (hz : is.length ≤ 100) :
    SSt X (.Assign [.Tuple tgs kt pt] (.Tuple es k2 pt2) pos) (parF is f) := by
  obtain ⟨t, pt', q0⟩ := h
  obtain ⟨u, pu, qu, l1, l2⟩ := pgs_names (X := X) cx hn
  refine ⟨_, ps_asg (pe_tup pt') (pg_tup cx.calm pu l1 l2) hs hw rfl, fun F C s σ H Dn out s' hK G e q => ?_⟩
  refine par_end hK G q0 e q fun vs H1 hl q1 q2 => ⟨by have := sizeLine_big; omega, fun p hp => ?_⟩
  exact ⟨p, vs, rfl, .inl (.inl upd_same), hl, qu vs σ _ _ hl (q2 p _ hp)⟩
end
end
end IR

end
section
/-! Ir16: methods of tuples, backwards, sorted, repr, get, dicts written out, names of the module. -/
namespace IR
open PySem PySem.Spec PyProof.Rows L2

section
variable {X : Cx} {N : List Str} {S : Sco} {k : Nat} {a b e o : Expr} {es : List Expr} {pos apos cpos : Pos}
theorem PE.or {t u : TE} (h1 : PE X e t) (h2 : PE X e u) : PE X e fun σ H Q => t σ H Q ∨ u σ H Q :=
  ⟨fun pins s σ H Q I h => h.elim (h1.run pins s σ H Q I) (h2.run pins s σ H Q I)⟩

/-! ### names of the module -/
def conF (d : D) (s : State) : Option (D × State) := some (d, s)
theorem sv_glob (cx : CtxOk X N S k) {x : Str} {d : D} {v : V} {u : Value} (hg : glB S.sc x = true) (hm : X.mg x = some u) (r : RelV v u) (h : ∀ W H, Rep X.K W H d v) (hd : (x == ("__debug__" : Str)) = false) : SVal X (.Name x pos) (conF d) :=
  ⟨_, pe_glob (cx.gl hg) hm r hd, fun F C s σ H Q d' s' hK G e q => by cases e; exact q v C H (Aft.refl G) (by rw [hK]; exact h _ _)⟩

/-! ### tuples with a known object: their methods -/
theorem TupR.at {pins : List (Addr × Obj)} {σ : L2.St} {H : Hp} {s : Shared} (I : Inv X pins σ H s) {p : Addr} {vs : List V} (t : TupR X.K H p vs) : ∃ ob, s.heap.get? p = some ob ∧ ob.cls = .type "tuple" ∧ ob.dict = none := by
  obtain ⟨its, r, ht, hz⟩ := I.tuple t.sq
  rcases t with ⟨ob, h, hd⟩ | ⟨ob, its2, n, h1, h2, h3, _⟩
  · have e1 := (I.hok p _ h).1
    obtain ⟨ob2, e2, hc, _⟩ := ht
    rw [e1] at e2
    cases e2
    exact ⟨ob, e1, hc, hd⟩
  · exact ⟨ob, I.kIn _ _ h1, h2, h3⟩
def tBT (K : PySem.W.Frag) (r : V → List V → Hp → VK → Prop) (to : TE) (t : TA) : TE := fun σ H Q => to σ H fun x H1 => (∃ p vs, x = .ref p ∧ TupR K H1 p vs) ∧ t σ H1 fun xs H2 => r x xs H2 Q
theorem pe_bt {name : Str} {id : String} {r : V → List V → Hp → VK → Prop} {to : TE} {t : TA} (slot : PySem.Slot "tuple" name id) (hty : typeOf (.builtin id) = pure (.type "method_descriptor")) (hm : MtR X id r) (ho : PE X o to) (ha : PA X (e :: es) t)
    (hbase : attributeBase o name X.env (eval o X.env) = eval o X.env)
    (hfew : ((backTo cpos (starEach (e :: es) X.env)).all (fun x => !x.1) && (backToKw cpos (keywordEach [] X.env)).all (fun x => x.1.isSome) && decide ((e :: es).length + ([] : List Keyword).length + (if ([] : List Keyword).isEmpty then 0 else 1) < 30)) = true)
    (hline : (apos.endLine == cpos.line) = true) (hst : ∀ y ∈ e :: es, isStar y = false) : PE X (.Call (.Attribute o name apos) (e :: es) [] cpos) (tBT X.K r to t) := by
  have hs := star1 (es := es) (env := X.env) (hst e (List.mem_cons_self ..))
  have pl := stars_none (env := X.env) (pos := cpos) fun y hy => hst y (List.mem_cons_of_mem _ hy)
  refine ⟨fun pins s σ H Q I h => ?_⟩
  refine wpAny_Call_method_late hbase hfew hline rfl (thn (ho.run pins s σ H _ I h) fun v s1 q0 => ?_)
  obtain ⟨x, H1, I1, r1, ⟨p, ws, ex, tr⟩, q1⟩ := q0
  subst ex
  obtain rfl : v = .ref p := r1
  obtain ⟨ob, e1, e2, e3⟩ := TupR.at I1 tr
  refine ⟨"tuple", id, PySem.F.plainAttrs_tuple, slot, hty, ⟨ob, e1, e2⟩, fun a ea => by cases ea; exact ⟨ob, e1, e3⟩, ?_⟩
  have run := ha.run cpos pins s1 σ H1 _ I1 q1
  rw [hs] at run ⊢
  refine Calls.callWith_builtin (by show (false || (backTo cpos (starEach es X.env)).any (·.1)) = false; rw [pl]; rfl) (Calls.evalArgs_plain (thn run fun us s2 q2 => ?_))
  obtain ⟨vs, H2, I2, r2, q3⟩ := q2
  exact hm pins s2 σ H2 (.ref p) vs (.ref p) us Q I2 rfl r2 q3
def idxM (fo : State → Option (D × State)) (fe : State → Option (Pre × State)) (s : State) : Option (D × State) :=
  (fo s).bind fun p => (fe p.2).bind fun r => (post r.2 r.1).bind fun y => (indexD p.1 y).map fun d => (d, r.2)
theorem sv_index (cx : CtxOk X N S k) {fo : State → Option (D × State)} {fe : State → Option (Pre × State)} (ho : SVal X o fo) (he : SPre X e fe) (hse : isStar e = false)
    (hbase : attributeBase o "index" X.env (eval o X.env) = eval o X.env)
    (hfew : ((backTo cpos (starEach [e] X.env)).all (fun x => !x.1) && (backToKw cpos (keywordEach [] X.env)).all (fun x => x.1.isSome) && decide (([e] : List Expr).length + ([] : List Keyword).length + (if ([] : List Keyword).isEmpty then 0 else 1) < 30)) = true)
    (hline : (apos.endLine == cpos.line) = true) : SVal X (.Call (.Attribute o "index" apos) [e] [] cpos) (idxM fo fe) := by
  obtain ⟨to, po, qo⟩ := ho
  obtain ⟨te, pe, qe⟩ := he
  have hst : ∀ y ∈ ([e] : List Expr), isStar y = false := fun y hy => (List.mem_singleton.mp hy) ▸ hse
  refine ⟨_, PE.or (pe_bm PySem.F.plainAttrs_list PySem.F.slot_list_index PySem.F.type_list_index (mt_indexD cx.u65) po (pa_cons pe pa_nil (star1 hse)) hbase hfew hline (star1 hse) rfl)
    (pe_bt PySem.F.slot_tuple_index PySem.F.type_tuple_index mt_tup_index po (pa_cons pe pa_nil (star1 hse)) hbase hfew hline hst), fun F C s σ H Q d s' hK G e q => ?_⟩
  obtain ⟨⟨x, s1⟩, h1, h⟩ := Option.bind_eq_some_iff.mp e
  obtain ⟨⟨p2, s2⟩, h2, h⟩ := Option.bind_eq_some_iff.mp h
  obtain ⟨y, h4, h⟩ := Option.bind_eq_some_iff.mp h
  obtain ⟨dd, h5, h⟩ := Option.map_eq_some_iff.mp h
  cases h
  simp only at h2 h4 h5
  cases x with
  | list ds =>
    simp only [indexD] at h5
    split at h5
    case isFalse => cases h5
    rename_i hsh
    rw [Bool.and_eq_true] at hsh
    obtain ⟨j, e1, e2⟩ := Option.map_eq_some_iff.mp h5
    cases e2
    refine .inl (qo F C s σ H _ _ s1 hK G h1 fun v C1 H1 a1 r1 => ?_)
    have r0 := r1
    simp only [Rep] at r0
    obtain ⟨a, vs, ev, n, ha, rl⟩ := r0
    subst ev
    refine ⟨.inl ⟨rfl, vs, .of ha⟩, qe F C1 s1 σ H1 _ p2 s2 hK a1.1 h2 fun u C2 H2 a2 r2 => ?_⟩
    have D1 := (Rep.r (r1.stp a2.2 _ _)).dp (shaped_lay hsh.2)
    have D2 := (post_rep a2.1 h4 r2).dp (shaped_lay hsh.1)
    rw [hK] at D1 D2
    obtain ⟨hj, pj, no⟩ := List.findIdx?_eq_some_iff_getElem.mp e1
    refine ⟨a, u, y, ds, j, ds[j], rfl, rfl, D1, D2, hsh.2, hsh.1, List.getElem?_eq_getElem hj, pj, fun m z hm ez => ?_, q _ C2 H2 (a1.trans a2) rp_int⟩
    have ez' : ds[m] = z := (List.getElem?_eq_some_iff.mp ez).2
    have := no m hm
    rw [ez'] at this
    simpa using this
  | tuple ds =>
    cases y with
    | str z =>
      simp only [indexD] at h5
      obtain ⟨ys, e0, h5⟩ := Option.bind_eq_some_iff.mp h5
      obtain ⟨j, e1, e2⟩ := Option.map_eq_some_iff.mp h5
      cases e2
      refine .inr (qo F C s σ H _ _ s1 hK G h1 fun v C1 H1 a1 r1 => ?_)
      have r0 := r1
      simp only [Rep] at r0
      obtain ⟨a, vs, ev, ht, rl⟩ := r0
      subst ev
      have tr := ht.sq
      rw [hK] at tr
      refine ⟨⟨a, vs, rfl, tr⟩, qe F C1 s1 σ H1 _ p2 s2 hK a1.1 h2 fun u C2 H2 a2 r2 => ?_⟩
      have eu := rr_str (post_rep a2.1 h4 r2)
      subst eu
      have evs := rl.strsOf e0
      subst evs
      have sq := (ht.stp a2.2).sqT
      rw [hK] at sq
      obtain ⟨hj, pj, no⟩ := List.findIdx?_eq_some_iff_getElem.mp e1
      refine ⟨a, ys, z, j, rfl, rfl, sq, ?_, fun m hm em => ?_, q _ C2 H2 (a1.trans a2) rp_int⟩
      · rw [List.getElem?_eq_getElem hj]
        have : ys[j] = z := by simpa using pj
        rw [this]
      · have ez' : ys[m]'((List.getElem?_eq_some_iff.mp em).1) = z := (List.getElem?_eq_some_iff.mp em).2
        have := no m hm
        rw [ez'] at this
        simp at this
    | _ => cases h5
  | _ => cases h5

/-! ### repr -/
theorem repr_ok (cx : CtxOk X N S k) : ∃ rr, CallR X (.builtin "repr") rr ∧ Un1 X RVal (fun v => rr [v]) reprD := by
  refine ⟨fun xs H Q => ∃ v d, xs = [v] ∧ Dp X.K H v d ∧ reprD d = some (.str d.shown) ∧ Q (.str d.shown) H, fun pins s σ H xs us Q I r h => ?_, fun F C s σ H x dx d Q hK G rx e q => ?_⟩
  · obtain ⟨v, d, rfl, dp, hd, q⟩ := h
    obtain ⟨u, rfl, ru⟩ := vals1 r
    simp only [reprD] at hd
    split at hd
    case isFalse => cases hd
    rename_i hh
    obtain ⟨h1, h2, h3, h4, h5⟩ := hh
    obtain ⟨as, rd⟩ := Dp.reads I d v u dp ru
    have un := cx.room.un
    have fin : ∀ h' u' tk, (∀ b o, s.heap.get? b = some o → h'.get? b = some o) → EP X pins σ Q (.str d.shown u') { s with heap := h', toks := tk } := fun h' u' tk hk => ⟨.str d.shown, H, I.kept (t' := tk) hk, ⟨_, rfl⟩, q⟩
    cases rd with
    | none => exact PySem.P.repr_of_none (fin _ _ _ fun _ _ e => e)
    | bool b => exact PySem.P.repr_of_bool (fin _ _ _ fun _ _ e => e)
    | int i t => exact PySem.P.repr_of_int (by simpa [PyData.showable] using h2) (fin _ _ _ fun _ _ e => e)
    | str y t => exact PySem.P.repr_of_str (fin _ _ _ fun _ _ e => e) h4
    | list a1 a2 a3 a4 => exact repr_of_reads' (.list a1 a2 a3 a4) h2 (fun z => by rw [h3] at z; cases z) cx.guards (by omega) (fun _ _ e => e) fin h4
    | tuple a1 a2 a3 a4 => exact repr_of_reads' (.tuple a1 a2 a3 a4) h2 (fun z => by rw [h3] at z; cases z) cx.guards (by omega) (fun _ _ e => e) fin h4
    | dict a1 a2 a3 a4 a5 => simp [PyData.canLay0] at h1
  · have e' := e
    simp only [reprD] at e'
    split at e'
    case isFalse => cases e'
    rename_i hh
    cases e'
    have dp := rx.dp hh.1
    rw [hK] at dp
    exact ⟨x, dx, rfl, dp, e, q _ _ ⟨Aft.refl G, rp_str⟩⟩

/-! ### d.get(k, d0) -/
def getF (fo : State → Option (D × State)) (fk : State → Option (Pre × State)) (fd : State → Option (D × State)) (s : State) : Option (D × State) :=
  (fo s).bind fun p => (fk p.2).bind fun r => (fd r.2).bind fun z => (post z.2 r.1).bind fun y => match p.1 with
    | .dict kvs => if isKey y then some ((look y kvs).getD z.1, z.2) else none
    | _ => none
end
end IR

end
section
/-! Ir17: sorted, backwards. -/
namespace IR
open PySem PySem.Spec PyProof.Rows L2

/-! ### texts in order -/
def leS (a b : Str) : Prop := ¬ (b.cps.toList < a.cps.toList)
instance (a b : Str) : Decidable (leS a b) := inferInstanceAs (Decidable (¬ _))
theorem leS_total (a b : Str) : leS a b ∨ leS b a := by
  unfold leS
  rcases Classical.em (b.cps.toList < a.cps.toList) with h | h
  · exact .inr fun h' => absurd (List.lt_asymm h h') id
  · exact .inl h
theorem leS_antisymm {a b : Str} (h1 : leS a b) (h2 : leS b a) : a = b := by
  have e : a.cps.toList = b.cps.toList := List.le_antisymm h1 h2
  obtain ⟨⟨x⟩⟩ := a
  obtain ⟨⟨y⟩⟩ := b
  simp only at e
  rw [e]
theorem leS_trans {a b c : Str} (h1 : leS a b) (h2 : leS b c) : leS a c := List.le_trans h1 h2
theorem ins_perm (x : Str) : ∀ l : List Str, (insS x l).Perm (x :: l)
  | [] => .refl _
  | y :: r => by
    unfold insS
    split
    · exact .refl _
    · exact ((ins_perm x r).cons y).trans (.swap x y r)
theorem sortS_perm : ∀ l : List Str, (sortS l).Perm l
  | [] => .refl _
  | x :: l => (ins_perm x _).trans ((sortS_perm l).cons x)
theorem ins_sorted (x : Str) : ∀ l : List Str, l.Pairwise leS → (insS x l).Pairwise leS
  | [], _ => by simp [insS]
  | y :: r, h => by
    obtain ⟨h1, h2⟩ := List.pairwise_cons.mp h
    unfold insS
    split
    · rename_i lt
      have lt : x.cps.toList < y.cps.toList := by simpa using lt
      have xy : leS x y := fun z => List.lt_asymm lt z
      refine List.pairwise_cons.mpr ⟨fun z hz => ?_, h⟩
      rcases List.mem_cons.mp hz with e | hz
      · rw [e]
        exact xy
      · exact leS_trans xy (h1 z hz)
    · rename_i nlt
      have yx : leS y x := by simpa [leS] using nlt
      refine List.pairwise_cons.mpr ⟨fun z hz => ?_, ins_sorted x r h2⟩
      rcases List.mem_cons.mp ((ins_perm x r).mem_iff.mp hz) with e | hz
      · rw [e]
        exact yx
      · exact h1 z hz
theorem sortS_sorted : ∀ l : List Str, (sortS l).Pairwise leS
  | [] => .nil
  | x :: l => ins_sorted x _ (sortS_sorted l)
theorem sortS_unique {l m : List Str} (p : m.Perm l) (h : m.Pairwise leS) : m = sortS l := by
  have q : m.Perm (sortS l) := p.trans (sortS_perm l).symm
  exact q.eq_of_pairwise (fun a b _ _ h1 h2 => leS_antisymm h1 h2) h (sortS_sorted l)
theorem rising_pw : ∀ (p : Str) (l : List Str), risingS p l = true → (p :: l).Pairwise leS
  | p, [], _ => by simp
  | p, x :: r, h => by
    have h' : (!ltCps x.cps.toList p.cps.toList && risingS x r) = true := h
    rw [Bool.and_eq_true] at h'
    have ih := rising_pw x r h'.2
    have px : leS p x := by
      have := h'.1
      rw [ltCps_eq] at this
      simpa [leS] using this
    refine List.pairwise_cons.mpr ⟨fun z hz => ?_, ih⟩
    rcases List.mem_cons.mp hz with e | hz
    · rw [e]
      exact px
    · exact leS_trans px ((List.pairwise_cons.mp ih).1 z hz)
theorem sorted_pw : ∀ (l : List Str), sortedS l = true → l.Pairwise leS
  | [], _ => .nil
  | x :: r, h => rising_pw x r h
theorem sortS_length (l : List Str) : (sortS l).length = l.length := (sortS_perm l).length_eq

/-! ### sorted(a tuple of texts) -/
section
variable {prog : Program} {w : World} {A : Around} {E : Value → Shared → Prop} {s : Shared}
/-- the heap behind list(a tuple) -/
def gathered (h : Heap) (its : Array Value) : Heap := (h.push { cls := .type "list", data := .seq ([] : List Value).toArray }).update h.objs.size (Obj.mapSeq (· ++ its))
theorem gathered_size (h : Heap) (its : Array Value) : (gathered h its).objs.size = h.objs.size + 1 := by
  unfold gathered
  rw [Heap.size_update, Heap.size_push]
theorem gathered_old {h : Heap} {its : Array Value} {b : Addr} {o : Obj} (e : h.get? b = some o) : (gathered h its).get? b = some o :=
  (Heap.get?_update_other _ _ (Nat.ne_of_gt (Heap.lt_size e))).trans (Heap.get?_push_of_some _ e)
theorem gather_tup {Q : List Value → Shared → Prop} {it : Addr} {o : Obj} {items : Array Value} {n : Nat} (e1 : s.heap.get? it = some o) (e2 : o.cls = .type "tuple") (e3 : o.data = .seq items n)
    (q : Q items.toList { s with heap := gathered s.heap items }) (few : items.size ≤ sizeLine) : wpAny (model prog w) A (collect (.ref it)) Q E s := by
  unfold collect
  refine wpAny_bind (wpAny_runValue (codeAny_builtin PySem.F.entry_proto_collect ?_))
  rw [Around.under_plainId PySem.F.plain_proto_collect _]
  show wpAny _ A.in1 (newList [] >>= fun l => again (.builtin "list.__iadd__" ⟨[l, .ref it], []⟩)) _ _ s
  refine wpAny_bind (wpAny_newObj_type (wpAny_pure ⟨plainId_quiet PySem.F.plain_list_iadd _, codeAny_builtin PySem.F.entry_list_iadd ?_⟩))
  rw [Around.under_plainId PySem.F.plain_list_iadd _]
  show wpAny _ A.in1 (Builtin.List.listExtendWith (.ref s.heap.objs.size) (.ref it) (.ref s.heap.objs.size)) _ _ _
  have new0 : (s.heap.push { cls := .type "list", data := .seq ([] : List Value).toArray }).get? s.heap.objs.size = some { cls := .type "list", data := .seq #[] 0 } := Heap.get?_push_size _ rfl
  have new1 := Heap.get?_update_self (Obj.mapSeq (· ++ items)) new0 rfl
  have last : wpAny (model prog w) A (match Value.ref s.heap.objs.size with
      | Value.ref a => do
        match (← load a).data with
          | Data.seq xs _ => pure xs.toList
          | _ => unsupported "internal:collect"
      | _ => unsupported "internal:collect") Q E { s with heap := gathered s.heap items } := by
    show wpAny _ A (load s.heap.objs.size >>= _) _ _ _
    refine wpAny_bind (wpAny_load new1 (wpAny_pure ?_))
    have e : ((#[] : Array Value) ++ items).toList = items.toList := by simp
    show Q ((#[] : Array Value) ++ items).toList _
    rw [e]
    exact q
  refine wpAny_mono (wpAny_extend_seq (hsz := few) (A := A) (R := fun r s' => r = .ok (.ret (.ref s.heap.objs.size)) ∧ s' = { s with heap := gathered s.heap items })
    (s := { s with heap := s.heap.push { cls := .type "list", data := .seq ([] : List Value).toArray } }) _ it _ 0 (.inr rfl) new0 (Heap.get?_push_of_some _ e1) e2 e3 ⟨rfl, rfl⟩) (fun fin s' h => ?_) (fun x s' h => ?_)
  · cases fin with
    | done f =>
      obtain ⟨ef, es⟩ := h
      cases ef
      rw [es]
      exact last
    | again c =>
      refine ⟨h.1, codeAny_mono h.2 fun r s2 hr => ?_⟩
      obtain ⟨er, es⟩ := hr
      rw [er, es]
      exact last
  · exact absurd h.1 (by simp)
theorem sorted_tupStrs {p : Addr} {us : List Value} {ss : List Str} {Q : Value → Shared → Prop} (hl : IsTup s.heap p us.toArray) (hS : StrsAre us ss) (h64 : us.length < 64)
    (h : ∀ (h' : Heap) (q : Addr) (out : Array Value) (ss' : List Str) (n : Nat), StrsAre out.toList ss' → ss'.Perm ss → sortedS ss' = true → s.heap.objs.size ≤ q → (∀ b o, s.heap.get? b = some o → h'.get? b = some o) → h'.get? q = some (seqObj "list" out n) → Q (.ref q) { s with heap := h' }) :
    wpAny (model prog w) A (call (.builtin "sorted") [.ref p]) Q E s := by
  obtain ⟨ob, e1, e2, n0, e3⟩ := hl
  have few : us.toArray.size ≤ sizeLine := by
    have := sizeLine_big
    simp only [List.size_toArray]
    omega
  refine Calls.call_function_entry kind_sorted plain_sorted entry_sorted (args_sorted1 _) ?_
  unfold Builtin.«sorted»
  refine wpAny_bind (m := checkCount "sorted" 1 1 _) (wpAny_pure (wpAny_bind (gather_tup e1 e2 e3 ?_ few)))
  refine wpAny_bind (wpAny_newList ?_ (by simpa using few))
  generalize eh : gathered s.heap us.toArray = h1
  have sz1 : h1.objs.size = s.heap.objs.size + 1 := by rw [← eh, gathered_size]
  have k1 : ∀ b o, s.heap.get? b = some o → h1.get? b = some o := fun b o e => by rw [← eh]; exact gathered_old e
  have at1 : (h1.push (seqObj "list" us.toArray 0)).get? h1.objs.size = some (seqObj "list" us.toArray 0) := Heap.get?_push_size _ rfl
  show wpAny _ _ _ _ _ { s with heap := h1.push (seqObj "list" us.toArray 0) }
  have old : ∀ b o, s.heap.get? b = some o → b < h1.objs.size := fun b o e => Heap.lt_size (k1 b o e)
  refine wpAny_bind (wpAny_holding (wpAny_call_entry slot_list_sort ⟨_, at1, rfl⟩ entry_list_sort (list_sort_treeK strKind_oneLt at1 hS.keysOf (fun v1 v2 r e => keyKind_strs (by rw [← e]; exact hS)) h64 fun st a1 a2 => ⟨_, rfl, ?_⟩) (args_list_sort _)))
  obtain ⟨ss', b1, b2, b3⟩ := sorted_out_str hS a1 a2
  obtain ⟨n, hn⟩ := sortedHeap_at (out := (arrOf st).map (·.2)) at1
  refine wpAny_pure ⟨_, rfl, h _ h1.objs.size _ ss' n b1 b2 b3 (by rw [sz1]; exact Nat.le_succ _) (fun b o e => ?_) hn⟩
  have lt := old b o e
  rw [sortedHeap_old (Nat.ne_of_lt lt) (by rw [size_push']; exact Nat.lt_succ_of_lt lt)]
  exact Heap.get?_push_of_some _ (k1 b o e)
end
section
variable {X : Cx} {N : List Str} {S : Sco} {k : Nat} {e : Expr} {pos : Pos}
theorem allStrs_map : ∀ {ds : List D} {xs : List Str}, allStrs ds = some xs → ds = xs.map .str
  | [], xs, h => by
    cases h
    rfl
  | d :: ds, xs, h => by
    cases d with
    | str x =>
      simp only [allStrs] at h
      obtain ⟨ys, e, rfl⟩ := Option.map_eq_some_iff.mp h
      rw [allStrs_map e]
      rfl
    | _ => cases h
theorem RepL.strs {K : PySem.W.Frag} {W : Addr → Prop} {H : Hp} : ∀ (xs : List Str), RepL K W H (xs.map .str) (xs.map V.str)
  | [] => RepL.nil
  | x :: xs => RepL.cons rp_str (RepL.strs xs)
theorem cr_sortedTS : CallR X (.builtin "sorted") (fun vs H Q => ∃ (a : Addr) (xs : List Str), vs = [V.ref a] ∧ SqT X.K H a (xs.map V.str) ∧ xs.length < 64 ∧ ∀ (ys : List Str) (p : Addr), ys.Perm xs → sortedS ys = true → H p = none → Q (.ref p) (upd H p (.lst (ys.map V.str)))) := by
  intro pins s σ H vs us Q I r h
  obtain ⟨a, xs, rfl, hs, h64, q⟩ := h
  obtain ⟨its, rv, ht, hz⟩ := I.tuple hs
  rw [Vals.ref1 r]
  have l0 := rv.length
  rw [List.length_map] at l0
  refine sorted_tupStrs ht rv.strs (by rw [← l0]; exact h64) fun h' p out ys n h1 h2 h3 hp hk hn => ?_
  have few : (ys.map V.str).length ≤ sizeLine := by rw [List.length_map, h2.length_eq]; exact small64 h64
  exact ⟨.ref p, upd H p (.lst (ys.map V.str)), I.laid (t' := s.toks) hk hp ⟨few, out.toList, n, vals_of_strs h1, hn⟩, rfl, q ys p h2 h3 (I.hok.fresh hp)⟩
theorem sorted_fr : ∃ rr, CallR X (.builtin "sorted") rr ∧ Un1 X RFr (fun v => rr [v]) sortedL := by
  refine ⟨_, CallR.or cr_sortedS cr_sortedTS, fun F C s σ H x dx ds Q hK G rx e q => ?_⟩
  have fin : ∀ (xs ys : List Str), xs.length < 64 → ds = (sortS xs).map PyData.str → ys.Perm xs → sortedS ys = true → ∀ p, H p = none → Q (.ref p) (upd H p (.lst (ys.map V.str))) := fun xs ys _ ed p1 p2 p hp => by
    have ey := sortS_unique p1 (sorted_pw ys p2)
    subst ey
    subst ed
    exact laid_fr G (RepL.strs _) q p hp
  cases dx with
  | list es =>
    simp only [sortedL] at e
    obtain ⟨xs, e1, e2⟩ := Option.bind_eq_some_iff.mp e
    split at e2
    case isFalse => cases e2
    rename_i h64
    cases e2
    obtain ⟨a, vs, ea, h, hl⟩ := rx
    have ev := hl.strsOf e1
    subst ea ev
    exact .inl ⟨a, xs, rfl, .inl h, h64, fun ys p p1 p2 hp => fin xs ys h64 rfl p1 p2 p hp⟩
  | tuple es =>
    simp only [sortedL] at e
    obtain ⟨xs, e1, e2⟩ := Option.bind_eq_some_iff.mp e
    split at e2
    case isFalse => cases e2
    rename_i h64
    cases e2
    obtain ⟨a, vs, ea, h, hl⟩ := rx
    have ev := hl.strsOf e1
    subst ea ev
    rw [hK] at h
    exact .inr ⟨a, xs, rfl, h.sq, h64, fun ys p p1 p2 hp => fin xs ys h64 rfl p1 p2 p hp⟩
  | _ => cases e
end
end IR

end
section
/-! Ir18: x[::-1]. -/
namespace IR
open PySem PySem.Spec PyProof.Rows L2
section
variable {prog : Program} {w : World} {A : Around} {E : Value → Shared → Prop} {s : Shared}
theorem pick_back (items : Array Value) : ((List.range items.size).filterMap fun (j : Nat) => items[((items.size : Int) - 1 + (j : Int) * (-1)).toNat]?).toArray = items.toList.reverse.toArray := by
  congr 1
  apply List.ext_getElem?
  intro i
  have e : (List.range items.size).filterMap (fun (j : Nat) => items[((items.size : Int) - 1 + (j : Int) * (-1)).toNat]?) = (List.range items.size).attach.map (fun j => items[items.size - 1 - j.1]'(by have := List.mem_range.mp j.2; omega)) := by
    rw [← List.filterMap_eq_map]
    conv => lhs; rw [← List.attach_map_subtype_val (List.range items.size)]
    rw [List.filterMap_map]
    congr 1
    funext j
    have hj := List.mem_range.mp j.2
    have ix : ((items.size : Int) - 1 + ((j.1 : Nat) : Int) * (-1)).toNat = items.size - 1 - j.1 := by omega
    simp only [Function.comp, ix]
    exact Array.getElem?_eq_getElem _
  rw [e]
  by_cases hi : i < items.size
  · rw [List.getElem?_map, List.getElem?_attach]
    simp [hi, List.getElem?_reverse]
  · rw [List.getElem?_eq_none (by simp; omega), List.getElem?_eq_none (by simp; omega)]
theorem slots_back (n : Nat) : Builtin.Slice.sliceAdjust none none (-1) (n : Int) = ((n : Int) - 1, -1) ∧ Builtin.Slice.slicePlaces ((n : Int) - 1) (-1) (-1) = n := by
  refine ⟨rfl, ?_⟩
  unfold Builtin.Slice.slicePlaces
  rw [if_neg (by decide)]
  by_cases h : (n : Int) - 1 > -1
  · rw [if_pos h]
    have : ((n : Int) - 1 - -1 - 1) / (- -1) + 1 = (n : Int) := by
      rw [show (- -1 : Int) = 1 from rfl, Int.ediv_one]
      omega
    rw [this]
    omega
  · rw [if_neg h]
    omega
theorem applied_back {sl : Addr} {vs : Value} {n : Nat} {Q : Int × Int × Nat → Shared → Prop} (hs : s.heap.IsSliceOf sl .none .none vs) (ps : IsPart vs (some (-1)))
    (q : Q ((n : Int) - 1, -1, n) s) : wpAny (model prog w) A (Builtin.Slice.sliceApplied (.ref sl) (pure (n : Int))) Q E s := by
  obtain ⟨ob, e1, e2, e3⟩ := id hs
  unfold Builtin.Slice.sliceApplied Builtin.Slice.sliceFields
  refine wpAny_bind (wpAny_bind (wpAny_field e1 e3 (x := .none) rfl (wpAny_bind (wpAny_field e1 e3 (x := .none) rfl (wpAny_bind (wpAny_field e1 e3 (x := vs) rfl (wpAny_pure ?_)))))))
  refine wpAny_bind (HT.slicePart_ ps ?_)
  show wpAny _ _ (if ((-1 : Int) == 0) = true then _ else _) _ _ s
  rw [if_neg (by decide)]
  refine wpAny_bind (slicePart_none (wpAny_bind (slicePart_none (wpAny_bind (wpAny_pure ?_)))))
  obtain ⟨b1, b2⟩ := slots_back n
  show wpAny _ _ (match Builtin.Slice.sliceAdjust none none (-1) (n : Int) with | (lo, hi) => pure (lo, (-1 : Int), Builtin.Slice.slicePlaces lo hi (-1))) _ _ s
  rw [b1]
  show wpAny _ _ (pure ((n : Int) - 1, (-1 : Int), Builtin.Slice.slicePlaces ((n : Int) - 1) (-1) (-1))) _ _ s
  rw [b2]
  exact wpAny_pure q
theorem getItem_back {t sl : Addr} {items : Array Value} {vs : Value} {Q : Value → Shared → Prop} (ht : IsTup s.heap t items) (hs : s.heap.IsSliceOf sl .none .none vs) (ps : IsPart vs (some (-1))) (few : items.size ≤ sizeLine)
    (q : Q (.ref s.heap.objs.size) { s with heap := s.heap.push { cls := .type "tuple", data := .seq items.toList.reverse.toArray } }) : wpAny (model prog w) A (getItem (.ref t) (.ref sl)) Q E s := by
  have fits : PySem.sizeOk (.seq items.toList.reverse.toArray) := by
    show items.toList.reverse.toArray.size ≤ sizeLine
    simpa using few
  have isS : s.TypeIs (.ref sl) "slice" := by
    obtain ⟨ob, e1, e2, _⟩ := id hs
    exact ⟨ob, e1, e2⟩
  unfold getItem
  try with_reducible refine wpAny_holding ?_
  first | refine wpAny_bind (wpAny_pure ?_) | skip
  refine wpAny_bind (wpAny_sequenceKey ht.typeIs (by decide) (wpAny_bind (wpAny_callSpecial?_slot (name := Str.ofString "__getitem__") ht.typeIs PyProof.Rows.slot_tuple_getitem
    (wpAny_call_entry PyProof.Rows.slot_tuple_getitem ht.typeIs entry_tuple_getitem ?_ (args_tuple_getitem _ _)))))
  show wpAny _ _ (Builtin.Tuple.tupleItemsOf (.ref t) >>= _) _ _ s
  refine wpAny_bind (tupleItemsOf_ ht (wpAny_bind (wpAny_typeOf isS ?_)))
  rw [if_pos (by decide)]
  refine wpAny_bind (applied_back hs ps ?_)
  have no : ¬ (((items.size : Int) - 1 == 0 && (-1 : Int) == 1 && items.size == items.size) = true) := by simp
  show wpAny _ _ (if ((items.size : Int) - 1 == 0 && (-1 : Int) == 1 && items.size == items.size) = true then _ else _) _ _ s
  rw [if_neg no, pick_back]
  first
    | exact wpAny_bind (m := Builtin.Tuple.tupleExact _) (wpAny_newObj_type (wpAny_pure ⟨_, rfl, wpAny_pure q⟩) fits)
    | exact wpAny_bind (wpAny_bind (m := Builtin.Tuple.tupleExact _) (wpAny_newObj_type (wpAny_pure ⟨_, rfl, wpAny_pure q⟩) fits))
    | exact wpAny_bind (m := Builtin.Tuple.tupleExact _) (wpAny_newObj_type (wpAny_bind (wpAny_pure (wpAny_pure ⟨_, rfl, wpAny_pure q⟩))) fits)
    | exact wpAny_bind (wpAny_bind (m := Builtin.Tuple.tupleExact _) (wpAny_newObj_type (wpAny_pure (wpAny_pure ⟨_, rfl, wpAny_pure q⟩)) fits))
end
section
variable {X : Cx} {e : Expr}
def tBackT (K : PySem.W.Frag) (te : TE) : TE := fun σ H Q => te σ H fun x H1 => ∃ a xs, x = .ref a ∧ SqT K H1 a xs ∧ TupNew H1 xs.reverse Q
theorem pe_backT {te : TE} {k : Nat} {p1 p2 p3 pos : Pos} (he : PE X e te) : PE X (.Subscript e (.Slice none none (some (.UnaryOp .USub (.Constant (.int 1) k p1) p2)) p3) pos) (tBackT X.K te) := by
  refine ⟨fun pins s σ H Q I h => Subscript_ (thn (he.run pins s σ H _ I h) fun v s1 q0 => ?_)⟩
  obtain ⟨x, H1, I1, r1, a, xs, ex, hx, q⟩ := q0
  subst ex
  obtain rfl : v = .ref a := r1
  have one : PO X (some (.UnaryOp .USub (.Constant (.int 1) k p1) p2)) (tPart (tUn (rU fun i => .int (-i)) (tC (.int 1)))) := po_some (pe_un un_neg pe_int)
  refine wpAny_Slice (thn (po_none.run pins s1 σ H1 (fun o H2 => o = none ∧ H2 = H1) I1 ⟨rfl, rfl⟩) fun vl s2 q2 => ?_)
  obtain ⟨l, H2, I2, pl, el, e2⟩ := q2
  rw [el] at pl
  rw [e2] at I2
  refine thn (po_none.run pins s2 σ H1 (fun o H3 => o = none ∧ H3 = H1) I2 ⟨rfl, rfl⟩) fun vu s3 q3 => ?_
  obtain ⟨u, H3, I3, pu, eu, e3⟩ := q3
  rw [eu] at pu
  rw [e3] at I3
  refine thn (one.run pins s3 σ H1 (fun o H4 => o = some (-1) ∧ H4 = H1) I3 ⟨1, rfl, -1, rfl, rfl, rfl⟩) fun vs s4 q4 => ?_
  obtain ⟨o, H4, I4, ps, eo, e4⟩ := q4
  rw [eo] at ps
  rw [e4] at I4
  cases pl
  cases pu
  have I5 : Inv X pins σ H1 { s4 with heap := s4.heap.push { cls := .type "slice", data := .fields #[.none, .none, vs] } } := I4.kept (t' := s4.toks) fun b ob q => Heap.get?_push_of_some _ q
  obtain ⟨its, r, ht, hz⟩ := I5.tuple hx
  have hlen := r.length
  show wpAny (model X.prog X.w) X.A (subscriptTail e (.Slice none none (some (.UnaryOp .USub (.Constant (.int 1) k p1) p2)) p3) (.ref a) (.ref s4.heap.objs.size)) (EP X pins σ Q) X.xe { s4 with heap := s4.heap.push { cls := .type "slice", data := .fields #[.none, .none, vs] } }
  refine tail_any (ops := [.ref a, .ref s4.heap.objs.size]) ht.typeIs (PyProof.Rows.slot_tuple_getitem.lookup) ?_ (by with_unfolding_all rfl)
  refine getItem_back ht (Heap.IsSliceOf.new _ .none .none vs) ps (by rw [List.size_toArray, ← hlen]; exact hz) ?_
  exact Inv.newT (t' := s4.toks) I5 r.reverse (by rw [List.length_reverse]; exact hz) q
def backF (f : State → Option (D × State)) (s : State) : Option (D × State) := (f s).bind fun p => (revD p.1).map fun d => (d, p.2)
theorem sv_back {f : State → Option (D × State)} {k : Nat} {p1 p2 p3 pos : Pos} (h : SVal X e f) : SVal X (.Subscript e (.Slice none none (some (.UnaryOp .USub (.Constant (.int 1) k p1) p2)) p3) pos) (backF f) := by
  obtain ⟨t, pt, q0⟩ := h
  refine ⟨_, PE.or (pe_revL pt) (pe_backT pt), fun F C s σ H Q d s' hK G e q => ?_⟩
  obtain ⟨⟨x, s1⟩, h1, h⟩ := Option.bind_eq_some_iff.mp e
  obtain ⟨dd, h5, h⟩ := Option.map_eq_some_iff.mp h
  cases h
  cases x with
  | list ds =>
    cases h5
    refine .inl (q0 F C s σ H _ _ s1 hK G h1 fun v C1 H1 a1 r1 => ?_)
    simp only [Rep] at r1
    obtain ⟨a, vs, ev, n, ha, rl⟩ := r1
    exact ⟨a, vs, ev, .of ha, laid_val a1.1 rl.reverse fun v H' r => q v C1 H' (a1.trans r.1) r.2⟩
  | tuple ds =>
    cases h5
    refine .inr (q0 F C s σ H _ _ s1 hK G h1 fun v C1 H1 a1 r1 => ?_)
    simp only [Rep] at r1
    obtain ⟨a, vs, ev, ht, rl⟩ := r1
    have sq := ht.sqT
    rw [hK] at sq
    exact ⟨a, vs, ev, sq, laid_tup a1.1 rl.reverse fun v H' r => q v C1 H' (a1.trans r.1) r.2⟩
  | _ => cases h5
end
end IR

end
section
/-! IrS: sets of tuples whose items are scalars of any one kind. -/
namespace IR.TS
open PySem PySem.Spec PyProof.Rows L2

section
variable {P : Program} {w : World} {K : Type} [DecidableEq K] {knd : KeyKind P w K} {A : Around} {E : Value → Shared → Prop} {s : Shared}

/-- nothing is seen of the items' own classes -/
structure Quiet (knd : KeyKind P w K) : Prop where
  stm : ∀ k v n, knd.is k v = true → ofAClassStatement n v = pure false
  byv : ∀ k v n, knd.is k v = true → ∃ b, hashByValue n v = pure b
abbrev hk (knd : KeyKind P w K) (k : List K) : Int := tupleKeyHash knd k
abbrev pr (knd : KeyKind P w K) (t : SetTable) (k : List K) (c : Nat) : SetTable.Probe := nth t.mask (runAt t.mask (SetTable.bits (hk knd k) % (t.mask + 1)) (SetTable.bits (hk knd k))) c
abbrev wy (knd : KeyKind P w K) (t : SetTable) (k : List K) (c : Nat) : Nat := way t.mask (hk knd k) c

theorem item_is {ks : List K} {vs : List Value} (h : ItemsAre knd ks vs) {v : Value} (hv : v ∈ vs) : ∃ k, knd.is k v = true := by
  induction h with
  | nil => cases hv
  | cons h1 _ ih =>
    rcases List.mem_cons.mp hv with z | z
    · exact ⟨_, z ▸ h1⟩
    · exact ih z
/-- two questions asked of a tuple, item by item -/
theorem each_item {α : Type} {items : List Value} {f : Value → Option α × Unit → Sem (ForInStep (Option α × Unit))} {Q : Option α × Unit → Shared → Prop}
    (step : ∀ v ∈ items, ∀ r, r.1 = none → f v r = pure (.yield (none, ()))) (fin : Q (none, ()) s) : wpAny (model P w) A (forIn items ((none, ()) : Option α × Unit) f) Q E s := by
  refine wpAny_forIn_list f (fun rest r s' => r.1 = none ∧ s' = s ∧ ∀ v ∈ rest, v ∈ items) Q ?_ ?_ _ _ ⟨rfl, rfl, fun v h => h⟩
  · rintro v rest r s1 ⟨e1, e2, sub⟩
    rw [step v (sub v (List.mem_cons_self ..)) r e1]
    exact wpAny_pure ⟨rfl, e2, fun u hu => sub u (List.mem_cons_of_mem _ hu)⟩
  · rintro ⟨r1, ⟨⟩⟩ s1 ⟨e1, e2, _⟩
    cases e1
    rw [e2]
    exact fin
theorem no_class (qk : Quiet knd) {k : List K} {b : Addr} {Q : Bool → Shared → Prop} (hx : IsTupleKey knd s.heap k b) (q : Q false s) : wpAny (model P w) A (ofAClassStatement 8 (.ref b)) Q E s := by
  have ty := hx.typeIs
  obtain ⟨ob, its, n, e1, _, e2, hi⟩ := hx
  unfold ofAClassStatement
  refine wpAny_bind (wpAny_typeOf ty ?_)
  dsimp only
  have yes : (("tuple" : String) == "tuple") = true := by decide
  simp only [yes, if_true, Bool.not_true, Bool.false_eq_true, if_false]
  try refine wpAny_bind (wpAny_pure ?_)
  try simp only [Bool.not_true, Bool.false_eq_true, if_false]
  show wpAny _ _ (seqItems? (.ref b) >>= _) _ _ s
  refine wpAny_bind (wpAny_seqItems e1 e2 ?_)
  dsimp only
  refine wpAny_bind ?_
  show wpAny _ _ (forIn its _ _) _ _ s
  rw [← Array.forIn_toList]
  refine each_item (fun v hv r hr => ?_) ?_
  · obtain ⟨k0, h0⟩ := item_is hi hv
    rw [qk.stm k0 v _ h0]
    rfl
  · exact wpAny_pure q
theorem by_value (qk : Quiet knd) {k : List K} {b : Addr} {Q : Bool → Shared → Prop} (hx : IsTupleKey knd s.heap k b) (q : ∀ z, Q z s) : wpAny (model P w) A (hashByValue 8 (.ref b)) Q E s := by
  have ty := hx.typeIs
  obtain ⟨ob, its, n, e1, _, e2, hi⟩ := hx
  unfold hashByValue
  refine wpAny_bind (wpAny_specialOf ty PySem.F.slot_tuple_hash.lookup ?_)
  show wpAny _ _ (seqItems? (.ref b) >>= _) _ _ s
  refine wpAny_bind (wpAny_seqItems e1 e2 (wpAny_bind ?_))
  show wpAny _ _ (forIn its _ _) _ _ s
  rw [← Array.forIn_toList]
  refine wpAny_forIn_list _ (fun rest r s' => r.1 = none ∧ s' = s ∧ ∀ v ∈ rest, v ∈ its.toList) _ ?_ ?_ _ _ ⟨rfl, rfl, fun v h => h⟩
  · rintro v rest r s1 ⟨r1, r2, sub⟩
    obtain ⟨k0, h0⟩ := item_is hi (sub v (List.mem_cons_self ..))
    obtain ⟨z, hz⟩ := qk.byv k0 v 7 h0
    rw [hz]
    refine wpAny_bind (wpAny_pure ?_)
    cases z with
    | true =>
      simp only [Bool.not_true, Bool.false_eq_true, if_false]
      exact wpAny_pure ⟨rfl, r2, fun u hu => sub u (List.mem_cons_of_mem _ hu)⟩
    | false =>
      simp only [Bool.not_false, if_true]
      rw [r2]
      exact wpAny_pure (wpAny_pure (q false))
  · rintro ⟨r1, r2⟩ s1 ⟨h1, h2, _⟩
    cases h1
    rw [h2]
    exact wpAny_pure (q true)
/-- a search among tuples shows nothing of the table -/
theorem unseen (qk : Quiet knd) {k : List K} {b : Addr} {Q : Bool → Shared → Prop} (hx : IsTupleKey knd s.heap k b) {ys : List Value} (hy : ∀ y ∈ ys, ∃ k' c, y = Value.ref c ∧ IsTupleKey knd s.heap k' c) (q : Q false s) :
    wpAny (model P w) A (searchCouldBeSeen (.ref b) ys) Q E s := by
  unfold searchCouldBeSeen
  refine wpAny_bind (wpAny_forIn_list _ (fun rest r s' => r.1 = none ∧ s' = s ∧ ∀ y ∈ rest, y ∈ ys) _ ?_ ?_ _ _ ⟨rfl, rfl, fun v h => h⟩)
  · rintro v rest r s1 ⟨e1, e2, sub⟩
    subst e2
    obtain ⟨k', c, ev, hc⟩ := hy v (sub v (List.mem_cons_self ..))
    subst ev
    have next : ∀ u ∈ rest, u ∈ ys := fun u hu => sub u (List.mem_cons_of_mem _ hu)
    dsimp only
    by_cases same : (b == c || (carriedByValue (.ref b) && carriedByValue (.ref c))) = true
    · exact wp_if_pos same (wpAny_pure ⟨rfl, rfl, next⟩)
    · refine wp_if_neg same (wpAny_bind (wpAny_eqIsQuiet_tuple hx ?_))
      simp only [Bool.not_true, Bool.false_eq_true, if_false]
      refine wpAny_bind (wpAny_eqIsQuiet_tuple hc ?_)
      simp only [Bool.not_true, Bool.false_eq_true, if_false]
      refine wpAny_bind (no_class qk hx ?_)
      simp only [Bool.false_eq_true, if_false]
      refine wpAny_bind (no_class qk hc ?_)
      simp only [Bool.false_eq_true, if_false]
      exact wpAny_pure ⟨rfl, rfl, next⟩
  · rintro ⟨r1, r2⟩ s1 ⟨e1, e2, _⟩
    cases e1
    rw [e2]
    exact wpAny_pure q

/-! ### the table -/
abbrev Rows (knd : KeyKind P w K) (L : List (Addr × List K)) : List (Int × Value) := L.map fun p => (hk knd p.2, Value.ref p.1)
structure Tb (knd : KeyKind P w K) (h : Heap) (a : Addr) (L : List (Addr × List K)) (es : Array (Int × Value)) (ep : Nat) (t : SetTable) : Prop where
  ob : ∃ o, h.get? a = some o ∧ o.ExactSet ∧ o.data = .set es ep t
  rows : es.toList = Rows knd L
  tab : TabOk t (L.map fun p => hk knd p.2)
  nd : (L.map (·.2)).Nodup
  tup : ∀ p ∈ L, IsTupleKey knd h p.2 p.1
  led : w.params.followText "set-order" = true ∨ t.led = true
  room : L.length * 5 < t.mask * 3
  few : L.length < 64
variable {a : Addr} {L : List (Addr × List K)} {es : Array (Int × Value)} {ep : Nat} {t : SetTable}
theorem rows_len {es : Array (Int × Value)} {L : List (Addr × List K)} (r : es.toList = Rows knd L) : es.size = L.length := by
  have := congrArg List.length r
  simpa using this
theorem rows_at {es : Array (Int × Value)} {L : List (Addr × List K)} (r : es.toList = Rows knd L) {i : Nat} {p : Addr × List K} (h : L[i]? = some p) : es[i]? = some (hk knd p.2, Value.ref p.1) := by
  rw [← Array.getElem?_toList, r, List.getElem?_map, h]
  rfl
theorem fits_of {t : SetTable} {n : Nat} (h1 : t.place.size = n) (h2 : t.dummies = #[]) (h3 : n ≤ t.mask) : t.fits n = true := by
  unfold SetTable.fits SetTable.fill
  rw [h2]
  simp [h1, h3]
theorem Tb.len (R : Tb knd s.heap a L es ep t) : es.size = L.length := rows_len R.rows
theorem Tb.psz (R : Tb knd s.heap a L es ep t) : t.place.size = L.length := by
  have := R.tab.sz
  rwa [List.length_map] at this
theorem Tb.fits (R : Tb knd s.heap a L es ep t) : t.fits es.size = true := fits_of (R.psz.trans R.len.symm) R.tab.dm (by have := R.len; have := R.room; omega)
theorem Tb.same {h h' : Heap} (R : Tb knd h a L es ep t) (ha : ∀ o, h.get? a = some o → h'.get? a = some o) (ht : ∀ p ∈ L, IsTupleKey knd h' p.2 p.1) : Tb knd h' a L es ep t := by
  obtain ⟨o, e, r⟩ := R.ob
  exact ⟨⟨o, ha o e, r⟩, R.rows, R.tab, R.nd, ht, R.led, R.room, R.few⟩
theorem is_keep {h h' : Heap} {k : List K} {b : Addr} (x : IsTupleKey knd h k b) (q : ∀ c o, h.get? c = some o → h'.get? c = some o) : IsTupleKey knd h' k b := by
  obtain ⟨ob, its, n, e, r⟩ := x
  exact ⟨ob, its, n, q b ob e, r⟩
theorem is_but {h h' : Heap} {k : List K} {a b : Addr} {o : Obj} {es : Array (Int × Value)} {ep : Nat} {t : SetTable} (x : IsTupleKey knd h k b) (e : h.get? a = some o) (d : o.data = .set es ep t) (sb : Heap.SameBut a h h') : IsTupleKey knd h' k b := by
  obtain ⟨ob, its, n, e1, e2, e3, e4⟩ := x
  have ne : b ≠ a := fun z => by
    rw [z, e] at e1
    cases e1
    rw [d] at e3
    cases e3
  exact ⟨ob, its, n, (sb.2 b ne).trans e1, e2, e3, e4⟩
theorem pr_dummy (t : SetTable) (k : List K) (c : Nat) : (pr knd t k c).dummy = none := by
  have gen : ∀ (n : Nat) (p : SetTable.Probe), p.dummy = none → (nth t.mask p n).dummy = none := by
    intro n
    induction n with
    | zero => exact fun p h => h
    | succ n ih =>
      refine fun p h => ih (adv t.mask p) ?_
      unfold adv
      split <;> exact h
  exact gen c _ rfl
theorem pr_add (t : SetTable) (k : List K) (c q : Nat) : nth t.mask (pr knd t k c) q = pr knd t k (c + q) := (nth_add t.mask c _ q).symm

/-- the search, from the c-th place of its way on -/
theorem seek (qk : Quiet knd) (R : Tb knd s.heap a L es ep t) {x : Addr} {k : List K} (hx : IsTupleKey knd s.heap k x) (hu : A.units < cLine) {M : Nat} (hM1 : M < 10 * SetTable.turns t.mask)
    (hM2 : wy knd t k M ∉ t.place.toList) (hM3 : ∀ c, c < M → wy knd t k c ∈ t.place.toList) {Q : SetFound → Shared → Prop} (yes : k ∈ L.map (·.2) → Q (.there none) s) (no : k ∉ L.map (·.2) → Q (.free (wy knd t k M) false) s) :
    ∀ (f c : Nat) (st : Option SetTable.Probe), st.getD (t.probeStart (hk knd k)) = pr knd t k c → c ≤ M → M - c < f →
      (∀ (i : Nat) p, L[i]? = some p → p.2 = k → ∃ c', c ≤ c' ∧ c' < M ∧ t.place.toList[i]? = some (wy knd t k c')) →
      wpAny (model P w) A (setSearchFrom a (.ref x) (hk knd k) true f st) Q E s
  | 0, c, st, _, _, hf, _ => absurd hf (Nat.not_lt_zero _)
  | f + 1, c, st, e0, hc, hf, ahead => by
    obtain ⟨o, eo, _, ed⟩ := R.ob
    rw [setSearchFrom_succ]
    refine wpAny_bind (wpAny_setState_of eo ed R.fits ?_)
    dsimp only
    have gave : ¬ t.gaveWay = true := by
      unfold SetTable.gaveWay
      rw [mask_odd R.tab.mok]
      decide
    refine wp_if_neg gave ?_
    try refine wpAny_bind (wpAny_pure ?_)
    have at0 : ∀ (i : Nat) p, L[i]? = some p → (fun i => (es[i]?.map (·.1)).getD 0) i = hk knd p.2 := fun i p hp => by
      show (es[i]?.map (·.1)).getD 0 = _
      rw [rows_at R.rows hp]
      rfl
    have found := go_spec t R.tab.ris R.tab.dm (fun i => (es[i]?.map (·.1)).getD 0) (hk knd k) (10 * SetTable.turns t.mask) (M - c) (pr knd t k c) (pr_dummy t k c) (by omega)
      (fun q hq => by rw [pr_add]; exact hM3 (c + q) (by omega)) (by rw [pr_add, show c + (M - c) = M by omega]; exact hM2)
    simp only [pr_add] at found
    rcases found with ⟨q, i, hq, hi, hh, before, ans⟩ | ⟨none_, ans⟩
    · have ans' : t.probe (fun i => (es[i]?.map (·.1)).getD 0) (hk knd k) (st.getD (t.probeStart (hk knd k))) = some (.candidate (wy knd t k (c + q)) i (pr knd t k (c + (q + 1)))) := by
        rw [e0]
        exact ans
      rw [ans']
      dsimp only
      have hil : i < L.length := by
        have h1 := (List.getElem?_eq_some_iff.mp hi).1
        rw [Array.length_toList, R.psz] at h1
        exact h1
      obtain ⟨p, hp⟩ : ∃ p, L[i]? = some p := ⟨_, List.getElem?_eq_getElem hil⟩
      have pin : p ∈ L := List.mem_of_getElem? hp
      have more : wpAny (model P w) A (searchRest a (.ref x) (hk knd k) true f es t (wy knd t k (c + q)) i (pr knd t k (c + (q + 1)))) Q E s := by
        unfold searchRest
        rw [rows_at R.rows hp]
        dsimp only
        refine wpAny_bind (wpAny_holding (wpAny_eqBool_tuple hu (R.tup p pin) hx (wpAny_bind (wpAny_setState_of eo ed R.fits ?_))))
        dsimp only
        by_cases ek : p.2 = k
        · refine wp_if_pos (by simp [ek]) (wpAny_pure (yes ?_))
          exact List.mem_map.mpr ⟨p, pin, ek⟩
        · refine wp_if_neg (by simp [ek]) ?_
          try refine wpAny_bind (wpAny_pure ?_)
          rw [sameMem]
          dsimp only
          have live : t.slot (wy knd t k (c + q)) = .live i := slot_live R.tab.ris hi
          simp only [if_true, live, rows_at R.rows hp]
          refine wpAny_bind (wpAny_isSame_ref_self (wpAny_bind (wpAny_pure ?_)))
          simp only [if_true]
          refine wp_if_neg (by simp [ek]) ?_
          refine seek qk R hx hu hM1 hM2 hM3 yes no f (c + (q + 1)) _ rfl (by omega) (by omega) fun i0 p0 h0 k0 => ?_
          obtain ⟨c', a1, a2, a3⟩ := ahead i0 p0 h0 k0
          refine ⟨c', ?_, a2, a3⟩
          rcases Nat.lt_trichotomy c' (c + q) with z | z | z
          · exfalso
            exact before (c' - c) i0 (by omega) (by rw [show c + (c' - c) = c' by omega]; exact a3) ((at0 i0 p0 h0).trans (congrArg (hk knd) k0))
          · exfalso
            rw [z] at a3
            have l0 := slot_live R.tab.ris a3
            rw [live] at l0
            cases l0
            rw [hp] at h0
            cases h0
            exact ek k0
          · omega
      by_cases hl : t.led = true
      · refine wp_if_neg (by simp [hl]) ?_
        try refine wpAny_bind (wpAny_pure ?_)
        exact more
      · refine wp_if_pos (by simp [hl]) (wpAny_bind (unseen qk hx (fun y hy => ?_) ?_))
        · obtain ⟨e, he, ee⟩ := List.mem_map.mp hy
          have in2 : e ∈ es.toList := by
            have : e ∈ es ∧ e.1 = hk knd k := by simpa using he
            simpa using this.1
          rw [R.rows] at in2
          obtain ⟨p2, hp2, e2⟩ := List.mem_map.mp in2
          exact ⟨p2.2, p2.1, by rw [← ee, ← e2], R.tup p2 hp2⟩
        · refine wp_if_neg (by decide) ?_
          try refine wpAny_bind (wpAny_pure ?_)
          exact more
    · have ans' : t.probe (fun i => (es[i]?.map (·.1)).getD 0) (hk knd k) (st.getD (t.probeStart (hk knd k))) = some (.empty (wy knd t k M) none) := by
        rw [e0]
        have : (pr knd t k (c + (M - c))).j = wy knd t k M := by rw [show c + (M - c) = M by omega]
        rw [← this]
        exact ans
      rw [ans']
      dsimp only
      refine wpAny_pure (no fun hm => ?_)
      obtain ⟨p0, m0, k0⟩ := List.mem_map.mp hm
      obtain ⟨i0, hi0, e1⟩ := List.getElem_of_mem m0
      have h0 : L[i0]? = some p0 := by rw [List.getElem?_eq_getElem hi0, e1]
      obtain ⟨c', a1, a2, a3⟩ := ahead i0 p0 h0 k0
      exact none_ (c' - c) i0 (by omega) (by rw [show c + (c' - c) = c' by omega]; exact a3) ((at0 i0 p0 h0).trans (congrArg (hk knd) k0))
/-- .. as adding asks for it -/
theorem seek_add (qk : Quiet knd) (R : Tb knd s.heap a L es ep t) {x : Addr} {k : List K} (hx : IsTupleKey knd s.heap k x) (hu : A.units < cLine) {Q : SetFound → Shared → Prop} (yes : k ∈ L.map (·.2) → Q (.there none) s)
    (no : ∀ M, k ∉ L.map (·.2) → wy knd t k M ∉ t.place.toList → (∀ c, c < M → wy knd t k c ∈ t.place.toList) → Q (.free (wy knd t k M) false) s) : wpAny (model P w) A (setSearch a (.ref x) (hk knd k) true) Q E s := by
  have room := R.room
  obtain ⟨M, h1, h2, h3⟩ := R.tab.first (by rw [List.length_map]; omega) (hk knd k)
  have far : M < 100000 := by
    have : 10 * SetTable.turns t.mask ≤ 1420 := by
      unfold SetTable.turns
      rcases R.tab.mok with e | e | e <;> omega
    omega
  unfold setSearch
  refine seek qk R hx hu h1 h2 h3 yes (fun n => no M n h2 h3) 100000 0 none rfl (Nat.zero_le _) (by omega) fun i p hp ek => ?_
  have hi : (L.map fun p => hk knd p.2)[i]? = some (hk knd k) := by
    rw [List.getElem?_map, hp, ← ek]
    rfl
  have hil : i < t.place.toList.length := by
    rw [Array.length_toList, R.psz]
    exact (List.getElem?_eq_some_iff.mp hp).1
  obtain ⟨c, hc, e⟩ := R.tab.before h2 hi (List.getElem?_eq_getElem hil)
  exact ⟨c, Nat.zero_le _, hc, by rw [List.getElem?_eq_getElem hil]; exact congrArg some e.symm⟩
end
end IR.TS

end
section
/-! IrS2: adding to a set of tuples; the set of a list. -/
namespace IR.TS
open PySem PySem.Spec PyProof.Rows L2

section
variable {P : Program} {w : World} {K : Type} [DecidableEq K] {knd : KeyKind P w K} {A : Around} {E : Value → Shared → Prop} {s : Shared}

/-- what an order of the rows gives -/
theorem ordered (L : List (Addr × List K)) {es : Array (Int × Value)} {order : Array Nat} (r : es.toList = Rows knd L) (hp : order.toList.Perm (List.range L.length)) :
    ∃ L2, (order.filterMap (es[·]?)).toList = Rows knd L2 ∧ L2.Perm L ∧ (L2.map fun p => hk knd p.2) = order.toList.map fun i => (es.map (·.1)).getD i 0 := by
  have inb : ∀ i ∈ order.toList, i < L.length := fun i h => List.mem_range.mp (hp.mem_iff.mp h)
  refine ⟨order.toList.filterMap (fun i => L[i]?), ?_, ?_, ?_⟩
  · have e : (fun i : Nat => es[i]?) = fun i => (L[i]?).map fun (p : Addr × List K) => (hk knd p.2, Value.ref p.1) := funext fun i => by
      rw [← Array.getElem?_toList, r, List.getElem?_map]
    rw [Array.toList_filterMap, e]
    unfold Rows
    rw [List.map_filterMap]
  · have whole : (List.range L.length).filterMap (fun i => L[i]?) = L := by
      apply List.ext_getElem?
      intro i
      have e : (List.range L.length).filterMap (fun i => L[i]?) = (List.range L.length).attach.map fun j => L[j.1]'(List.mem_range.mp j.2) := by
        rw [← List.filterMap_eq_map]
        conv => lhs; rw [← List.attach_map_subtype_val (List.range L.length)]
        rw [List.filterMap_map]
        congr 1
        funext j
        exact List.getElem?_eq_getElem _
      rw [e]
      by_cases hi : i < L.length
      · rw [List.getElem?_map, List.getElem?_attach]
        simp [hi]
      · rw [List.getElem?_eq_none (by simp; omega), List.getElem?_eq_none (by omega)]
    have := hp.filterMap fun i => L[i]?
    rwa [whole] at this
  · have gen : ∀ l : List Nat, (∀ i ∈ l, i < L.length) → (l.filterMap fun i => L[i]?).map (fun p => hk knd p.2) = l.map fun i => (es.map (·.1)).getD i 0 := by
      intro l
      induction l with
      | nil => exact fun _ => rfl
      | cons i l ih =>
        intro h
        have hi := h i (List.mem_cons_self ..)
        have e0 := List.getElem?_eq_getElem hi
        rw [List.filterMap_cons_some e0, List.map_cons, List.map_cons, ih fun j hj => h j (List.mem_cons_of_mem _ hj)]
        have e1 := rows_at r e0
        simp [Array.getD_eq_getD_getElem?, e1]
    exact gen _ inb

variable {a : Addr} {L : List (Addr × List K)} {es : Array (Int × Value)} {ep : Nat} {t : SetTable}
/-- the rows laid anew in a larger table -/
theorem enlarge {o : Obj} (eo : s.heap.get? a = some o) (ex : o.ExactSet) (ed : o.data = .set es ep t) (r : es.toList = Rows knd L) (psz : t.place.size = es.size) (dm : t.dummies = #[]) (low : es.size ≤ t.mask)
    (nd : (L.map (·.2)).Nodup) (tup : ∀ p ∈ L, IsTupleKey knd s.heap p.2 p.1) (ld : w.params.followText "set-order" = true ∨ t.led = true) (few : L.length < 64) {wanted M : Nat}
    (e1 : SetTable.sizeAbove wanted - 1 = M) (e2 : MaskOk M) (e3 : SetTable.sizeAbove wanted ≤ 128) (e4 : L.length * 5 < M * 3) {Q : Unit → Shared → Prop}
    (q : ∀ h' L' es' ep' t', Heap.SameBut a s.heap h' → Tb knd h' a L' es' ep' t' → L'.Perm L → Q () { s with heap := h' }) : wpAny (model P w) A (setRelay a wanted) Q E s := by
  have len := rows_len r
  obtain ⟨t', order, f1, f2, f3, f4, f5, f6, f7⟩ := relaid_ok t (hs := es.map (·.1)) (wanted := wanted) e1 e2 (by rw [Array.size_map, len]; omega)
  rw [Array.size_map, len] at f2
  obtain ⟨L2, r1, r2, r3⟩ := ordered L r f2
  rw [← r3] at f3
  have len2 : (order.filterMap (es[·]?)).size = es.size := by rw [rows_len r1, r2.length_eq, len]
  rw [setRelay_eq]
  refine wpAny_bind (wpAny_setState_of eo ed (fits_of psz dm low) ?_)
  dsimp only
  refine wp_if_neg (by rw [sizeLine_eq]; omega) ?_
  try refine wpAny_bind (wpAny_pure ?_)
  rw [f1]
  dsimp only
  refine wpAny_bind (wp_if_neg (by rw [len2]; simp) ?_)
  try refine wpAny_bind (wpAny_pure ?_)
  refine wpAny_pure ?_
  dsimp only
  refine wpAny_storeSet_of eo ed ?_ (by rw [len2, len, sizeLine_eq]; omega)
  have sb : Heap.SameBut a s.heap (s.heap.update a (Obj.putSet (order.filterMap (es[·]?)) t')) := Heap.SameBut.update ..
  refine q _ L2 _ (ep + 1) t' sb ⟨⟨_, store_at eo ed, ⟨ex.1, ex.2.1, ex.2.2⟩, rfl⟩, r1, f3, (r2.map (·.2)).nodup_iff.mpr nd, fun p hp => is_but (tup p (r2.mem_iff.mp hp)) eo ed sb, by rw [f5]; exact ld, ?_, by rw [r2.length_eq]; exact few⟩ r2
  rw [r2.length_eq, f4]
  exact e4

/-- one more -/
theorem add_one (qk : Quiet knd) (R : Tb knd s.heap a L es ep t) {x : Addr} {k : List K} (hx : IsTupleKey knd s.heap k x) (hu : A.units < cLine) (few : L.length + 1 < 64) {Q : Bool → Shared → Prop}
    (q : ∀ b h' L' es' ep' t', Heap.SameBut a s.heap h' → Tb knd h' a L' es' ep' t' → (k ∈ L.map (·.2) → L' = L) → (k ∉ L.map (·.2) → L'.Perm ((x, k) :: L)) → Q b { s with heap := h' }) :
    wpAny (model P w) A (setAddHashed a (.ref x) (hk knd k)) Q E s := by
  obtain ⟨o, eo, ex, ed⟩ := R.ob
  have len := R.len
  have room := R.room
  unfold setAddHashed
  refine wpAny_holding ?_
  rw [show (100000 : Nat) = 99999 + 1 from rfl, setAddHashedIn_succ]
  refine wpAny_bind (wpAny_setState_of eo ed R.fits ?_)
  dsimp only
  refine wp_if_neg (by simp [byScan, Value.scannable]) ?_
  try refine wpAny_bind (wpAny_pure ?_)
  refine wpAny_bind (seek_add qk R hx hu (fun m => ?_) fun M n hM hb => ?_)
  · dsimp only
    exact wpAny_pure (q false s.heap L es ep t (Heap.SameBut.refl a s.heap) R (fun _ => rfl) fun z => absurd m z)
  · dsimp only
    refine wpAny_bind (wpAny_setState_of eo ed R.fits ?_)
    dsimp only
    obtain ⟨g1, g2, g3, g4, g5, g6, _, _, g9⟩ := R.tab.put hM hb
    generalize ept : t.put (way t.mask (hk knd k) M) = pt at g1 g3 g4 g5 g6 g9 ⊢
    obtain ⟨t0, j⟩ := pt
    dsimp only at g1 g3 g4 g5 g6 g9 ⊢
    generalize SetTable.below t.place (way t.mask (hk knd k) M) = j' at g1 g2 g3
    subst g1
    suffices tail : ∀ z : Bool, wpAny (model P w) A (do
        storeSet a (SetTable.insertAt es j (hk knd k, Value.ref x)) (if z = true then t0 else { t0 with plain := false })
        if (!false && (if z = true then t0 else { t0 with plain := false }).tooFull) = true then do
          setRelay a (SetTable.grown (es.size + 1))
          pure true
        else pure true) Q E s by
      by_cases pl : t0.plain = true
      · rw [if_pos pl]
        exact wpAny_bind (by_value qk hx fun z => tail z)
      · rw [if_neg pl]
        exact wpAny_bind (wpAny_pure (tail true))
    intro z
    obtain ⟨t1, et1⟩ : ∃ t1, t1 = (if z = true then t0 else { t0 with plain := false }) := ⟨_, rfl⟩
    obtain ⟨s1, s2, s3, s4, s5⟩ : t1.place = t0.place ∧ t1.dummies = t0.dummies ∧ t1.mask = t0.mask ∧ t1.led = t0.led ∧ t1.tooFull = t0.tooFull := by
      rw [et1]
      cases z <;> exact ⟨rfl, rfl, rfl, rfl, rfl⟩
    rw [← et1]
    have full0 : t0.tooFull = true ↔ (L.length + 1) * 5 ≥ t0.mask * 3 := by
      unfold SetTable.tooFull
      rw [decide_eq_true_eq, g9, List.length_map]
    rw [← s5, ← s3] at full0
    rw [← s3] at g4
    rw [← s4] at g5
    replace g3 : TabOk t1 ((L.map fun p => hk knd p.2).take j ++ hk knd k :: (L.map fun p => hk knd p.2).drop j) := by
      refine ⟨by rw [s1]; exact g3.ris, by rw [s2]; exact g3.dm, by rw [s1]; exact g3.sz, by rw [s3]; exact g3.mok, by rw [s1, s3]; exact g3.bd, ?_⟩
      rw [s1, s3]
      exact g3.reach
    clear et1 s1 s2 s3 s4 s5 g6 g9 ept
    have pm : (L.take j ++ (x, k) :: L.drop j).Perm ((x, k) :: L) := put_perm L j (x, k)
    have r1 : (SetTable.insertAt es j (hk knd k, Value.ref x)).toList = Rows knd (L.take j ++ (x, k) :: L.drop j) := by
      rw [SetTable.toList_insertAt, R.rows]
      simp [Rows, List.map_take, List.map_drop]
    have hs1 : (L.take j ++ (x, k) :: L.drop j).map (fun p => hk knd p.2) = (L.map fun p => hk knd p.2).take j ++ hk knd k :: (L.map fun p => hk knd p.2).drop j := by simp [List.map_take, List.map_drop]
    rw [← hs1] at g3
    generalize SetTable.insertAt es j (hk knd k, Value.ref x) = es1 at r1 ⊢
    generalize L.take j ++ (x, k) :: L.drop j = L1 at pm g3 r1
    have len1 : L1.length = L.length + 1 := pm.length_eq
    have elen1 : es1.size = L.length + 1 := (rows_len r1).trans len1
    have nd1 : (L1.map (·.2)).Nodup := (pm.map (·.2)).nodup_iff.mpr (List.nodup_cons.mpr ⟨n, R.nd⟩)
    refine wpAny_bind (wpAny_storeSet_of eo ed ?_ (by rw [elen1, sizeLine_eq]; omega))
    have sb : Heap.SameBut a s.heap (s.heap.update a (Obj.putSet es1 t1)) := Heap.SameBut.update ..
    have eo1 := store_at (es' := es1) (t' := t1) eo ed
    generalize s.heap.update a (Obj.putSet es1 t1) = h1 at sb eo1 ⊢
    have tup1 : ∀ p ∈ L1, IsTupleKey knd h1 p.2 p.1 := fun p hp => by
      rcases List.mem_cons.mp (pm.mem_iff.mp hp) with e | hp
      · rw [e]
        exact is_but hx eo ed sb
      · exact is_but (R.tup p hp) eo ed sb
    have ld1 : w.params.followText "set-order" = true ∨ t1.led = true := by rw [g5]; exact R.led
    have full := full0
    by_cases hf : t1.tooFull = true
    · have big := full.1 hf
      first
        | refine wpAny_bind (wp_if_pos (by simp [hf]) ?_)
        | refine wp_if_pos (by simp [hf]) (wpAny_bind ?_)
      rw [len]
      have psz1 : t1.place.size = es1.size := by
        have z := g3.sz
        rw [List.length_map, len1] at z
        rw [z, elen1]
      have two : (t.mask = 7 ∧ L.length = 4) ∨ (t.mask = 31 ∧ L.length = 18) := by
        rw [g4] at big
        rcases R.tab.mok with e | e | e <;> rw [e] at big room
        · exact .inl ⟨e, by omega⟩
        · exact .inr ⟨e, by omega⟩
        · omega
      have go : ∀ M, SetTable.sizeAbove (SetTable.grown (L.length + 1)) - 1 = M → MaskOk M → SetTable.sizeAbove (SetTable.grown (L.length + 1)) ≤ 128 → (L.length + 1) * 5 < M * 3 →
          wpAny (model P w) A (setRelay a (SetTable.grown (L.length + 1))) (fun _ s' => wpAny (model P w) A (pure true) Q E s') E { s with heap := h1 } := fun M m1 m2 m3 m4 => by
        refine enlarge (s := { s with heap := h1 }) eo1 ⟨ex.1, ex.2.1, ex.2.2⟩ rfl r1 psz1 g3.dm (by rw [elen1, g4]; rcases two with z | z <;> omega) nd1 tup1 ld1 (by rw [len1]; exact few) m1 m2 m3 (by rw [len1]; exact m4) fun h2 L2 es2 ep2 t2 sb2 R2 pm2 => ?_
        exact wpAny_pure (q true h2 L2 es2 ep2 t2 (sb.trans sb2) R2 (fun z => absurd z n) fun _ => pm2.trans pm)
      rcases two with ⟨_, z⟩ | ⟨_, z⟩
      · exact go 31 (by rw [z, size_20]) (.inr (.inl rfl)) (by rw [z, size_20]; decide) (by omega)
      · exact go 127 (by rw [z, size_76]) (.inr (.inr rfl)) (by rw [z, size_76]; decide) (by omega)
    · first
        | refine wp_if_neg (by simp [hf]) ?_
        | refine wpAny_bind (wp_if_neg (by simp [hf]) (wpAny_pure ?_))
      refine wpAny_pure (q true h1 L1 es1 (ep + 1) t1 sb ⟨⟨_, eo1, ⟨ex.1, ex.2.1, ex.2.2⟩, rfl⟩, r1, g3, nd1, tup1, ld1, ?_, by rw [len1]; exact few⟩ (fun z => absurd z n) fun _ => pm)
      rw [full] at hf
      rw [len1]
      omega
end
end IR.TS

end
section
/-! IrS3: set(a list or a tuple), whatever the items are, as long as each can be added. -/
namespace IR.TS
open PySem PySem.Spec PyProof.Rows L2

section
variable {P : Program} {w : World} {A : Around} {E : Value → Shared → Prop} {s : Shared}
/-- what the set at S is like behind the first i items: J i -/
structure Adds (P : Program) (w : World) (A : Around) (S : Addr) (h0 : Heap) (n : Nat) (Pv : Nat → Value → Prop) (J : Nat → Heap → Prop) : Prop where
  keep : ∀ i h h', J i h → (∀ o, h.get? S = some o → h'.get? S = some o) → (∀ b o, h0.get? b = some o → h'.get? b = some o) → J i h'
  step : ∀ (i : Nat) (v : Value) (s : Shared) (E : Value → Shared → Prop) (Q : Bool → Shared → Prop), i < n → Pv i v → J i s.heap → (∀ b o, h0.get? b = some o → s.heap.get? b = some o) →
    (∀ b h' tk, Heap.SameBut S s.heap h' → s.toks ≤ tk → J (i + 1) h' → Q b { s with heap := h', toks := tk }) → wpAny (model P w) A (holding [v] (setAdd S v)) Q E s

theorem upd_loop {I : Addr} {fp wr : List Addr} {G : Array GenState → Array GenState → Prop} {n : Nat} {Pv : Nat → Value → Prop} {St : Nat → Shared → Prop} {R : Result → Shared → Prop} {S : Addr} {h0 : Heap} {J : Nat → Heap → Prop}
    (W : WalksS P w A.in1 I fp wr G n Pv St) (ad : Adds P w A.in1 S h0 n Pv J) (hS : S ∉ fp) (h0S : h0.get? S = none) (h0w : ∀ b ∈ wr, h0.get? b = none) :
    ∀ (m i : Nat) (s : Shared), n - i = m → i ≤ n → St i s → (∀ b o, h0.get? b = some o → s.heap.get? b = some o) → J i s.heap →
      (∀ s', Moved (S :: wr) G s s' → J n s'.heap → (∀ b o, h0.get? b = some o → s'.heap.get? b = some o) → R (.ok (.ret .none)) s') → codeAny (model P w) A (.builtin "set.update.loop" ⟨[.ref S, .ref I], []⟩) R s := by
  have hSw : S ∉ wr := fun z => hS (W.sub _ z)
  have wider : ∀ b ∈ wr, b ∈ S :: wr := fun b z => List.mem_cons_of_mem _ z
  have moved : ∀ {s s' : Shared}, Moved wr G s s' → (∀ b o, h0.get? b = some o → s.heap.get? b = some o) → ∀ b o, h0.get? b = some o → s'.heap.get? b = some o := fun mv k b o e => mv.heap b o (fun z => by rw [h0w b z] at e; cases e) (k b o e)
  intro m
  induction m with
  | zero =>
    intro i s e1 e2 st k j fin
    obtain rfl : i = n := by omega
    refine codeAny_builtin PyProof.Rows.F.entry_set_update_loop ?_
    rw [Around.under_plainId PyProof.Rows.F.plain_set_update_loop _]
    show wpAny _ A.in1 (pyNext (.ref I) >>= _) _ _ s
    refine wpAny_bind (W.done s _ _ st fun s1 mv => ?_)
    have k1 := moved mv k
    exact wpAny_pure (fin s1 (mv.mono wider) (ad.keep _ _ _ j (fun o e => mv.heap S o hSw e) k1) k1)
  | succ m ih =>
    intro i s e1 e2 st k j fin
    have lt : i < n := by omega
    refine codeAny_builtin PyProof.Rows.F.entry_set_update_loop ?_
    rw [Around.under_plainId PyProof.Rows.F.plain_set_update_loop _]
    show wpAny _ A.in1 (pyNext (.ref I) >>= _) _ _ s
    refine wpAny_bind (W.item i s _ _ lt st fun v s1 hv st1 mv => ?_)
    have k1 := moved mv k
    show wpAny _ A.in1 (holding [v] (setAdd S v) >>= _) _ _ s1
    refine wpAny_bind (ad.step i v s1 _ _ lt hv (ad.keep _ _ _ j (fun o e => mv.heap S o hSw e) k1) k1 fun b h' tk sb tk1 j1 => ?_)
    have k2 : ∀ b o, h0.get? b = some o → h'.get? b = some o := fun b o e => (sb.2 b (fun z => by rw [z, h0S] at e; cases e)).trans (k1 b o e)
    refine wpAny_pure ⟨plainId_quiet PyProof.Rows.F.plain_set_update_loop _, ih (i + 1) _ (by omega) lt (W.frame _ s1 _ _ st1 tk1 fun b hb o e => ?_) k2 j1 fun s2 mv2 j2 k3 => fin s2 ?_ j2 k3⟩
    · exact (sb.2 b (fun z => hS (z ▸ hb))).trans e
    · refine Moved.trans W.gtrans ((mv.mono wider).then_heap tk1 fun b o hb e => ?_) mv2
      exact (sb.2 b (fun z => hb (by simp [z]))).trans e

abbrev newSet (w : World) : Obj := { cls := .type "set", dict := none, data := .set #[] 0 (.fresh 0 0 (!w.params.followText "set-order")) }
set_option maxRecDepth 100000 in
set_option maxHeartbeats 3200000 in
theorem set_call {l : Addr} {items : Array Value} {Q : Value → Shared → Prop} {J : Nat → Heap → Prop} (hh : A.handled = none) (hl : s.heap.IsList l items ∨ s.heap.IsTuple l items)
    (ad : ∀ A', A'.units ≤ A.units + 8 → Adds P w A' s.heap.objs.size s.heap items.size (fun i v => items[i]? = some v) J) (j0 : ∀ h', h'.get? s.heap.objs.size = some (newSet w) → J 0 h')
    (q : ∀ (h' : Heap) (tk : Nat), J items.size h' → (∀ b o, s.heap.get? b = some o → h'.get? b = some o) → Q (.ref s.heap.objs.size) { s with heap := h', toks := tk }) :
    wpAny (model P w) A (call (.type "set") [.ref l]) Q E s := by
  obtain ⟨c, tl, k0⟩ := PySem.F.called_set.mro
  have k1 := PySem.F.called_set.made
  have k2 := PySem.F.called_set.sub
  refine wpAny_call (codeAny_of_tree ?_)
  show wpAny _ _ (callAny (.type "set") _) _ _ _
  refine wpAny_pure ⟨Code.quiet_builtin _ (by decide +kernel), codeAny_builtin PySem.F.entry_type_call ?_⟩
  rw [Around.under_plain (weight_type_call_type "set" [.ref l] []) rfl]
  have k3 := PySem.F.called_set.notType
  have k4 := PySem.F.called_set.canCreate
  have k5 := PySem.F.typeCall_set_1 (.ref l)
  repeat (any_goals (first | assumption | wp_step))
  refine codeAny_mono (code_set_led1 (.ref l) (E := E) (Q₁ := fun ob s1 => ob = .ref s.heap.objs.size ∧ s1 = { s with heap := s.heap.push (newSet w) }) ⟨rfl, rfl⟩) fun r s1 hr => ?_
  cases r with
  | error e => exact hr
  | ok fl =>
    cases fl with
    | ret ob =>
      obtain ⟨rfl, rfl⟩ := hr
      have at0 : (s.heap.push (newSet w)).get? s.heap.objs.size = some (newSet w) := Heap.get?_push_size _ rfl
      have isS : Shared.TypeIs { s with heap := s.heap.push (newSet w) } (.ref s.heap.objs.size) "set" := ⟨_, at0, rfl⟩
      have k6 := PySem.F.called_set.init.lookup
      have k7 := PySem.F.called_set.init.bind (.ref s.heap.objs.size)
      repeat (any_goals (first | assumption | wp_step))
      refine codeAny_mono (codeAny_call_builtin (R := wants (fun r s2 => r = .none ∧ ∃ h' tk, s2 = { s with heap := h', toks := tk } ∧ J items.size h' ∧ (∀ b o, s.heap.get? b = some o → h'.get? b = some o)) E)
        PySem.F.called_set.init.plain PySem.F.entry_set_init (check_set_init_1 isS ?_)) fun r2 s2 hr2 => ?_
      · have size1 : (s.heap.push (newSet w)).objs.size = s.heap.objs.size + 1 := Heap.size_push ..
        have h3 : A.in1.in1.in1.handled = none := by simp [hh]
        have none_at : ∀ b, s.heap.objs.size ≤ b → s.heap.get? b = none := fun b hb => by
          cases e : s.heap.get? b with
          | none => rfl
          | some o => exact absurd (Nat.lt_of_lt_of_le (Heap.lt_size e) hb) (Nat.lt_irrefl _)
        have fin : ∀ s3 : Shared, s3.gens = s.gens → s3.drawn = s.drawn → s3.os = s.os → J items.size s3.heap → (∀ b o, s.heap.get? b = some o → s3.heap.get? b = some o) →
            ∃ h' tk, s3 = { s with heap := h', toks := tk } ∧ J items.size h' ∧ (∀ b o, s.heap.get? b = some o → h'.get? b = some o) := fun s3 e1 e2 e3 j k => by
          obtain ⟨h', g', d', tk', os'⟩ := s3
          cases e1
          cases e2
          cases e3
          exact ⟨h', tk', rfl, j, k⟩
        rcases hl with hl | hl
        · obtain ⟨⟨ocls, odict, odata, oslots⟩, hol, hcl, nl, hdl⟩ := hl
          simp only at hcl hdl
          subst hcl
          subst hdl
          have hol' : (s.heap.push (newSet w)).get? l = some { cls := .type "list", dict := odict, data := .seq items nl, slots := oslots } := Heap.get?_push_of_some _ hol
          have m1 := PySem.F.sub_list_set
          have m2 := PySem.F.sub_list_frozenset
          have m3 : (Value.type "list" == Value.type "dict") = false := by decide
          have hl1 : (s.heap.push (newSet w)).IsList l items := ⟨_, hol', rfl, nl, rfl⟩
          have llt : l < s.heap.objs.size := Heap.lt_size hol
          unfold Builtin.«set.__init__» noKeywords Builtin.Frozenset.updateFrom
          generalize hPI : pyIter = PI
          wp_walk
          subst hPI
          refine wpAny_pyIter_list hl1 (wpAny_bind (wpAny_runValue ?_))
          have ne : l ≠ (s.heap.push (newSet w)).objs.size := by rw [size1]; exact Nat.ne_of_lt (Nat.lt_succ_of_lt llt)
          refine upd_loop ((Walks.list h3 _ l ne items).toS) (ad _ ?hu) (by rw [size1]; simp only [List.mem_cons, List.not_mem_nil, or_false, not_or]; exact ⟨Nat.ne_of_lt (Nat.lt_succ_self _), Nat.ne_of_gt llt⟩) (none_at _ (Nat.le_refl _)) (fun b hb => none_at b (by rw [List.mem_singleton.mp hb, size1]; exact Nat.le_succ _)) (items.size - 0) 0 _ rfl (Nat.zero_le _)
            ⟨⟨_, Heap.get?_push_size _ rfl, rfl, rfl⟩, (hl1.push _)⟩ (fun b o e => Heap.get?_push_of_some _ (Heap.get?_push_of_some _ e)) (j0 _ (Heap.get?_push_of_some _ at0)) fun s3 mv j k => ?_
          case hu => simp
          show wpAny _ _ _ _ _ _
          refine wpAny_pure ?_
          show wpAny _ _ (ret Value.none) _ _ _
          exact wpAny_pure ⟨rfl, fin s3 mv.gens mv.drawn mv.os j k⟩
        · obtain ⟨⟨ocls, odict, odata, oslots⟩, hol, hcl, nl, hdl⟩ := hl
          simp only at hcl hdl
          subst hcl
          subst hdl
          have hol' : (s.heap.push (newSet w)).get? l = some { cls := .type "tuple", dict := odict, data := .seq items nl, slots := oslots } := Heap.get?_push_of_some _ hol
          have m1 := PySem.F.sub_tuple_set
          have m2 := PySem.F.sub_tuple_frozenset
          have m3 : (Value.type "tuple" == Value.type "dict") = false := by decide
          have hl1 : (s.heap.push (newSet w)).IsTuple l items := ⟨_, hol', rfl, nl, rfl⟩
          have llt : l < s.heap.objs.size := Heap.lt_size hol
          unfold Builtin.«set.__init__» noKeywords Builtin.Frozenset.updateFrom
          generalize hPI : pyIter = PI
          wp_walk
          subst hPI
          refine wpAny_pyIter_tuple hl1 (wpAny_bind (wpAny_runValue ?_))
          have ne : l ≠ (s.heap.push (newSet w)).objs.size := by rw [size1]; exact Nat.ne_of_lt (Nat.lt_succ_of_lt llt)
          refine upd_loop ((Walks.tuple h3 _ l ne items).toS) (ad _ ?hu) (by rw [size1]; simp only [List.mem_cons, List.not_mem_nil, or_false, not_or]; exact ⟨Nat.ne_of_lt (Nat.lt_succ_self _), Nat.ne_of_gt llt⟩) (none_at _ (Nat.le_refl _)) (fun b hb => none_at b (by rw [List.mem_singleton.mp hb, size1]; exact Nat.le_succ _)) (items.size - 0) 0 _ rfl (Nat.zero_le _)
            ⟨⟨_, Heap.get?_push_size _ rfl, rfl, rfl⟩, (hl1.push _)⟩ (fun b o e => Heap.get?_push_of_some _ (Heap.get?_push_of_some _ e)) (j0 _ (Heap.get?_push_of_some _ at0)) fun s3 mv j k => ?_
          case hu => simp
          show wpAny _ _ _ _ _ _
          refine wpAny_pure ?_
          show wpAny _ _ (ret Value.none) _ _ _
          exact wpAny_pure ⟨rfl, fin s3 mv.gens mv.drawn mv.os j k⟩
      · cases r2 with
        | error e => exact hr2
        | ok fl2 =>
          cases fl2 with
          | ret r =>
            obtain ⟨rfl, h', tk, rfl, j, k⟩ := hr2
            repeat (any_goals (first | assumption | wp_step))
            exact q _ _ j k
          | _ => exact hr2.elim
    | _ => exact hr.elim
end
end IR.TS

end
section
/-! IrS4: len(set(x)) of scalars, of tuples of scalars. -/
namespace IR
open PySem PySem.Spec PyProof.Rows L2 IR.TS
def memB {α : Type} [DecidableEq α] (l : List α) (x : α) : Bool := decide (x ∈ l)
theorem memB_iff {α : Type} [DecidableEq α] {l : List α} {x : α} : memB l x = true ↔ x ∈ l := by simp [memB]

theorem uniq_snoc {α : Type} [DecidableEq α] (l : List α) (x : α) : uniq (l ++ [x]) = if x ∈ uniq l then uniq l else uniq l ++ [x] := by
  unfold uniq
  rw [List.foldl_append]
  rfl
theorem mem_uniq {α : Type} [DecidableEq α] {x : α} : ∀ (l : List α), x ∈ uniq l.reverse ↔ x ∈ l
  | [] => by simp [uniq]
  | y :: l => by
    rw [List.reverse_cons, uniq_snoc]
    split
    · rename_i h
      rw [mem_uniq l]
      constructor
      · exact fun z => List.mem_cons_of_mem _ z
      · intro z
        rcases List.mem_cons.mp z with z | z
        · rw [z]
          exact (mem_uniq l).1 h
        · exact z
    · rw [List.mem_append, mem_uniq l]
      simp [or_comm]
theorem mem_uniq' {α : Type} [DecidableEq α] {x : α} (l : List α) : x ∈ uniq l ↔ x ∈ l := by
  have := mem_uniq (x := x) l.reverse
  rw [List.reverse_reverse] at this
  rw [this, List.mem_reverse]
theorem uniq_nodup {α : Type} [DecidableEq α] : ∀ (l : List α), (uniq l.reverse).Nodup
  | [] => by simp [uniq]
  | y :: l => by
    rw [List.reverse_cons, uniq_snoc]
    split
    · exact uniq_nodup l
    · rename_i h
      exact List.nodup_append.mpr ⟨uniq_nodup l, by simp, fun a ha b hb e => h (by
        have : b = y := by simpa using hb
        rw [← this, ← e]
        exact ha)⟩
theorem uniq_le {α : Type} [DecidableEq α] : ∀ (l : List α), (uniq l.reverse).length ≤ l.length
  | [] => by simp [uniq]
  | y :: l => by
    have ih := uniq_le l
    rw [List.reverse_cons, uniq_snoc]
    split
    · simp
      omega
    · simp
      exact ih
theorem uniq_le' {α : Type} [DecidableEq α] (l : List α) : (uniq l).length ≤ l.length := by
  have := uniq_le l.reverse
  rwa [List.reverse_reverse, List.length_reverse] at this
theorem take_snoc {α : Type} {l : List α} {i : Nat} {x : α} (h : l[i]? = some x) : l.take (i + 1) = l.take i ++ [x] := by
  rw [List.take_add_one, h]
  rfl

section
variable {P : Program} {w : World} {A : Around} {E : Value → Shared → Prop} {s : Shared}
theorem quiet_mix : Quiet (mixKind P w) where
  stm := fun k v n h => by
    rcases keyIs_shape h with ⟨i, t, rfl, rfl⟩ | ⟨x, t, rfl, rfl⟩ <;> cases n <;> rfl
  byv := fun k v n h => by
    rcases keyIs_shape h with ⟨i, t, rfl, rfl⟩ | ⟨x, t, rfl, rfl⟩ <;> cases n <;> exact ⟨_, rfl⟩
theorem scan_of {k : Key} {v : Value} (h : (mixKind P w).is k v = true) : v.scannable = true := by
  rcases keyIs_shape h with ⟨i, t, rfl, rfl⟩ | ⟨x, t, rfl, rfl⟩ <;> rfl

/-- scalars -/
def JK (P : Program) (w : World) (S : Addr) (ks : List Key) (i : Nat) (h : Heap) : Prop := h.SetOf (mixKind P w) S (fun k => memB (uniq (ks.take i)) k) (uniq (ks.take i)).length
theorem adds_keys {S : Addr} {h0 : Heap} {items : Array Value} {ks : List Key} (hn : items.size = ks.length) (few : ks.length < 64) (his : ∀ (i : Nat) k v, ks[i]? = some k → items[i]? = some v → (mixKind P w).is k v = true) :
    Adds P w A S h0 items.size (fun i v => items[i]? = some v) (JK P w S ks) where
  keep := fun i h h' j e _ => by
    obtain ⟨o, es, ep, t, e1, r⟩ := j
    exact ⟨o, es, ep, t, e o e1, r⟩
  step := fun i v s E Q lt hv j k q => by
    have hk : ks[i]? = some (ks[i]'(by omega)) := List.getElem?_eq_getElem _
    generalize ks[i]'(by omega) = key at hk
    have is1 := his i key v hk hv
    refine wpAny_holding ?_
    unfold setAdd
    refine wpAny_holding (wpAny_bind ((mixKind P w).pyHash (k := key) is1 ?_))
    have le1 := uniq_le' (ks.take i)
    have le2 : (ks.take i).length ≤ ks.length := by simp; omega
    refine wpAny_setAddHashed_of (knd := mixKind P w) (S := fun k => memB (uniq (ks.take i)) k) (n := (uniq (ks.take i)).length) is1 (scan_of is1) j (by unfold scanBound; omega) fun h' sb j2 => ?_
    refine q _ h' _ sb (Nat.le_add_right _ _) ?_
    show Heap.SetOf _ _ _ _ _
    rw [take_snoc hk, uniq_snoc]
    by_cases hm : key ∈ uniq (ks.take i)
    · have ef : (fun k' => memB (uniq (ks.take i)) k' || decide (k' = key)) = fun k' => memB (uniq (ks.take i)) k' := by
        funext k'
        by_cases e : k' = key
        · subst e
          rw [memB_iff.mpr hm]
          rfl
        · simp [e]
      rw [if_pos hm]
      rw [ef, if_pos (memB_iff.mpr hm)] at j2
      exact j2
    · have ef : (fun k' => memB (uniq (ks.take i)) k' || decide (k' = key)) = fun k' => memB (uniq (ks.take i) ++ [key]) k' := by
        funext k'
        rw [Bool.eq_iff_iff, Bool.or_eq_true, memB_iff, memB_iff, decide_eq_true_eq, List.mem_append, List.mem_singleton]
      rw [if_neg hm]
      rw [ef, if_neg fun z => hm (memB_iff.mp z)] at j2
      rw [List.length_append, List.length_singleton]
      exact j2
theorem fresh_keys {S : Addr} {ks : List Key} {h : Heap} (e : h.get? S = some (newSet w)) : JK P w S ks 0 h := by
  refine ⟨_, #[], 0, _, e, ⟨rfl, rfl, rfl⟩, rfl, (fun x hx => by cases hx), fun k => ?_, (by unfold scanBound; decide), ?_, ?_⟩
  · simp [uniq, memB]
  · rfl
  · simp [uniq]

/-- tuples of scalars -/
def JT (P : Program) (w : World) (S : Addr) (ks : List (Addr × List Key)) (i : Nat) (h : Heap) : Prop := ∃ L es ep t, Tb (mixKind P w) h S L es ep t ∧ (∀ p ∈ L, p ∈ ks) ∧ (L.map (·.2)).Perm (uniq ((ks.take i).map (·.2)))
theorem adds_tups {S : Addr} {h0 : Heap} {items : Array Value} {ks : List (Addr × List Key)} (hit : items.toList = ks.map fun p => Value.ref p.1) (few : ks.length < 64) (hu : A.units < cLine) (his : ∀ p ∈ ks, IsTupleKey (mixKind P w) h0 p.2 p.1) :
    Adds P w A S h0 items.size (fun i v => items[i]? = some v) (JT P w S ks) where
  keep := fun i h h' j e k => by
    obtain ⟨L, es, ep, t, R, sub, pm⟩ := j
    exact ⟨L, es, ep, t, R.same e fun p hp => is_keep (his p (sub p hp)) k, sub, pm⟩
  step := fun i v s E Q lt hv j k q => by
    obtain ⟨L, es, ep, t, R, sub, pm⟩ := j
    have hv' : items.toList[i]? = some v := by rw [Array.getElem?_toList]; exact hv
    rw [hit, List.getElem?_map] at hv'
    obtain ⟨p, hp, rfl⟩ := Option.map_eq_some_iff.mp hv'
    have pin : p ∈ ks := List.mem_of_getElem? hp
    have hx := is_keep (his p pin) k
    refine wpAny_holding ?_
    unfold setAdd
    refine wpAny_holding (wpAny_bind (wpAny_pyHash_tuple hu hx ?_))
    have lenL : L.length + 1 < 64 := by
      have e1 := pm.length_eq
      have e2 := uniq_le' ((ks.take i).map (·.2))
      have e3 : i < ks.length := (List.getElem?_eq_some_iff.mp hp).1
      simp only [List.length_map, List.length_take] at e1 e2
      omega
    refine add_one (s := { s with toks := s.toks + (p.2.length + 1) }) quiet_mix R hx hu lenL fun b h' L' es' ep' t' sb R' c1 c2 => ?_
    refine q b h' _ sb (Nat.le_add_right _ _) ⟨L', es', ep', t', R', ?_, ?_⟩
    · by_cases hm : p.2 ∈ L.map (·.2)
      · rw [c1 hm]
        exact sub
      · intro p' hp'
        rcases List.mem_cons.mp ((c2 hm).mem_iff.mp hp') with e | e
        · rw [e]
          exact pin
        · exact sub p' e
    · rw [take_snoc hp, List.map_append, List.map_singleton, uniq_snoc]
      by_cases hm : p.2 ∈ L.map (·.2)
      · rw [c1 hm, if_pos (pm.mem_iff.mp hm)]
        exact pm
      · rw [if_neg fun z => hm (pm.mem_iff.mpr z)]
        have z := (c2 hm).map (·.2)
        exact z.trans ((pm.cons p.2).trans (List.perm_append_singleton _ _).symm)
theorem fresh_tups {S : Addr} {ks : List (Addr × List Key)} {h : Heap} (e : h.get? S = some (newSet w)) : JT P w S ks 0 h := by
  refine ⟨[], #[], 0, .fresh 0 0 (!w.params.followText "set-order"), ⟨⟨_, e, ⟨rfl, rfl, rfl⟩, rfl⟩, rfl, ⟨.nil, rfl, rfl, .inl rfl, (fun x hx => by cases hx), (fun i a j hi => by simp at hi)⟩, List.nodup_nil, (fun p hp => by cases hp), ?_, (by show 0 * 5 < 7 * 3; decide), by decide⟩, (fun p hp => by cases hp), by simp [uniq]⟩
  cases hh : w.params.followText "set-order"
  · exact .inr rfl
  · exact .inl rfl
end
section
variable {X : Cx} {N : List Str} {S : Sco} {k : Nat} {a : Expr} {p p2 q pos : Pos}
def KeySeq (K : PySem.W.Frag) (H : Hp) (vs : List V) (n : Nat) : Prop :=
  (∃ ks : List Key, vs = ks.map kV ∧ ks.length < 64 ∧ n = (uniq ks).length) ∨ ∃ ks : List (Addr × List Key), vs = ks.map (fun p => V.ref p.1) ∧ (∀ p ∈ ks, SqT K H p.1 (p.2.map kV)) ∧ ks.length < 64 ∧ n = (uniq (ks.map (·.2))).length
def tLenSet (K : PySem.W.Frag) (ta : TE) : TE := fun σ H Q => ta σ H fun x H1 => ∃ (l : Addr) (vs : List V) (n : Nat), x = V.ref l ∧ (SqL K H1 l vs ∨ SqT K H1 l vs) ∧ KeySeq K H1 vs n ∧ Q (.int (n : Nat)) H1
theorem vals_keys {P : Program} {w : World} : ∀ {ks : List Key} {us : List Value}, Vals (ks.map kV) us → ∀ (i : Nat) k v, ks[i]? = some k → us[i]? = some v → (mixKind P w).is k v = true
  | [], _, _, i, k, v, h, _ => by simp at h
  | k0 :: ks, us, r, 0, k, v, h1, h2 => by
    rw [List.map_cons] at r
    cases r with
    | cons r0 r =>
      simp at h1 h2
      subst h1
      subst h2
      exact kV_is r0
  | k0 :: ks, us, r, i + 1, k, v, h1, h2 => by
    rw [List.map_cons] at r
    cases r with
    | cons r0 r => exact vals_keys r i k v (by simpa using h1) (by simpa using h2)
theorem items_keys {P : Program} {w : World} : ∀ {ks : List Key} {us : List Value}, Vals (ks.map kV) us → ItemsAre (mixKind P w) ks us
  | [], us, r => by
    cases r
    exact .nil
  | k0 :: ks, us, r => by
    rw [List.map_cons] at r
    cases r with
    | cons r0 r => exact .cons (kV_is r0) (items_keys r)
theorem vals_refs : ∀ {ks : List (Addr × List Key)} {us : List Value}, Vals (ks.map fun p => V.ref p.1) us → us = ks.map fun p => Value.ref p.1
  | [], us, r => by
    cases r
    rfl
  | k0 :: ks, us, r => by
    rw [List.map_cons] at r
    cases r with
    | cons r0 r =>
      rw [vals_refs r]
      cases r0
      rfl
theorem pe_lenset (cx : CtxOk X N S k) {ta : TE} (hg : glB S.sc "len" = true) (hg2 : glB S.sc "set" = true) (ha : PE X a ta) (hs : isStar a = false) : PE X (.Call (.Name "len" p) [.Call (.Name "set" p2) [a] [] q] [] pos) (tLenSet X.K ta) := by
  have na := star1 (es := []) (env := X.env) hs
  refine ⟨fun pins s σ H Q I h => Call_ (ld_blt I (cx.gl hg) (cx.blt _ (by decide)) PySem.boot_len ?_)⟩
  refine PyProof.Rows.callWith_builtin1 (PyProof.Rows.args_cons ?_ rfl) rfl rfl
  refine Call_ (ld_blt I (cx.gl hg2) (cx.blt _ (by decide)) PyProof.Rows.boot_set ?_)
  refine PyProof.Rows.callWith_type1 (PyProof.Rows.args_cons (thn (ha.run pins s σ H _ I h) fun v s1 q0 => PyProof.Rows.args_nil ?_) na) na rfl
  obtain ⟨x, H1, I1, r1, l, vs, n, rfl, hsq, hks, q1⟩ := q0
  cases r1
  have un := cx.room.un
  obtain ⟨us, rv, hz, hl⟩ : ∃ us, Vals vs us ∧ us.length ≤ sizeLine ∧ (s1.heap.IsList l us.toArray ∨ s1.heap.IsTuple l us.toArray) := by
    rcases hsq with hq | hq
    · obtain ⟨us, r, pl, z⟩ := I1.list hq
      exact ⟨us, r, by rw [← r.length]; exact z, .inl pl.isList⟩
    · obtain ⟨us, r, pl, z⟩ := I1.tuple hq
      exact ⟨us, r, by rw [← r.length]; exact z, .inr pl⟩
  have len := rv.length
  have fin : ∀ (h' : Heap) (tk : Nat) (o : Obj) (es : Array (Int × Value)) (ep : Nat) (t : SetTable), (∀ b o, s1.heap.get? b = some o → h'.get? b = some o) → h'.get? s1.heap.objs.size = some o → o.ExactSet → o.data = .set es ep t → t.fits es.size = true → es.size = n → n < 64 →
      wpAny (model X.prog X.w) X.A (call (.builtin "len") [.ref s1.heap.objs.size]) (EP X pins σ Q) X.xe { s1 with heap := h', toks := tk } := fun h' tk o es ep t hk e1 e2 e3 e4 e5 e6 => by
    have I2 : Inv X pins σ H1 { s1 with heap := h', toks := tk } := I1.kept hk
    exact call_len_set e1 e2 e3 e4 (by omega) ⟨.int n, H1, I2.tok _, ⟨_, by rw [e5]⟩, q1⟩
  rcases hks with ⟨ks, rfl, few, rfl⟩ | ⟨ks, rfl, tup, few, rfl⟩
  · rw [List.length_map] at len
    refine set_call (J := JK X.prog X.w s1.heap.objs.size ks) (I1.ok.hd cx.calm) hl (fun A' hA => adds_keys (by simpa using len.symm) few fun i k v h1 h2 => vals_keys rv i k v h1 (by simpa using h2)) (fun h' e => fresh_keys e) fun h' tk j hk => PyProof.Rows.args_nil ?_
    have j' : JK X.prog X.w s1.heap.objs.size ks ks.length h' := by
      rw [show us.toArray.size = ks.length from (List.size_toArray (as := us)).trans len.symm] at j
      exact j
    unfold JK at j'
    rw [List.take_length] at j'
    obtain ⟨o, es, ep, t, e1, e2, e3, _, _, _, e4, e5⟩ := j'
    exact fin h' tk o es ep t hk e1 e2 e3 e4 e5 (Nat.lt_of_le_of_lt (uniq_le' ks) few)
  · rw [List.length_map] at len
    have eus := vals_refs rv
    refine set_call (J := JT X.prog X.w s1.heap.objs.size ks) (I1.ok.hd cx.calm) hl (fun A' hA => adds_tups (by simpa using eus) few (by omega) fun p hp => ?_) (fun h' e => fresh_tups e) fun h' tk j hk => PyProof.Rows.args_nil ?_
    · obtain ⟨its, r, ⟨o, e1, e2, n, e3⟩, _⟩ := I1.tuple (tup p hp)
      exact ⟨o, its.toArray, n, e1, e2, e3, by simpa using items_keys r⟩
    · have j' : JT X.prog X.w s1.heap.objs.size ks ks.length h' := by
        rw [show us.toArray.size = ks.length from (List.size_toArray (as := us)).trans len.symm] at j
        exact j
      obtain ⟨L, es, ep, t, R, _, pm⟩ := j'
      rw [List.take_length] at pm
      obtain ⟨o, e1, e2, e3⟩ := R.ob
      have el : es.size = (uniq (ks.map (·.2))).length := by rw [Tb.len (s := { s1 with heap := h' }) R, ← pm.length_eq, List.length_map]
      refine fin h' tk o es ep t hk e1 e2 e3 (Tb.fits (s := { s1 with heap := h' }) R) el (Nat.lt_of_le_of_lt (uniq_le' _) (by rw [List.length_map]; exact few))
theorem keys_at {ds : List D} {ks : List Key} (h : keysOf ds = some ks) : ds = ks.map keyD := by
  induction ds generalizing ks with
  | nil =>
    cases h
    rfl
  | cons d ds ih =>
    obtain ⟨k0, e1, h⟩ := Option.bind_eq_some_iff.mp h
    obtain ⟨r, e2, rfl⟩ := Option.map_eq_some_iff.mp h
    rw [ih e2, List.map_cons]
    congr 1
    cases d <;> first | (cases e1; rfl) | cases e1
theorem RepL.keys {K : PySem.W.Frag} {W : Addr → Prop} {H : Hp} : ∀ {ks : List Key} {vs : List V}, RepL K W H (ks.map keyD) vs → vs = ks.map kV
  | [], vs, h => by
    simp only [List.map_nil, RepL] at h
    exact h
  | k :: ks, vs, h => by
    simp only [List.map_cons, RepL] at h
    obtain ⟨v, r, e, h1, h2⟩ := h
    rw [e, rr_key (Rep.r h1), RepL.keys h2]
    rfl
theorem RepL.tups {K : PySem.W.Frag} {W : Addr → Prop} {H : Hp} : ∀ {ds : List D} {kss : List (List Key)} {vs : List V}, tupKeysOf ds = some kss → RepL K W H ds vs → ∃ ks : List (Addr × List Key), vs = ks.map (fun p => V.ref p.1) ∧ ks.map (·.2) = kss ∧ ∀ p ∈ ks, SqT K H p.1 (p.2.map kV)
  | [], kss, vs, e, h => by
    cases e
    simp only [RepL] at h
    exact ⟨[], h, rfl, fun p hp => by cases hp⟩
  | d :: ds, kss, vs, e, h => by
    cases d with
    | tuple xs =>
      simp only [tupKeysOf] at e
      obtain ⟨k0, e1, e⟩ := Option.bind_eq_some_iff.mp e
      obtain ⟨r, e2, rfl⟩ := Option.map_eq_some_iff.mp e
      simp only [RepL, Rep] at h
      obtain ⟨v, vr, ev, ⟨b, us, rfl, ht, hl⟩, h2⟩ := h
      obtain ⟨ks, f1, f2, f3⟩ := RepL.tups e2 h2
      have ex := keys_at e1
      subst ex
      have eu := RepL.keys hl
      subst eu
      refine ⟨(b, k0) :: ks, by rw [ev, f1]; rfl, by rw [← f2]; rfl, fun p hp => ?_⟩
      rcases List.mem_cons.mp hp with z | z
      · rw [z]
        exact ht.sqT
      · exact f3 p z
    | _ => cases e
theorem sv_lenset (cx : CtxOk X N S k) (hg : glB S.sc "len" = true) (hg2 : glB S.sc "set" = true) {fa : State → Option (Pre × State)} (ha : SPre X a fa) (hs : isStar a = false) :
    SVal X (.Call (.Name "len" p) [.Call (.Name "set" p2) [a] [] q] [] pos) (un1 lenSetD fa) := by
  obtain ⟨ta, pa, qa⟩ := ha
  refine ⟨_, pe_lenset cx hg hg2 pa hs, fun F C s σ H Q d s' hK G e q => ?_⟩
  obtain ⟨⟨pp, s1⟩, h1, h⟩ := Option.bind_eq_some_iff.mp e
  obtain ⟨x, h2, h⟩ := Option.bind_eq_some_iff.mp h
  obtain ⟨y, h3, h⟩ := Option.bind_eq_some_iff.mp h
  cases h
  refine qa F C s σ H _ pp s1 hK G h1 fun v C1 H1 a1 r1 => ?_
  have R1 := post_rep a1.1 h2 r1
  rw [hK] at R1
  have core : ∀ (ds : List D) (vs : List V), lenSetL ds = some d → RepL X.K (Wf F C1 s1.env σ) H1 ds vs → ∃ n, KeySeq X.K H1 vs n ∧ d = .int (n : Nat) := fun ds vs e rl => by
    unfold lenSetL at e
    split at e
    case isFalse => cases e
    rename_i few
    split at e
    · rename_i ks ek
      cases e
      have ed := keys_at ek
      subst ed
      refine ⟨_, .inl ⟨ks, RepL.keys rl, ?_, rfl⟩, rfl⟩
      simpa using few
    · obtain ⟨kss, e1, e2⟩ := Option.map_eq_some_iff.mp e
      cases e2
      obtain ⟨ks, f1, f2, f3⟩ := RepL.tups e1 rl
      refine ⟨_, .inr ⟨ks, f1, f3, ?_, by rw [f2]⟩, rfl⟩
      have z := rl.length
      rw [f1, List.length_map] at z
      omega
  cases x with
  | list ds =>
    obtain ⟨b, vs, ev, hr, rl⟩ := R1
    obtain ⟨n, ks, ed⟩ := core ds vs h3 rl
    exact ⟨b, vs, n, ev, .inl (.inl hr), ks, q (.int n) C1 H1 a1 (by rw [ed]; exact rp_int)⟩
  | tuple ds =>
    obtain ⟨b, vs, ev, ht, rl⟩ := R1
    obtain ⟨n, ks, ed⟩ := core ds vs h3 rl
    exact ⟨b, vs, n, ev, .inr ht.sq, ks, q (.int n) C1 H1 a1 (by rw [ed]; exact rp_int)⟩
  | _ => cases h3
end
end IR

end
section
/-! IrEnd: a def where the top left it; the end of a law. -/
namespace IR
open PySem PySem.Spec PyProof.Rows L2

/-- K without what stands at a -/
def cutK (K : PySem.W.Frag) (a : Addr) : PySem.W.Frag := K.filter fun p => !(p.1 == a)
theorem cut_self (K : PySem.W.Frag) (a : Addr) : (cutK K a).lookup a = none := by
  unfold cutK
  induction K with
  | nil => rfl
  | cons p K ih =>
    rw [List.filter_cons]
    split
    · rename_i h
      have ne : (a == p.1) = false := by
        have : ¬ p.1 = a := by simpa using h
        exact beq_eq_false_iff_ne.mpr fun e => this e.symm
      obtain ⟨b, o⟩ := p
      rw [List.lookup_cons, ne]
      exact ih
    · exact ih
theorem cut_ne (K : PySem.W.Frag) {a b : Addr} (h : b ≠ a) : (cutK K a).lookup b = K.lookup b := by
  unfold cutK
  induction K with
  | nil => rfl
  | cons p K ih =>
    obtain ⟨c, o⟩ := p
    rw [List.filter_cons]
    by_cases e : c = a
    · subst e
      have ne : (b == c) = false := beq_eq_false_iff_ne.mpr h
      rw [List.lookup_cons, ne]
      simpa using ih
    · have yes : (!(c == a)) = true := by simpa using e
      simp only [yes, if_true]
      rw [List.lookup_cons, List.lookup_cons, ih]
theorem cut_in {K : PySem.W.Frag} {a : Addr} {h : Heap} (k : K.In h) : (cutK K a).In h := fun b o e => by
  by_cases eb : b = a
  · rw [eb, cut_self] at e
    cases e
  · rw [cut_ne K eb] at e
    exact k b o e

/-- a def that the top left: its name, its text -/
def DefAt (K : PySem.W.Frag) (mg : Str → Option Value) (x : Str) (st : Stmt) : Prop := ∃ f fd, mg x = some (.ref f) ∧ FunD K x x (defArgs st) (defBody st) (defScope st) [] [] f fd
theorem DefAt.cut {K : PySem.W.Frag} {mg : Str → Option Value} {x : Str} {st : Stmt} {a : Addr} (ha : ∀ o, K.lookup a = some o → ∃ vs n, o.data = .seq vs n) (D : DefAt K mg x st) : DefAt (cutK K a) mg x st := by
  obtain ⟨f, fd, hm, ⟨oc, od, dV, kV, doc, pm, an, cdv, ct, osl, e1, e2, e3, e4, e5⟩, kp⟩ := D
  have nf : f ≠ a := fun z => by
    rw [z] at e2
    obtain ⟨vs, n, h⟩ := ha _ e2
    cases h
  have dv : dV = .none := by
    rcases e4 with ⟨_, h⟩ | ⟨h, _⟩
    · exact h
    · exact absurd rfl h
  refine ⟨f, fd, hm, ⟨oc, od, dV, kV, doc, pm, an, cdv, ct, osl, e1, by rw [cut_ne K nf]; exact e2, ?_, .inl ⟨rfl, dv⟩, .inl rfl⟩, ?_⟩
  · unfold PySem.W.codeIn at e3 ⊢
    cases cdv with
    | ref c =>
      simp only at e3 ⊢
      by_cases ec : c = a
      · subst ec
        split at e3
        · rename_i h
          obtain ⟨vs, n, h'⟩ := ha _ h
          cases h'
        · cases e3
      · rw [cut_ne K ec]
        exact e3
    | _ => cases e3
  · unfold PySem.W.keepIn at kp ⊢
    simp only at kp ⊢
    rw [cut_ne K nf, e2]
section
variable {P : Program} {w : World} {K : PySem.W.Frag} {mg : Str → Option Value} {base : Heap}
/-- such a def keeps what is shown of its body -/
theorem DefAt.fn {x : Str} {st : Stmt} {N ps : List Str} {k : Nat} {kwl : List KwPat} {body : State → Option (Out × State)} (D : DefAt K mg x st) (S : FnScope N ps (defScope st)) (hb : ∀ y ∈ bltNames, mg y = none)
    (hbody : ∀ X : Cx, X.prog = P → X.w = w → X.K = K → X.mg = mg → X.base = base → CtxOk X N ⟨defScope st, fun _ => true⟩ k → SBlk X (defBody st) body)
    (h1 : ∀ (kV doc pm : Value) (an : Option Addr) (cdv ct : Value) (us : List Value), us.length = ps.length → bindArgs (PySem.W.fnOf x x (defArgs st) (defBody st) (defScope st) .none kV doc pm an cdv ct) ⟨us, []⟩ = pure (ps.zip us))
    (h2 : ∀ q ∈ kwl, ∀ (kV doc pm : Value) (an : Option Addr) (cdv ct : Value) (ws : List Value), ws.length = q.ks.length → bindArgs (PySem.W.fnOf x x (defArgs st) (defBody st) (defScope st) .none kV doc pm an cdv ct) ⟨[], q.ks.zip ws⟩ = pure (ps.zip (perm q.idx ws))) :
    FnAt P w K mg base (k + 1) x ps.length kwl (runDef ps.length N.length body) := by
  obtain ⟨f, fd, hm, F⟩ := D
  have F0 := F
  obtain ⟨⟨oc, od, dV, kV, doc, pm, an, cdv, ct, osl, e1, e2, e3, e4, e5⟩, kp⟩ := F
  have dv : dV = .none := by
    rcases e4 with ⟨_, h⟩ | ⟨h, _⟩
    · exact h
    · exact absurd rfl h
  subst dv
  have Fn : Fun K x x st f fd := ⟨⟨oc, od, kV, doc, pm, an, cdv, ct, osl, e1, e2, e3⟩, kp⟩
  refine ⟨f, fd, ps, hm, kp, rfl, F0.bindsN h1, fun q hq ws hw => ?_, fnG_of Fn S hb hbody⟩
  rw [e1]
  exact h2 q hq kV doc pm an cdv ct ws hw

/-! ### the end -/
theorem law_run {k : Nat} {fa a : Addr} {x : Str} {fs : FSem} {s1 : Shared} {vs : List Value} {ns : List Int} {cs' : Cells} {mb : Str → Option Value}
    (KX : K.In s1.heap) (ka : K.lookup a = none) (hns : s1.heap.Ns mainGlobals mg) (hb : s1.heap.Ns builtinsNs mb) (hbb : ∀ x : Str, x ≠ "__name__" → mb x = bootBuiltins x) (lim : s1.heap.NoLimit) (hg : s1.gens = #[])
    (ha : s1.heap.get? a = some { cls := .type "list", data := .seq vs.toArray }) (hi : IntsAre vs ns) (hl : ns.length ≤ sizeLine) (hr : Room k callerA)
    (F : ∀ base : Heap, FnAt P w K mg base k x 1 [] fs) (hm : mg x = some (.ref fa)) (hf : fs [.brw (.list (ns.map .int))] [] = some (.bool true, cs')) :
    codeAny (model P w) callerA (.call (.ref fa) ⟨[.ref a], []⟩) (fun r s' => r = .ok (.ret (.bool true)) ∧ OldK s1.heap s'.heap ∧ s'.os = s1.os ∧ AllBare s'.gens) s1 := by
  have rv := vals_ints hi
  let ob : Obj := { cls := .type "list", data := .seq vs.toArray }
  let H : Hp := fun b => if b = a then some (.frz ob (.lst (ns.map V.int))) else none
  have Ha : H a = some (.frz ob (.lst (ns.map V.int))) := if_pos rfl
  have Hn : ∀ {b}, b ≠ a → H b = none := fun h => if_neg h
  have lenV : (ns.map V.int).length ≤ sizeLine := by rw [List.length_map]; exact hl
  have hok : HOk P w H s1.heap := fun b u e => by
    by_cases eb : b = a
    · subst eb
      rw [Ha] at e
      cases e
      exact ⟨ha, lenV, vs, _, rv, ha⟩
    · rw [Hn eb] at e
      cases e
  have shown : ∀ {b : Addr} {o : Obj}, s1.heap.get? b = some o → b ≠ a → (hidT s1.heap H).get? b = some o := fun e n => hidT_get e (Hn n)
  have spaces : ∀ {b : Addr} {m : Str → Option Value}, s1.heap.Ns b m → (hidT s1.heap H).Ns b m := fun {b m} h => by
    obtain ⟨o, es, ep, e, d, r⟩ := h
    refine ⟨o, es, ep, shown e fun z => ?_, d, r⟩
    rw [z, ha] at e
    cases e
    cases d
  have kin : K.In (hidT s1.heap H) := fun b o e => shown (KX b o e) fun z => by rw [z, ka] at e; cases e
  have mod : Mod K mg (hidT s1.heap H) := ⟨kin, spaces hns, ⟨mb, spaces hb, hbb⟩, let ⟨mc, h1, h2⟩ := lim; ⟨mc, spaces h1, h2⟩⟩
  have env : Env0 P w K mg (hidT s1.heap H) callerA [] s1 H := ⟨rfl, mod, fun b o e => of_hidT e, Nat.le_of_eq (hidT_size _ _), trivial, (fun b hb => by cases hb), hok, .of_eq hg⟩
  obtain ⟨f, fd, ps, hm2, _, hps, hbd, _, Fg⟩ := F (hidT s1.heap H)
  rw [hm] at hm2
  cases hm2
  have want : spOf K ps.length fs [.ref a] H (fun v _ => v = .bl true) := by
    refine ⟨⟨K, fun _ => False, H, [], fun _ z => z.elim, fun _ z => by cases z⟩, [.brw (.list (ns.map .int))], [], .bool true, cs', rfl, rfl, hps.symm, hf, ⟨rfl, fun n b e => by simp at e⟩, List.nodup_nil, ?_, fun v H' _ _ r => by simpa [Rep] using r⟩
    exact ⟨.ref a, [], rfl, ⟨a, _, rfl, (fun z => by cases z), .inr ⟨ob, Ha⟩, RepL.ints ns⟩, rfl⟩
  refine codeAny_mono (Fg.run callerA [] s1 H ⟨[.ref a], []⟩ [.ref a] [.ref a] _ rfl hr env (hbd s1 [.ref a] KX (by simp [hps])) (.cons rfl .nil) want) fun r s' h => ?_
  cases r with
  | error e => exact h.elim
  | ok fl =>
    cases fl with
    | next => exact h.elim
    | brk => exact h.elim
    | cont => exact h.elim
    | ret u =>
      obtain ⟨v, H', os, bare, un, hok', r', q⟩ := h
      have ev : v = .bl true := q
      subst ev
      obtain rfl : u = Value.bool true := r'
      refine ⟨rfl, OldK.of_keep fun b o e => ?_, os, bare⟩
      by_cases eb : b = a
      · subst eb
        have z2 := un.frzs b ob _ Ha
        obtain ⟨e2, _⟩ := hok' b _ z2
        rw [ha] at e
        cases e
        exact e2
      · exact un.keep b o e (Hn eb) (fun z => by cases z) (by simp)
end
/-- the goal that the head leaves -/
theorem law_end {l : PySem.W.OpenLaw} {n k : Nat} {q : Program} {loose : List Str} {XP : (Str → Option Value) → Heap → Prop} {YP : World → Heap → Prop} {d : DefRec} {x : Str} {fs : FSem} (hn : l.most = some n) (hn2 : n ≤ sizeLine) (hdf : d.params.defaults = []) (hr : Room k callerA)
    (hY : ∀ (w : World) (h : Heap) (mg : Str → Option Value), YP w h → h.Ns mainGlobals mg → ∃ K : PySem.W.Frag, K.In h ∧ ∀ a : Addr, (∀ o, K.lookup a = some o → ∃ vs n, o.data = .seq vs n) → ∀ base : Heap, FnAt l.prog w (cutK K a) mg base k d.name 1 [] fs)
    (hf : ∀ ns : List Int, ns.length ≤ n → ∃ cs', fs [.brw (.list (ns.map .int))] [] = some (.bool true, cs')) :
    PySem.W.WalkO q loose XP YP l.row.toRowW d [] (fun f vs => PySem.call f vs) := by
  refine Att.attach_call hn hdf fun w s0 s1 mg mb fa o pm cd doc a vs ns G Y ho hd hcd hmg hobj hints hlen hg => ?_
  obtain ⟨K, KX, hF⟩ := hY w _ mg Y G.T.g
  have hF := hF a fun o e => by
    have e2 := KX a o e
    rw [hobj] at e2
    cases e2
    exact ⟨_, _, rfl⟩
  obtain ⟨cs', hf⟩ := hf ns hlen
  exact law_run (cut_in KX) (cut_self K a) G.T.g G.T.b G.T.builtins G.T.nolimit hg hobj hints (Nat.le_trans hlen hn2) hr hF hmg hf
end IR

end
section
/-! IrN: the rules under short names, as the printer uses them. -/
namespace IR
open PySem PySem.Spec PyProof.Rows L2

def lkF (i : Nat) (s : State) : Option (D × State) := lkSlot s i
def nowF (f : State → Option (D × State)) (s : State) : Option (Pre × State) := (f s).map fun p => (.now p.1, p.2)
def frzF (f : State → Option (List D × State)) (s : State) : Option (D × State) := (f s).map fun p => (.list p.1, p.2)
def dfzF (f : State → Option (List (D × D) × State)) (s : State) : Option (D × State) := (f s).map fun p => (.dict p.1, p.2)
def blF (f : State → Option (Bool × State)) (s : State) : Option (D × State) := (f s).map fun p => (.bool p.1, p.2)
def notT (f : State → Option (Bool × State)) (s : State) : Option (Bool × State) := (f s).map fun p => (!p.1, p.2)
def notV (f : State → Option (D × State)) (s : State) : Option (D × State) := (boolF f s).map fun p => (.bool (!p.1), p.2)
def nonP (s : State) : Option (Option Int × State) := some (none, s)
def nilL (s : State) : Option (List D × State) := some ([], s)
def newD (s : State) : Option (List (D × D) × State) := some ([], s)
def mkV (f : State → Option (D × State)) (s : State) : Option (Mk × State) := (f s).map fun p => (.v p.1, p.2)
def mkL' (f : State → Option (List D × State)) (s : State) : Option (Mk × State) := (f s).map fun p => (.l p.1, p.2)
def mkD (f : State → Option (List (D × D) × State)) (s : State) : Option (Mk × State) := (f s).map fun p => (.d p.1, p.2)
section
variable {X : Cx} {N : List Str} {S : Sco} {k : Nat} {a b c e o tg iter elt : Expr} {es ifs : List Expr} {pos apos cpos p p2 q py : Pos} {x : Str} {i : Nat}

theorem nV (cx : CtxOk X N S k) (hi : N[i]? = some x) (hx : visB S.sc x = true) (hd : (x == ("__debug__" : Str)) = false) (hcd : (x == ("__classdict__" : Str)) = false) : SVal X (.Name x pos) (lkF i) := sv_var (cx.nm hi) (cx.vis hx) hd hcd
theorem nP (cx : CtxOk X N S k) (hi : N[i]? = some x) (hx : visB S.sc x = true) (hd : (x == ("__debug__" : Str)) = false) (hcd : (x == ("__classdict__" : Str)) = false) : SPre X (.Name x pos) (preVar i) := sp_var (cx.nm hi) (cx.vis hx) hd hcd
theorem now {f : State → Option (D × State)} (h : SVal X e f) : SPre X e (nowF f) := h.pre
theorem frz {f : State → Option (List D × State)} (h : SFr X e f) : SVal X e (frzF f) := h.val
theorem dfz {f : State → Option (List (D × D) × State)} (h : SFd X e f) : SVal X e (dfzF f) := h.val
theorem cI {n : Int} {j : Nat} : SVal X (.Constant (.int n) j pos) (conF (.int n)) := sv_con (k := tC (.int n)) pe_int fun _ _ => rp_int
theorem cB {n : Bool} {j : Nat} : SVal X (.Constant (.bool n) j pos) (conF (.bool n)) := sv_con (k := tC (.bl n)) pe_bl fun _ _ => rp_bool
theorem cN {j : Nat} : SVal X (.Constant .none j pos) (conF .none) := sv_con (k := tC .non) pe_non fun _ _ => rp_none
theorem cS {n : Str} {j : Nat} : SVal X (.Constant (.str n) j pos) (conF (.str n)) := sv_con (k := tC (.str n)) pe_str fun _ _ => rp_str
theorem gI (cx : CtxOk X N S k) {n : Int} (hg : glB S.sc x = true) (hm : ∃ t, X.mg x = some (.int n t)) (hd : (x == ("__debug__" : Str)) = false) : SVal X (.Name x pos) (conF (.int n)) := by
  obtain ⟨t, hm⟩ := hm
  exact sv_glob cx (v := .int n) hg hm ⟨_, rfl⟩ (fun _ _ => rp_int) hd
theorem gS (cx : CtxOk X N S k) {n : Str} (hg : glB S.sc x = true) (hm : ∃ t, X.mg x = some (.str n t)) (hd : (x == ("__debug__" : Str)) = false) : SVal X (.Name x pos) (conF (.str n)) := by
  obtain ⟨t, hm⟩ := hm
  exact sv_glob cx (v := .str n) hg hm ⟨_, rfl⟩ (fun _ _ => rp_str) hd

/-! what a store looks at of its frame is the scope alone -/
def envS (sc : Scope) : Env := envOfC ("" : Str) sc 0 0 .none
theorem stores_scope {ts : List Expr} {v : Expr} {env env' : Env} (h : env.scope = env'.scope) : swappedStores ts v env = swappedStores ts v env' := by
  unfold swappedStores Env.blockKind Env.kindOf
  rw [h]
theorem swaps_scope {v : Expr} {t : Option Expr} {l : Nat} {env env' : Env} (h : env.scope = env'.scope) : swapsWith v t l env = swapsWith v t l env' := by
  unfold swapsWith Env.blockKind Env.kindOf
  rw [h]
theorem CtxOk.swp (cx : CtxOk X N S k) {ts : List Expr} {v : Expr} {r : Sem (Option (List Str))} (h : swappedStores ts v (envS S.sc) = r) : swappedStores ts v X.env = r := (stores_scope cx.sc).trans h
theorem CtxOk.sw (cx : CtxOk X N S k) {v : Expr} {t : Option Expr} {l : Nat} {r : Sem Bool} (h : swapsWith v t l (envS S.sc) = r) : swapsWith v t l X.env = r := (swaps_scope cx.sc).trans h

/-! operators -/
theorem vAdd {fa fb : State → Option (Pre × State)} (ha : SPre X a fa) (hb : SPre X b fb) : SVal X (.BinOp a .Add b pos) (bin2 (binop .add) fa fb) := SG.val (sg_bin RVal.after add_ok ha hb)
theorem vSub {fa fb : State → Option (Pre × State)} (ha : SPre X a fa) (hb : SPre X b fb) : SVal X (.BinOp a .Sub b pos) (bin2 (binop .sub) fa fb) := SG.val (sg_bin RVal.after (bop_ok .sub) ha hb)
theorem vMul {fa fb : State → Option (Pre × State)} (ha : SPre X a fa) (hb : SPre X b fb) : SVal X (.BinOp a .Mult b pos) (bin2 (binop .mul) fa fb) := SG.val (sg_bin RVal.after (bop_ok .mul) ha hb)
theorem vDiv {fa fb : State → Option (Pre × State)} (ha : SPre X a fa) (hb : SPre X b fb) : SVal X (.BinOp a .FloorDiv b pos) (bin2 (binop .fdiv) fa fb) := SG.val (sg_bin RVal.after (bop_ok .fdiv) ha hb)
theorem vMod {fa fb : State → Option (Pre × State)} (ha : SPre X a fa) (hb : SPre X b fb) : SVal X (.BinOp a .Mod b pos) (bin2 (binop .mod) fa fb) := SG.val (sg_bin RVal.after (bop_ok .mod) ha hb)
theorem vPow {fa fb : State → Option (Pre × State)} (ha : SPre X a fa) (hb : SPre X b fb) : SVal X (.BinOp a .Pow b pos) (bin2 (binop .pow) fa fb) := SG.val (sg_bin RVal.after (bop_ok .pow) ha hb)
theorem fAdd {fa fb : State → Option (Pre × State)} (ha : SPre X a fa) (hb : SPre X b fb) : SFr X (.BinOp a .Add b pos) (bin2 (listop .add) fa fb) := SG.fr (sg_bin RFr.after add_fr ha hb)
theorem fMul {fa fb : State → Option (Pre × State)} (ha : SPre X a fa) (hb : SPre X b fb) : SFr X (.BinOp a .Mult b pos) (bin2 (listop .mul) fa fb) := SG.fr (sg_bin RFr.after mul_fr ha hb)
theorem tCmp (cx : CtxOk X N S k) (op : Cop) {fa fb : State → Option (Pre × State)} (ha : SPre X a fa) (hb : SPre X b fb) (hm : behindInMarks (copOf op) b = false) : STst X (.Compare a [copOf op] [b] pos) (bin2 (cmpop op) fa fb) := st_cmp cx.u65 op ha hb hm
theorem vCmp (cx : CtxOk X N S k) (op : Cop) {fa fb : State → Option (Pre × State)} (ha : SPre X a fa) (hb : SPre X b fb) (hm : behindInMarks (copOf op) b = false) : SVal X (.Compare a [copOf op] [b] pos) (bin2 (cmpD op) fa fb) := SG.val (sg_cmp RVal.after (cop_ok cx.u65 op) ha hb hm)
theorem tChn (cx : CtxOk X N S k) (o1 o2 : Cop) {fa fb fc : State → Option (Pre × State)} (ha : SPre X a fa) (hb : SPre X b fb) (hc : SPre X c fc) (hm : behindInMarks (copOf o2) c = false) : STst X (.Compare a [copOf o1, copOf o2] [b, c] pos) (chain3 o1 o2 fa fb fc) := st_chain cx.u65 o1 o2 ha hb hc hm
theorem vChn (cx : CtxOk X N S k) (o1 o2 : Cop) {fa fb fc : State → Option (Pre × State)} (ha : SPre X a fa) (hb : SPre X b fb) (hc : SPre X c fc) (hm : behindInMarks (copOf o2) c = false) : SVal X (.Compare a [copOf o1, copOf o2] [b, c] pos) (blF (chain3 o1 o2 fa fb fc)) := sv_chain cx.u65 o1 o2 ha hb hc hm
theorem tNot {f : State → Option (Bool × State)} (h : STst X a f) : STst X (.UnaryOp .Not a pos) (notT f) := st_not h
theorem vNot {f : State → Option (D × State)} (h : SVal X a f) : SVal X (.UnaryOp .Not a pos) (notV f) := sv_not h
theorem tAnd1 {f : State → Option (Bool × State)} (h : STst X a f) : SWh X (.BoolOp .And [a] pos) f := sw_and1 h
theorem tOr1 {f : State → Option (Bool × State)} (h : STst X a f) : SWh X (.BoolOp .Or [a] pos) f := sw_or1 h
theorem vIf {fc : State → Option (Bool × State)} {f g : State → Option (D × State)} (hc : STst X c fc) (ha : SVal X a f) (hb : SVal X b g) : SVal X (.IfExp c a b pos) (ifF fc f g) := SG.val (sg_ife RVal.after hc ha.g hb.g)
theorem fIf {fc : State → Option (Bool × State)} {f g : State → Option (List D × State)} (hc : STst X c fc) (ha : SFr X a f) (hb : SFr X b g) : SFr X (.IfExp c a b pos) (ifF fc f g) := SG.fr (sg_ife RFr.after hc ha.g hb.g)

/-! subscripts -/
theorem vIx (cx : CtxOk X N S k) {fa fb : State → Option (Pre × State)} (ha : SPre X a fa) (hb : SPre X b fb) (hs : isSlc b = false) : SVal X (.Subscript a b pos) (bin2 idxD fa fb) := sv_ix cx.u1 ha hb hs
theorem sN : SPart X none nonP := sp_none
theorem lN : SList X [] nilL := sl_nil
theorem dN : SFd X (.Dict [] [] pos) newD := sf_dnew

/-! built-in functions -/
section
variable {fa fb : State → Option (Pre × State)}
theorem vLen (cx : CtxOk X N S k) (hg : glB S.sc "len" = true) (ha : SPre X a fa) (hs : isStar a = false) : SVal X (.Call (.Name "len" p) [a] [] pos) (un1 lenD fa) := by
  obtain ⟨rr, h1, h2⟩ := len_ok (X := X)
  exact SG.val (sg_b1 RVal.after h1 h2 (cx.gl hg) (cx.blt _ (by decide)) (by decide +kernel) (by decide) (by decide) ha hs)
theorem vAll (cx : CtxOk X N S k) (hg : glB S.sc "all" = true) (ha : SPre X a fa) (hs : isStar a = false) : SVal X (.Call (.Name "all" p) [a] [] pos) (un1 allD fa) := by
  obtain ⟨rr, h1, h2⟩ := all_ok (X := X) cx.calm
  exact SG.val (sg_b1 RVal.after h1 h2 (cx.gl hg) (cx.blt _ (by decide)) (by decide +kernel) (by decide) (by decide) ha hs)
theorem vAny (cx : CtxOk X N S k) (hg : glB S.sc "any" = true) (ha : SPre X a fa) (hs : isStar a = false) : SVal X (.Call (.Name "any" p) [a] [] pos) (un1 anyD fa) := by
  obtain ⟨rr, h1, h2⟩ := any_ok (X := X) cx.calm
  exact SG.val (sg_b1 RVal.after h1 h2 (cx.gl hg) (cx.blt _ (by decide)) (by decide +kernel) (by decide) (by decide) ha hs)
theorem vSum (cx : CtxOk X N S k) (hg : glB S.sc "sum" = true) (ha : SPre X a fa) (hs : isStar a = false) : SVal X (.Call (.Name "sum" p) [a] [] pos) (un1 sumD fa) := by
  obtain ⟨rr, h1, h2⟩ := sum_ok (X := X) cx.calm
  exact SG.val (sg_b1 RVal.after h1 h2 (cx.gl hg) (cx.blt _ (by decide)) (by decide +kernel) (by decide) (by decide) ha hs)
theorem vRepr (cx : CtxOk X N S k) (hg : glB S.sc "repr" = true) (ha : SPre X a fa) (hs : isStar a = false) : SVal X (.Call (.Name "repr" p) [a] [] pos) (un1 reprD fa) := by
  obtain ⟨rr, h1, h2⟩ := repr_ok (X := X) cx
  exact SG.val (sg_b1 RVal.after h1 h2 (cx.gl hg) (cx.blt _ (by decide)) (by decide +kernel) (by decide) (by decide) ha hs)
theorem fSorted (cx : CtxOk X N S k) (hg : glB S.sc "sorted" = true) (ha : SPre X a fa) (hs : isStar a = false) : SFr X (.Call (.Name "sorted" p) [a] [] pos) (un1 sortedL fa) := by
  obtain ⟨rr, h1, h2⟩ := sorted_fr (X := X)
  exact SG.fr (sg_b1 RFr.after h1 h2 (cx.gl hg) (cx.blt _ (by decide)) (by decide +kernel) (by decide) (by decide) ha hs)
theorem vInt (cx : CtxOk X N S k) (hg : glB S.sc "int" = true) (ha : SPre X a fa) (hs : isStar a = false) : SVal X (.Call (.Name "int" p) [a] [] pos) (un1 intD fa) := by
  obtain ⟨rr, h1, h2⟩ := int_ok (X := X)
  exact SG.val (sg_t1 RVal.after h1 h2 (cx.gl hg) (cx.blt _ (by decide)) (by decide +kernel) (by decide) (by decide) ha hs)
theorem vStr (cx : CtxOk X N S k) (hg : glB S.sc "str" = true) (ha : SPre X a fa) (hs : isStar a = false) : SVal X (.Call (.Name "str" p) [a] [] pos) (un1 strD fa) := by
  obtain ⟨rr, h1, h2⟩ := str_ok (X := X)
  exact SG.val (sg_t1 RVal.after h1 h2 (cx.gl hg) (cx.blt _ (by decide)) (by decide +kernel) (by decide) (by decide) ha hs)
theorem fList (cx : CtxOk X N S k) (hg : glB S.sc "list" = true) (ha : SPre X a fa) (hs : isStar a = false) : SFr X (.Call (.Name "list" p) [a] [] pos) (un1 listL fa) := by
  obtain ⟨rr, h1, h2⟩ := list_fr (X := X)
  exact SG.fr (sg_t1 RFr.after h1 h2 (cx.gl hg) (cx.blt _ (by decide)) (by decide +kernel) (by decide) (by decide) ha hs)
theorem vTuple (cx : CtxOk X N S k) (hg : glB S.sc "tuple" = true) (ha : SPre X a fa) (hs : isStar a = false) : SVal X (.Call (.Name "tuple" p) [a] [] pos) (un1 tupleD fa) := by
  obtain ⟨rr, h1, h2⟩ := tuple_ok (X := X)
  exact SG.val (sg_t1 RVal.after h1 h2 (cx.gl hg) (cx.blt _ (by decide)) (by decide +kernel) (by decide) (by decide) ha hs)
theorem vMax (cx : CtxOk X N S k) (hg : glB S.sc "max" = true) (ha : SPre X a fa) (hb : SPre X b fb) (hs : isStar a = false) (hs2 : isStar b = false) : SVal X (.Call (.Name "max" p) [a, b] [] pos) (bin2 maxD fa fb) := by
  obtain ⟨rr, h1, h2⟩ := max_ok (X := X) cx.calm
  exact sg_b2 h1 h2 (cx.gl hg) (cx.blt _ (by decide)) (by decide +kernel) (by decide) (by decide) ha hb hs hs2
theorem vMin (cx : CtxOk X N S k) (hg : glB S.sc "min" = true) (ha : SPre X a fa) (hb : SPre X b fb) (hs : isStar a = false) (hs2 : isStar b = false) : SVal X (.Call (.Name "min" p) [a, b] [] pos) (bin2 minD fa fb) := by
  obtain ⟨rr, h1, h2⟩ := min_ok (X := X) cx.calm
  exact sg_b2 h1 h2 (cx.gl hg) (cx.blt _ (by decide)) (by decide +kernel) (by decide) (by decide) ha hb hs hs2
theorem vIsi (cx : CtxOk X N S k) (T : Ty) (hx : x = Str.ofString (tyName T)) (hg : glB S.sc "isinstance" = true) (hgT : glB S.sc x = true) (ha : SPre X a fa) (hs : isStar a = false) : SVal X (.Call (.Name "isinstance" p) [a, .Name x p2] [] pos) (isiF T fa) :=
  sv_isi hx (cx.gl hg) (cx.blt _ (by decide)) (cx.gl hgT) (cx.blt _ (by rw [hx]; cases T <;> decide)) ha hs
end

/-! blocks -/
variable {scope : Scope} {own : List (Str × Nat)} {ts : List Nat}
theorem CtxOk.blkB (cx : CtxOk X N S k) (i : Bx) : CtxOk (blkX X scope i) N (S.blk scope) k := cx.blk i.1 i.2.1 scope i.2.2.1 i.2.2.2.1 i.2.2.2.2
abbrev InBlk (X : Cx) (N : List Str) (S : Sco) (k : Nat) (scope : Scope) (Y : Cx → Prop) : Prop := ∀ i : Bx, CtxOk (blkX X scope i) N (S.blk scope) k → Y (blkX X scope i)
theorem fLc (cx : CtxOk X N S k) (own : List (Str × Nat)) {fi : State → Option (List Item × State)} {g : Item → State → Option State} {ft : State → Option (Bool × State)} {fe : State → Option (D × State)} (hts : (ts.all fun i => decide (i ∈ own.map (·.2))) = true) (ok : blkC N S.sc scope own = true)
    (hs : ∀ x, foldedSetIterable iter X.env x = pure x) (hi : SIt X tg iter fi) (hg : InBlk X N S k scope fun Y => STg Y tg ts g) (ht : InBlk X N S k scope fun Y => STs Y ifs ft) (he : InBlk X N S k scope fun Y => SVal Y elt fe) :
    SFr X (.ListComp elt [⟨tg, iter, ifs, 0⟩] scope pos) (lcF (own.map (·.2)) fi g ft fe) :=
  sf_lc cx (fun i h => by simpa using List.all_eq_true.mp hts i h) ok hs hi (fun i => hg i (cx.blkB i)) (fun i => ht i (cx.blkB i)) fun i => he i (cx.blkB i)
theorem dDc (cx : CtxOk X N S k) (own : List (Str × Nat)) {kx vx : Expr} {fi : State → Option (List Item × State)} {g : Item → State → Option State} {ft : State → Option (Bool × State)} {fk fe : State → Option (D × State)} (hts : (ts.all fun i => decide (i ∈ own.map (·.2))) = true) (ok : blkC N S.sc scope own = true)
    (hs : ∀ x, foldedSetIterable iter X.env x = pure x) (hi : SIt X tg iter fi) (hg : InBlk X N S k scope fun Y => STg Y tg ts g) (ht : InBlk X N S k scope fun Y => STs Y ifs ft) (hk : InBlk X N S k scope fun Y => SVal Y kx fk) (he : InBlk X N S k scope fun Y => SVal Y vx fe) :
    SFd X (.DictComp kx vx [⟨tg, iter, ifs, 0⟩] scope pos) (dcF (own.map (·.2)) fi g ft fk fe) :=
  sd_dc cx (fun i h => by simpa using List.all_eq_true.mp hts i h) ok hs hi (fun i => hg i (cx.blkB i)) (fun i => ht i (cx.blkB i)) (fun i => hk i (cx.blkB i)) fun i => he i (cx.blkB i)
section
variable {spos : Pos} {fi : State → Option (List Item × State)} {g : Item → State → Option State} {ft : State → Option (Bool × State)} {fe : State → Option (D × State)}
theorem ssLcB (cx : CtxOk X N S k) (own : List (Str × Nat)) (hi0 : N[i]? = some x) (hx : localB S.sc x = true) (hsw : swapsWith (.ListComp elt [⟨tg, iter, ifs, 0⟩] scope pos) (some (.Name x py)) spos.line X.env = pure true)
    (hts : (ts.all fun i => decide (i ∈ own.map (·.2))) = true) (ok : blkC N S.sc scope own = true) (hs : ∀ x, foldedSetIterable iter X.env x = pure x) (hi : SIt X tg iter fi) (hg : InBlk X N S k scope fun Y => STg Y tg ts g) (ht : InBlk X N S k scope fun Y => STs Y ifs ft) (he : InBlk X N S k scope fun Y => SVal Y elt fe) :
    SSt X (.Assign [.Name x py] (.ListComp elt [⟨tg, iter, ifs, 0⟩] scope pos) spos) (asgB i (lcF (own.map (·.2)) fi g ft fe)) :=
  ss_setLc cx hi0 hx hsw (fun i h => by simpa using List.all_eq_true.mp hts i h) ok hs hi (fun i => hg i (cx.blkB i)) (fun i => ht i (cx.blkB i)) fun i => he i (cx.blkB i)
/-- .. and given up at once -/
theorem ssLcV (cx : CtxOk X N S k) (own : List (Str × Nat)) (hi0 : N[i]? = some x) (hx : localB S.sc x = true) (hsw : swapsWith (.ListComp elt [⟨tg, iter, ifs, 0⟩] scope pos) (some (.Name x py)) spos.line X.env = pure true)
    (hts : (ts.all fun i => decide (i ∈ own.map (·.2))) = true) (ok : blkC N S.sc scope own = true) (hs : ∀ x, foldedSetIterable iter X.env x = pure x) (hi : SIt X tg iter fi) (hg : InBlk X N S k scope fun Y => STg Y tg ts g) (ht : InBlk X N S k scope fun Y => STs Y ifs ft) (he : InBlk X N S k scope fun Y => SVal Y elt fe) :
    SSt X (.Assign [.Name x py] (.ListComp elt [⟨tg, iter, ifs, 0⟩] scope pos) spos) (asgV i (frzF (lcF (own.map (·.2)) fi g ft fe))) := by
  obtain ⟨wi, tgr, tt, te, pi, pg, pt, pe, q0⟩ := lc_parts cx (own := own) (fun i h => by simpa using List.all_eq_true.mp hts i h) hi (fun i => hg i (cx.blkB i)) (fun i => ht i (cx.blkB i)) fun i => he i (cx.blkB i)
  have ok' : BlkOk X.N X.env.scope scope own := by
    rw [cx.n, cx.sc]
    exact blkOk_by ok
  refine ⟨_, ps_setLc cx.calm cx.ndX (cx.nm hi0) (cx.local hx) hsw pi ok' (fun s H C cl fp => pg (s, H, C, cl, fp)) (fun s H C cl fp => pt (s, H, C, cl, fp)) (fun s H C cl fp => pe (s, H, C, cl, fp)) hs, fun F C s σ H Dn out s' hK G e q => ?_⟩
  obtain ⟨⟨d, s1⟩, e1, e2⟩ := Option.map_eq_some_iff.mp e
  cases e2
  obtain ⟨⟨ds, s2⟩, e3, e4⟩ := Option.map_eq_some_iff.mp e1
  cases e4
  exact q0 F C s σ H _ ds s2 hK G e3 fun p vs C1 H1 f1 hp rl => endV f1.aft (f1.rep hp rl) q
end
theorem mV {f : State → Option (D × State)} (h : SVal X e f) : SG X RMk e (mkV f) := mk_v h
theorem mL {f : State → Option (List D × State)} (h : SFr X e f) : SG X RMk e (mkL' f) := mk_l h
theorem mD {f : State → Option (List (D × D) × State)} (h : SFd X e f) : SG X RMk e (mkD f) := mk_d h
end
end IR

end
section
/-! IrX1: enumerate of a list or a tuple. -/
namespace IR
open PySem PySem.Spec PyProof.Rows L2
set_option maxHeartbeats 1000000 in
theorem meets_enum_new1 {v : Value} {o : Obj} {H : Heap → Prop} (B : Begins v o H) :
    Meets (Builtin.«enumerate.__new__» ⟨[.type "enumerate", v], []⟩) (fun _ R s => H s.heap ∧
      R (.ok (.ret (.ref (s.heap.push o).objs.size))) { s with heap := (s.heap.push o).push { cls := .type "enumerate", data := .fields #[.none, .bool false, .ref s.heap.objs.size, rawInt 0, .none, .none] } }) :=
  .of_wp fun prog w A R s h => by
    obtain ⟨hp, g, d, tk, os⟩ := s; obtain ⟨h1, h⟩ := h
    have hsub := sub_enumerate
    have q1 : ∀ {A' : Around} {E : Value → Shared → Prop} {Q : Value → Shared → Prop}, Q (.ref hp.objs.size) ⟨hp.push o, g, d, tk, os⟩ → wpAny (model prog w) A' (pyIter v) Q E ⟨hp, g, d, tk, os⟩ :=
      fun q => B.iter prog w _ _ ⟨hp, g, d, tk, os⟩ _ h1 q
    wp_walk using q1
    refine wpAny_stack_any fun st => wpAny_pure ?_
    split
    · rename_i c _ _ _ _ _
      cases (c == Value.type "enumerate")
      · wp_walk using q1
        exact ⟨_, rfl, h⟩
      · wp_walk using q1
        exact ⟨_, rfl, h⟩
    · wp_walk using q1
      exact ⟨_, rfl, h⟩
section
variable {prog : Program} {w : World} {A : Around} {E : Value → Shared → Prop} {s : Shared}
theorem enum_begins1 {v : Value} {o : Obj} {H : Heap → Prop} {Q : Value → Shared → Prop} (B : Begins v o H) (h1 : H s.heap)
    (h : ∀ h', IsEnum h' (s.heap.objs.size + 1) s.heap.objs.size 0 .none → h'.get? s.heap.objs.size = some o → h'.objs.size = s.heap.objs.size + 2 →
      (∀ b o, s.heap.get? b = some o → h'.get? b = some o) → Q (.ref (s.heap.objs.size + 1)) { s with heap := h' }) :
    wpAny (model prog w) A (call (.type "enumerate") [v]) Q E s := by
  refine callType_new F.called_enumerate (by decide) (F.typeCall_enumerate_1 _) (F.newCall_enumerate_1 _) (fun obj => F.args_object_init_2 obj _) F.entry_enumerate_new
    (meets_enum_new1 B) ⟨h1, ?_⟩
  have hz : (s.heap.push o).objs.size = s.heap.objs.size + 1 := Heap.size_push ..
  show _ ∧ _
  rw [hz]
  have he : IsEnum ((s.heap.push o).push { cls := .type "enumerate", data := .fields #[.none, .bool false, .ref s.heap.objs.size, rawInt 0, .none, .none] }) (s.heap.objs.size + 1) s.heap.objs.size 0 .none := by
    have := Heap.get?_push_size (s.heap.push o) (o := { cls := .type "enumerate", data := .fields #[.none, .bool false, .ref s.heap.objs.size, rawInt 0, .none, .none] }) rfl
    rw [hz] at this; exact this
  refine ⟨⟨_, he, rfl⟩, h _ he (Heap.get?_push_of_some _ (Heap.get?_push_size _ B.free)) (by rw [Heap.size_push, hz]) fun b o x => Heap.get?_push_of_some _ (Heap.get?_push_of_some _ x)⟩
end
section
variable {prog : Program} {w : World} {A : Around} {E : Value → Shared → Prop} {s : Shared}
theorem next_enum_endT {e it t : Addr} {i : Nat} {c : Int} {items : Array Value} {old : Value} {Q : Option Value → Shared → Prop} (hh : A.handled = none) (he : IsEnum s.heap e it c old)
    (hit : s.heap.IsTupleIter it t i) (ht : s.heap.IsTuple t items) (hx : items[i]? = none)
    (hQ : ∀ h', Heap.ExtBut it s.heap h' → Q none { s with heap := h' }) : wpAny (model prog w) A (pyNext (.ref e)) Q E s := by
  have hT : s.TypeIs (.ref e) "enumerate" := ⟨_, he, rfl⟩
  unfold pyNext
  refine wpAny_bind (wpAny_attempt (wpAny_callSpecial?_slot (name := Str.ofString "__next__") hT F.slot_enumerate_next
    (wpAny_call_entry F.slot_enumerate_next hT F.entry_enumerate_next ?_ (F.args_enumerate_next_1 _))))
  show wpAny _ _ (field (.ref e) 2 >>= _) _ _ _
  refine wpAny_bind (wpAny_field he rfl (x := .ref it) rfl ?_)
  refine wpAny_bind (wpAny_nextOf_tuple_end hh hit ht hx fun h' x he' hx' => ?_)
  obtain ⟨o, ho, hc⟩ := hx'
  refine wpAny_bind (wpAny_isInstance (T := "StopIteration") (b := true) ⟨o, ho, hc⟩ isSubtype_stop ?_)
  exact wpAny_pure (hQ _ he')
end
/-- the tuple at a as it stands at each turn, each item in a new pair -/
def IteT (K : PySem.W.Frag) (a : Addr) : It :=
  ⟨fun i H => ∃ (xs : List V) (x : V), SqT K H a xs ∧ xs[i]? = some x, fun i H v H' => ∃ T x, v = .ref T ∧ H T = none ∧ H' = upd H T (.tup [.int (i : Nat), x]) ∧ ∀ xs, SqT K H a xs → xs[i]? = some x, fun i H => ∃ xs : List V, SqT K H a xs ∧ xs.length ≤ i⟩
theorem turn_enumT {P : Program} {w : World} {K : PySem.W.Frag} {elts : List Expr} {kk : Nat} {tpos : Pos} (a e it : Addr) (hea : a ≠ e) (hia : a ≠ it) :
    Turn P w K (.Tuple elts kk tpos) (IteT K a) [e, it] e (fun i h => (∃ old, IsEnum h e it ((i : Nat) : Int) old) ∧ h.IsTupleIter it a i ∧ e ≠ it) where
  mem := by simp
  obj := fun i h st b hb => by
    obtain ⟨⟨old, he⟩, ⟨o, ho, hc, hd⟩, _⟩ := st
    have e' : b = e ∨ b = it := by simpa using hb
    rcases e' with z | z
    · rw [z]; exact ⟨_, he, fun v q => nomatch q⟩
    · rw [z]; exact ⟨o, ho, fun v q => by rw [hd] at q; cases q⟩
  keep := fun i h h' st k => let ⟨⟨old, he⟩, hi, hne⟩ := st; ⟨⟨old, k e (by simp) _ he⟩, hi.at fun o q => k it (by simp) o q, hne⟩
  item := by
    intro X hP hw hK hc i pins s σ H E I hf st hg
    subst hP hw hK
    obtain ⟨⟨old, he⟩, hit, hne⟩ := st
    obtain ⟨xs, x, hq, hx⟩ := hg
    obtain ⟨its, rv, p, hz⟩ := I.tuple hq
    obtain ⟨u, hu, ru⟩ := rv.get hx
    have hel : e < s.heap.objs.size := Heap.lt_size he
    have hil : it < s.heap.objs.size := by obtain ⟨_, q, _⟩ := hit; exact Heap.lt_size q
    have hi : i < its.toArray.size := by
      have := rv.length
      obtain ⟨h1, _⟩ := List.getElem?_eq_some_iff.mp hx
      simp
      omega
    have D := Draws.tuple (prog := X.prog) (w := X.w) (A := X.A.in1) (show X.A.in1.handled = none from I.ok.hd hc) it a hia its.toArray
    refine wpAny_pyNext_enum_itemD D he ⟨hit, p⟩ hi hne (by simp; exact ⟨hne, fun q => hea q.symm⟩) fun y h' tk hPy ho hst' hT hsz hk => ?_
    have ey : y = u := by
      have hPy : its.toArray[i]? = some y := hPy
      rw [List.getElem?_toArray, hu] at hPy
      exact (Option.some.inj hPy).symm
    subst ey
    refine ⟨_, rfl, wpAny_letOwnedTupleGo_enum (s := { s with heap := h', toks := tk + 1 }) ho fun h'' he' sb => ?_⟩
    have hT2 : h''.get? s.heap.objs.size = some { cls := .type "tuple", data := .seq #[.int i tk, y] } := (sb.2 _ (Nat.ne_of_gt hel)).trans hT
    have new : ObjOk X.prog X.w (upd H s.heap.objs.size (.tup [.int (i : Nat), x])) h'' s.heap.objs.size (.tup [.int (i : Nat), x]) :=
      ⟨by show 2 ≤ sizeLine; decide, [.int i tk, y], .cons ⟨_, rfl⟩ (.cons ru .nil), ⟨_, hT2, rfl, _, rfl⟩⟩
    have I1 : Inv X pins σ (upd H s.heap.objs.size (.tup [.int (i : Nat), x])) { s with heap := h'', toks := tk + 1 } :=
      I.turnedNew (t' := tk + 1) (ch := [e, it]) (fun b ob hb q => (sb.2 b (fun z => hb (by simp [z]))).trans (hk b ob (fun z => hb (by simp [z])) (fun z => hb (by simp [z])) q)) hf (Nat.le_refl _) new
    refine ⟨.ref s.heap.objs.size, _, I1, rfl, ⟨_, x, rfl, I.hok.fresh (Nat.le_refl _), rfl, fun ys hy => by rw [I.tuple_inj hy hq]; exact hx⟩, ⟨⟨y, ?_⟩, hst'.1.at fun o q => (sb.2 it (Ne.symm hne)).trans q, hne⟩, fun b hb => ?_⟩
    · have e1 : ((i + 1 : Nat) : Int) = (i : Int) + 1 := by omega
      rw [e1]; exact he'
    · have hb' : b < s.heap.objs.size := by
        have e' : b = e ∨ b = it := by simpa using hb
        rcases e' with z | z
        · rw [z]; exact hel
        · rw [z]; exact hil
      rw [upd_ne (Nat.ne_of_lt hb')]
      exact (hf b hb).1
  done := by
    intro X hP hw hK hc i pins s σ H E I hf st hg
    subst hP hw hK
    obtain ⟨⟨old, he⟩, hit, hne⟩ := st
    obtain ⟨xs, hq, hx⟩ := hg
    obtain ⟨its, rv, p, hz⟩ := I.tuple hq
    obtain ⟨f0, f1, f2, f3, f4, f5⟩ := hf it (by simp)
    have hl := rv.length
    exact next_enum_endT (I.ok.hd hc) he hit p (by simp; omega) fun h' eb => ⟨rfl, I.turned (t' := s.toks) (fun b o hb q => eb b o hb q) f0 f1 f3 f4 f5⟩
  self := fun A i s Q E st h => let ⟨⟨_, he⟩, _⟩ := st; wpAny_pyIter_enum he h
def iEnumA (K : PySem.W.Frag) (ta : TA) : TI := fun σ H R => ta σ H fun vs H1 => ∃ a xs, vs = [.ref a] ∧ ((SqL K H1 a xs ∧ R (Ite K a) H1) ∨ (SqT K H1 a xs ∧ R (IteT K a) H1))
theorem pi_enumA {X : Cx} {e : Expr} {ta : TA} {p pos tpos : Pos} {elts : List Expr} {kk : Nat} (hg : Gl X "enumerate") (hm : X.mg "enumerate" = none) (ha : PA X [e] ta) (hs : starEach [e] X.env = [(false, eval e X.env)] := by rfl) :
    PI X (.Tuple elts kk tpos) (.Call (.Name "enumerate" p) [e] [] pos) (iEnumA X.K ta) := by
  refine ⟨fun pins s σ H R I h => ?_⟩
  refine Call_ (ld_blt I hg hm boot_enumerate (PyProof.Rows.callWith_type1 (thn (ha.run pos pins s σ H _ I h) fun us s1 ⟨vs, H1, I1, r1, q1⟩ => ?_) hs rfl))
  obtain ⟨a, xs, ex, q1⟩ := q1
  subst ex
  cases r1 with
  | cons r rr =>
    cases rr
    cases r
    have fp : ∀ b, b ∈ [s1.heap.objs.size + 1, s1.heap.objs.size] → FpOk X pins H1 b := fun b hb => by
      have e' : b = s1.heap.objs.size + 1 ∨ b = s1.heap.objs.size := by simpa using hb
      have hle : s1.heap.objs.size ≤ b := by
        rcases e' with z | z
        · rw [z]; exact Nat.le_add_right _ _
        · rw [z]; exact Nat.le_refl _
      exact I1.fpOk hle (I1.hok.fresh hle)
    rcases q1 with ⟨hq, q⟩ | ⟨hq, q⟩
    · obtain ⟨its, rv, p', hz⟩ := I1.list hq
      refine call_enumerate_list p'.isList fun h' he hit hsz hk => wpAny_pyIter_enum he ?_
      have I2 : Inv X pins σ H1 { s1 with heap := h' } := I1.kept (t' := s1.toks) hk
      exact ⟨s1.heap.objs.size + 1, [s1.heap.objs.size + 1, s1.heap.objs.size], _, _, H1, rfl, I2, turn_enum a (s1.heap.objs.size + 1) s1.heap.objs.size, ⟨⟨.none, he⟩, hit, Nat.succ_ne_self _⟩, fp, q⟩
    · obtain ⟨its, rv, p', hz⟩ := I1.tuple hq
      obtain ⟨o1, ho1, _⟩ := id p'
      have hl : a < s1.heap.objs.size := Heap.lt_size ho1
      refine enum_begins1 (begins_tuple a its.toArray) p' fun h' he hit hsz hk => wpAny_pyIter_enum he ?_
      have I2 : Inv X pins σ H1 { s1 with heap := h' } := I1.kept (t' := s1.toks) hk
      exact ⟨s1.heap.objs.size + 1, [s1.heap.objs.size + 1, s1.heap.objs.size], _, _, H1, rfl, I2, turn_enumT a (s1.heap.objs.size + 1) s1.heap.objs.size (Nat.ne_of_lt (Nat.lt_succ_of_lt hl)) (Nat.ne_of_lt hl), ⟨⟨.none, he⟩, ⟨_, hit, rfl, rfl⟩, Nat.succ_ne_self _⟩, fp, q⟩
section
variable {X : Cx} {N : List Str} {S : Sco} {k : Nat} {a b : Expr} {p pos : Pos}
def enumA : List D → Option (List Item)
  | [.list ds] => some (numbered ds)
  | [.tuple ds] => some (numbered ds)
  | _ => none
theorem enumA_some {ds : List D} {l : List Item} (h : enumA ds = some l) : ∃ xs, l = numbered xs ∧ (ds = [.list xs] ∨ ds = [.tuple xs]) := by
  unfold enumA at h
  split at h
  · cases h
    exact ⟨_, rfl, .inl rfl⟩
  · cases h
    exact ⟨_, rfl, .inr rfl⟩
  · cases h
theorem it_enumA {elts : List Expr} {kk : Nat} {tpos : Pos} (cx : CtxOk X N S k) (hg : glB S.sc "enumerate" = true) {f : State → Option (List D × State)} (h : SList X [a] f) (hs : isStar a = false) : SIt X (.Tuple elts kk tpos) (.Call (.Name "enumerate" p) [a] [] pos) (itR enumA f) := by
  obtain ⟨t, pt, q0⟩ := h
  refine ⟨_, pi_enumA (cx.gl hg) (cx.blt _ (by decide)) pt (star1 hs), fun F C s σ H R its s' hK G e q => ?_⟩
  obtain ⟨⟨ds, s1⟩, h1, h⟩ := Option.bind_eq_some_iff.mp e
  obtain ⟨l, h2, h⟩ := Option.map_eq_some_iff.mp h
  cases h
  refine q0 F C s σ H _ ds s1 hK G h1 fun vs C1 H1 a1 r1 => ?_
  have step : ∀ {xs : List D} {us : List V} {W2 : Addr → Prop} {H2 H3 : Hp} {T : Addr} {i : Nat} {v x : V} (hi : i < xs.length), RepL F.K W2 H2 xs us → us[i]? = some x → v = .ref T → H2 T = none → H3 = upd H2 T (.tup [.int (i : Nat), x]) →
      ∃ it, (numbered xs)[i]? = some it ∧ IRep F.K W2 H3 it v ∧ (H3 = H2 ∨ ∃ p o, H2 p = none ∧ H3 = upd H2 p o) := fun {xs us W2 H2 H3 T i v x} hi r2 e1 ex hT e3 => by
    obtain ⟨x', f1, g1⟩ := r2.get (List.getElem?_eq_getElem hi)
    rw [e1] at f1
    cases f1
    refine ⟨.two (.int (i : Nat)) xs[i], ?_, ?_, .inr ⟨T, _, hT, e3⟩⟩
    · unfold numbered
      rw [List.getElem?_map, List.getElem?_zipIdx, List.getElem?_eq_getElem hi]
      simp
    · rw [e3]
      refine ⟨T, _, _, ex, upd_same, rp_int, g1.stp (fun b o e n => ⟨?_, n⟩) _ _⟩
      rw [upd_ne (fun z => by rw [z, hT] at e; cases e)]
      exact e
  obtain ⟨xs, rfl, hd⟩ := enumA_some h2
  have ln : (numbered xs).length = xs.length := by simp [numbered]
  rcases hd with rfl | rfl
  · simp only [RepL, Rep] at r1
    obtain ⟨v, r, ev, ⟨a, us, e1, na, ha, rl⟩, e2⟩ := r1
    subst e1 e2 ev
    refine ⟨a, us, rfl, .inl ⟨.of ha, q _ C1 H1 a1 ?_⟩⟩
    intro W2 H2 l i
    obtain ⟨h2, _⟩ := l.1 a _ ha na
    have r2 := rl.stp l.1
    refine ⟨fun hi => ?_, fun hi => ⟨us, .of h2, by rw [rl.length]; omega⟩⟩
    have hi : i < xs.length := by omega
    obtain ⟨v, e1, e2⟩ := r2.get (List.getElem?_eq_getElem hi)
    refine ⟨⟨us, v, .of h2, e1⟩, fun x H3 y => ?_⟩
    obtain ⟨T, w, ex, hT, e3, e4⟩ := y
    exact step hi r2 (e4 us (.of h2)) ex hT e3
  · simp only [RepL, Rep] at r1
    obtain ⟨v, r, ev, ⟨a, us, e1, ha, rl⟩, e2⟩ := r1
    subst e1 e2 ev
    have sa := ha.sqT
    rw [hK] at sa
    refine ⟨a, us, rfl, .inr ⟨sa, q _ C1 H1 a1 ?_⟩⟩
    intro W2 H2 l i
    have h2 := (ha.stp l.1).sqT
    rw [hK] at h2
    have r2 := rl.stp l.1
    refine ⟨fun hi => ?_, fun hi => ⟨us, h2, by rw [rl.length]; omega⟩⟩
    have hi : i < xs.length := by omega
    obtain ⟨v, e1, e2⟩ := r2.get (List.getElem?_eq_getElem hi)
    refine ⟨⟨us, v, h2, e1⟩, fun x H3 y => ?_⟩
    obtain ⟨T, w, ex, hT, e3, e4⟩ := y
    exact step hi r2 (e4 us h2) ex hT e3
end
end IR

end
section
/-! IrX: all rules. -/

end
section
namespace W10
open PySem PySem.Spec PyProof.Rows L2 IR
def top (i : Nat) : Stmt := PySem.Challenge.pw_allseen_k10_exchanges_put_together.main.body.getD i (.Pass ⟨0, 0, 0, 0⟩)
abbrev st_exchanged : Stmt := top 3
abbrev st_are_apart : Stmt := top 2
abbrev st_can_exchange : Stmt := top 5
abbrev st_path_right : Stmt := top 6
abbrev st_is_row_of : Stmt := top 17
abbrev st_are_unlike : Stmt := top 18
abbrev st_are_places : Stmt := top 22
abbrev st_is_order : Stmt := top 28
abbrev st_need_order : Stmt := top 29
abbrev st_is_road : Stmt := top 23
abbrev st_is_name : Stmt := top 16
abbrev st_is_web_form : Stmt := top 24
abbrev st_need_web : Stmt := top 25
abbrev st_need_two_orders : Stmt := top 33
abbrev st_exchanges_hold : Stmt := top 36
abbrev st_arrows_of : Stmt := top 1
abbrev st_are_alike : Stmt := top 34
abbrev st__law_otherwise : Stmt := top 51
abbrev st_have_road : Stmt := top 30
abbrev st_neighbours_of : Stmt := top 31
abbrev st_is_place : Stmt := top 26
abbrev st_need_place : Stmt := top 27
abbrev st_neighbours : Stmt := top 38
abbrev st__law_walked : Stmt := top 48
abbrev st__law_next : Stmt := top 41
abbrev st__law_pick : Stmt := top 42
abbrev st__law_free : Stmt := top 49
abbrev st__law_wandered : Stmt := top 50
abbrev st__law_list_right : Stmt := top 52
abbrev st_path_between : Stmt := top 4
abbrev st_exchanges : Stmt := top 35
abbrev st__law_shuffled : Stmt := top 43
abbrev st__law_order : Stmt := top 46
abbrev st__law_names : Stmt := top 44
abbrev st__law_web : Stmt := top 45
abbrev st__law_spring : Stmt := top 40
abbrev st_law : Stmt := top 53
structure Tops (K : PySem.W.Frag) (mg : Str → Option Value) : Prop where
  d_exchanged : DefAt K mg "exchanged" st_exchanged
  d_are_apart : DefAt K mg "are_apart" st_are_apart
  d_can_exchange : DefAt K mg "can_exchange" st_can_exchange
  d_path_right : DefAt K mg "path_right" st_path_right
  d_is_row_of : DefAt K mg "is_row_of" st_is_row_of
  d_are_unlike : DefAt K mg "are_unlike" st_are_unlike
  d_are_places : DefAt K mg "are_places" st_are_places
  d_is_order : DefAt K mg "is_order" st_is_order
  d_need_order : DefAt K mg "need_order" st_need_order
  d_is_road : DefAt K mg "is_road" st_is_road
  d_is_name : DefAt K mg "is_name" st_is_name
  d_is_web_form : DefAt K mg "is_web_form" st_is_web_form
  d_need_web : DefAt K mg "need_web" st_need_web
  d_need_two_orders : DefAt K mg "need_two_orders" st_need_two_orders
  d_exchanges_hold : DefAt K mg "exchanges_hold" st_exchanges_hold
  d_arrows_of : DefAt K mg "arrows_of" st_arrows_of
  d_are_alike : DefAt K mg "are_alike" st_are_alike
  d__law_otherwise : DefAt K mg "_law_otherwise" st__law_otherwise
  d_have_road : DefAt K mg "have_road" st_have_road
  d_neighbours_of : DefAt K mg "neighbours_of" st_neighbours_of
  d_is_place : DefAt K mg "is_place" st_is_place
  d_need_place : DefAt K mg "need_place" st_need_place
  d_neighbours : DefAt K mg "neighbours" st_neighbours
  d__law_walked : DefAt K mg "_law_walked" st__law_walked
  d__law_next : DefAt K mg "_law_next" st__law_next
  d__law_pick : DefAt K mg "_law_pick" st__law_pick
  d__law_free : DefAt K mg "_law_free" st__law_free
  d__law_wandered : DefAt K mg "_law_wandered" st__law_wandered
  d__law_list_right : DefAt K mg "_law_list_right" st__law_list_right
  d_path_between : DefAt K mg "path_between" st_path_between
  d_exchanges : DefAt K mg "exchanges" st_exchanges
  d__law_shuffled : DefAt K mg "_law_shuffled" st__law_shuffled
  d__law_order : DefAt K mg "_law_order" st__law_order
  d__law_names : DefAt K mg "_law_names" st__law_names
  d__law_web : DefAt K mg "_law_web" st__law_web
  d__law_spring : DefAt K mg "_law_spring" st__law_spring
  d_law : DefAt K mg "law" st_law
  k_DIGITS : ∃ t, mg "DIGITS" = some (.str "0123456789" t)
  k_LETTERS : ∃ t, mg "LETTERS" = some (.str "abcdefghijklmnopqrstuvwxyz" t)
  k_MOST_PLACES : ∃ t, mg "MOST_PLACES" = some (.int 8 t)
  k_MOST_ROADS : ∃ t, mg "MOST_ROADS" = some (.int 14 t)
  k_MOST_SIGNS : ∃ t, mg "MOST_SIGNS" = some (.int 8 t)
  free : ∀ y ∈ bltNames, mg y = none
theorem Tops.cut {K : PySem.W.Frag} {mg : Str → Option Value} {a : Addr} (h : ∀ o, K.lookup a = some o → ∃ vs n, o.data = .seq vs n) (T : Tops K mg) : Tops (cutK K a) mg := ⟨T.d_exchanged.cut h, T.d_are_apart.cut h, T.d_can_exchange.cut h, T.d_path_right.cut h, T.d_is_row_of.cut h, T.d_are_unlike.cut h, T.d_are_places.cut h, T.d_is_order.cut h, T.d_need_order.cut h, T.d_is_road.cut h, T.d_is_name.cut h, T.d_is_web_form.cut h, T.d_need_web.cut h, T.d_need_two_orders.cut h, T.d_exchanges_hold.cut h, T.d_arrows_of.cut h, T.d_are_alike.cut h, T.d__law_otherwise.cut h, T.d_have_road.cut h, T.d_neighbours_of.cut h, T.d_is_place.cut h, T.d_need_place.cut h, T.d_neighbours.cut h, T.d__law_walked.cut h, T.d__law_next.cut h, T.d__law_pick.cut h, T.d__law_free.cut h, T.d__law_wandered.cut h, T.d__law_list_right.cut h, T.d_path_between.cut h, T.d_exchanges.cut h, T.d__law_shuffled.cut h, T.d__law_order.cut h, T.d__law_names.cut h, T.d__law_web.cut h, T.d__law_spring.cut h, T.d_law.cut h, T.k_DIGITS, T.k_LETTERS, T.k_MOST_PLACES, T.k_MOST_ROADS, T.k_MOST_SIGNS, T.free⟩
theorem sc_exchanged : FnScope ["order", "index"] ["order", "index"] (defScope st_exchanged) := ⟨rfl, rfl, rfl, by decide +kernel, rfl, by decide +kernel, by decide +kernel⟩
def body_exchanged : State → Option (Out × State) := bCons (retF (bin2 (binop .add) (nowF (bin2 (binop .add) (nowF (slice3 sliceD (preVar 0) (nonP) (partF (preVar 1)))) (nowF (tupF (consF (bin2 idxD (preVar 0) (nowF (bin2 (binop .add) (preVar 1) (nowF (conF (.int 1)))))) (consF (bin2 idxD (preVar 0) (preVar 1)) (nilL))))))) (nowF (slice3 sliceD (preVar 0) (partF (nowF (bin2 (binop .add) (preVar 1) (nowF (conF (.int 2)))))) (nonP)))))
  (bNil)
def sem_exchanged : FSem := runDef 2 2 body_exchanged
def kw_exchanged : List KwPat := []
theorem fn_exchanged {P : Program} {w : World} {K : PySem.W.Frag} {mg : Str → Option Value} {base : Heap} (T : Tops K mg) : FnAt P w K mg base 1 "exchanged" 2 kw_exchanged sem_exchanged := by
  refine T.d_exchanged.fn (k := 0) sc_exchanged T.free (fun X e1 e2 e3 e4 e5 cx => ?_) (fun _ _ _ _ _ _ us hl => match us, hl with | [_, _], _ => rfl) (fun q hq => by simp [kw_exchanged] at hq)
  subst e1 e2 e3 e4 e5
  exact sb_cons (ss_ret (vAdd (now (vAdd (now (sv_slice (nP cx (i := 0) rfl rfl rfl rfl) (sN) (sp_some (nP cx (i := 1) rfl rfl rfl rfl)))) (now (sv_tup (sl_cons (vIx cx (nP cx (i := 0) rfl rfl rfl rfl) (now (vAdd (nP cx (i := 1) rfl rfl rfl rfl) (now (cI)))) rfl) rfl (sl_cons (vIx cx (nP cx (i := 0) rfl rfl rfl rfl) (nP cx (i := 1) rfl rfl rfl rfl) rfl) rfl (lN))))))) (now (sv_slice (nP cx (i := 0) rfl rfl rfl rfl) (sp_some (now (vAdd (nP cx (i := 1) rfl rfl rfl rfl) (now (cI))))) (sN)))))
    (sb_nil)
theorem sc_are_apart : FnScope ["web", "one", "other"] ["web", "one", "other"] (defScope st_are_apart) := ⟨rfl, rfl, rfl, by decide +kernel, rfl, by decide +kernel, by decide +kernel⟩
def body_are_apart : State → Option (Out × State) := bCons (retF (bothV (bin2 (cmpD .nin) (nowF (tupF (consF (lkF 1) (consF (lkF 2) (nilL))))) (nowF (bin2 idxD (preVar 0) (nowF (conF (.int 1)))))) (bin2 (cmpD .nin) (nowF (tupF (consF (lkF 2) (consF (lkF 1) (nilL))))) (nowF (bin2 idxD (preVar 0) (nowF (conF (.int 1))))))))
  (bNil)
def sem_are_apart : FSem := runDef 3 3 body_are_apart
def kw_are_apart : List KwPat := []
theorem fn_are_apart {P : Program} {w : World} {K : PySem.W.Frag} {mg : Str → Option Value} {base : Heap} (T : Tops K mg) : FnAt P w K mg base 1 "are_apart" 3 kw_are_apart sem_are_apart := by
  refine T.d_are_apart.fn (k := 0) sc_are_apart T.free (fun X e1 e2 e3 e4 e5 cx => ?_) (fun _ _ _ _ _ _ us hl => match us, hl with | [_, _, _], _ => rfl) (fun q hq => by simp [kw_are_apart] at hq)
  subst e1 e2 e3 e4 e5
  exact sb_cons (ss_ret (sv_and (vCmp cx .nin (now (sv_tup (sl_cons (nV cx (i := 1) rfl rfl rfl rfl) rfl (sl_cons (nV cx (i := 2) rfl rfl rfl rfl) rfl (lN))))) (now (vIx cx (nP cx (i := 0) rfl rfl rfl rfl) (now (cI)) rfl)) rfl) (sv_one (vCmp cx .nin (now (sv_tup (sl_cons (nV cx (i := 2) rfl rfl rfl rfl) rfl (sl_cons (nV cx (i := 1) rfl rfl rfl rfl) rfl (lN))))) (now (vIx cx (nP cx (i := 0) rfl rfl rfl rfl) (now (cI)) rfl)) rfl))))
    (sb_nil)
theorem sc_can_exchange : FnScope ["web", "order", "index"] ["web", "order", "index"] (defScope st_can_exchange) := ⟨rfl, rfl, rfl, by decide +kernel, rfl, by decide +kernel, by decide +kernel⟩
def body_can_exchange : State → Option (Out × State) := bCons (sIf (either (notT (tst1 (nowF (isiF .int (preVar 2))))) (either (tst1 (nowF (isiF .bool (preVar 2)))) (notT (chain3 .le .le (nowF (conF (.int 0))) (preVar 2) (nowF (bin2 (binop .sub) (nowF (un1 lenD (preVar 1))) (nowF (conF (.int 2)))))))))
  (bCons (retF (conF (.bool false)))
  (bNil))
  (bNil))
  (bCons (retF (callF sem_are_apart 3 (consP (preVar 0) (consP (nowF (bin2 idxD (preVar 1) (preVar 2))) (consP (nowF (bin2 idxD (preVar 1) (nowF (bin2 (binop .add) (preVar 2) (nowF (conF (.int 1))))))) (nilP))))))
  (bNil))
def sem_can_exchange : FSem := runDef 3 3 body_can_exchange
def kw_can_exchange : List KwPat := []
theorem fn_can_exchange {P : Program} {w : World} {K : PySem.W.Frag} {mg : Str → Option Value} {base : Heap} (T : Tops K mg) : FnAt P w K mg base 2 "can_exchange" 3 kw_can_exchange sem_can_exchange := by
  refine T.d_can_exchange.fn (k := 1) sc_can_exchange T.free (fun X e1 e2 e3 e4 e5 cx => ?_) (fun _ _ _ _ _ _ us hl => match us, hl with | [_, _, _], _ => rfl) (fun q hq => by simp [kw_can_exchange] at hq)
  subst e1 e2 e3 e4 e5
  exact sb_cons (ss_if (SWh.st (sw_or (tNot (st_pre (now (vIsi cx .int rfl rfl rfl (nP cx (i := 2) rfl rfl rfl rfl) rfl)) rfl)) (sw_or (st_pre (now (vIsi cx .bool rfl rfl rfl (nP cx (i := 2) rfl rfl rfl rfl) rfl)) rfl) (tOr1 (tNot (tChn cx .le .le (now (cI)) (nP cx (i := 2) rfl rfl rfl rfl) (now (vSub (now (vLen cx rfl (nP cx (i := 1) rfl rfl rfl rfl) rfl)) (now (cI)))) rfl))))))
    (sb_cons (ss_ret (cB))
    (sb_nil))
    (sb_nil))
    (sb_cons (ss_ret (sv_call cx (fn_are_apart T) (by decide) (cx.gl rfl) rfl (sa_cons (nP cx (i := 0) rfl rfl rfl rfl) rfl (sa_cons (now (vIx cx (nP cx (i := 1) rfl rfl rfl rfl) (nP cx (i := 2) rfl rfl rfl rfl) rfl)) rfl (sa_cons (now (vIx cx (nP cx (i := 1) rfl rfl rfl rfl) (now (vAdd (nP cx (i := 2) rfl rfl rfl rfl) (now (cI)))) rfl)) rfl (sa_nil)))) (fun y hy => by simp only [List.mem_cons, List.not_mem_nil, or_false] at hy; rcases hy with rfl | rfl | rfl <;> rfl)))
    (sb_nil))
theorem sc_path_right : FnScope ["web", "order", "other", "thing", "index"] ["web", "order", "other", "thing"] (defScope st_path_right) := ⟨rfl, rfl, rfl, by decide +kernel, rfl, by decide +kernel, by decide +kernel⟩
def body_path_right : State → Option (Out × State) := bCons (sIf (notT (tst1 (nowF (isiF .list (preVar 3)))))
  (bCons (retF (conF (.bool false)))
  (bNil))
  (bNil))
  (bCons (forF (itVar 3) (gName1 4)
  (bCons (sIf (notT (tst1 (nowF (callF sem_can_exchange 3 (consP (preVar 0) (consP (preVar 1) (consP (preVar 4) (nilP))))))))
  (bCons (retF (conF (.bool false)))
  (bNil))
  (bNil))
  (bCons (asgV 1 (callF sem_exchanged 2 (consP (preVar 1) (consP (preVar 4) (nilP)))))
  (bNil))))
  (bCons (retF (bin2 (cmpD .eq) (preVar 1) (preVar 2)))
  (bNil)))
def sem_path_right : FSem := runDef 4 5 body_path_right
def kw_path_right : List KwPat := []
theorem fn_path_right {P : Program} {w : World} {K : PySem.W.Frag} {mg : Str → Option Value} {base : Heap} (T : Tops K mg) : FnAt P w K mg base 3 "path_right" 4 kw_path_right sem_path_right := by
  refine T.d_path_right.fn (k := 2) sc_path_right T.free (fun X e1 e2 e3 e4 e5 cx => ?_) (fun _ _ _ _ _ _ us hl => match us, hl with | [_, _, _, _], _ => rfl) (fun q hq => by simp [kw_path_right] at hq)
  subst e1 e2 e3 e4 e5
  exact sb_cons (ss_if (tNot (st_pre (now (vIsi cx .list rfl rfl rfl (nP cx (i := 3) rfl rfl rfl rfl) rfl)) rfl))
    (sb_cons (ss_ret (cB))
    (sb_nil))
    (sb_nil))
    (sb_cons (ss_for cx (it_var cx (i := 3) rfl rfl rfl rfl) (tg_name cx (i := 4) rfl rfl rfl)
    (sb_cons (ss_if (tNot (st_pre (now (sv_call cx (fn_can_exchange T) (by decide) (cx.gl rfl) rfl (sa_cons (nP cx (i := 0) rfl rfl rfl rfl) rfl (sa_cons (nP cx (i := 1) rfl rfl rfl rfl) rfl (sa_cons (nP cx (i := 4) rfl rfl rfl rfl) rfl (sa_nil)))) (fun y hy => by simp only [List.mem_cons, List.not_mem_nil, or_false] at hy; rcases hy with rfl | rfl | rfl <;> rfl))) rfl))
    (sb_cons (ss_ret (cB))
    (sb_nil))
    (sb_nil))
    (sb_cons (ss_setV cx (i := 1) rfl rfl rfl rfl (sv_call cx (fn_exchanged T) (by decide) (cx.gl rfl) rfl (sa_cons (nP cx (i := 1) rfl rfl rfl rfl) rfl (sa_cons (nP cx (i := 4) rfl rfl rfl rfl) rfl (sa_nil))) (fun y hy => by simp only [List.mem_cons, List.not_mem_nil, or_false] at hy; rcases hy with rfl | rfl <;> rfl)))
    (sb_nil))) (fun _ => rfl))
    (sb_cons (ss_ret (vCmp cx .eq (nP cx (i := 1) rfl rfl rfl rfl) (nP cx (i := 2) rfl rfl rfl rfl) rfl))
    (sb_nil)))
theorem sc_is_row_of : FnScope ["thing", "least", "most"] ["thing", "least", "most"] (defScope st_is_row_of) := ⟨rfl, rfl, rfl, by decide +kernel, rfl, by decide +kernel, by decide +kernel⟩
def body_is_row_of : State → Option (Out × State) := bCons (retF (bothV (isiF .tuple (preVar 0)) (blF (chain3 .le .le (preVar 1) (nowF (un1 lenD (preVar 0))) (preVar 2)))))
  (bNil)
def sem_is_row_of : FSem := runDef 3 3 body_is_row_of
def kw_is_row_of : List KwPat := []
theorem fn_is_row_of {P : Program} {w : World} {K : PySem.W.Frag} {mg : Str → Option Value} {base : Heap} (T : Tops K mg) : FnAt P w K mg base 1 "is_row_of" 3 kw_is_row_of sem_is_row_of := by
  refine T.d_is_row_of.fn (k := 0) sc_is_row_of T.free (fun X e1 e2 e3 e4 e5 cx => ?_) (fun _ _ _ _ _ _ us hl => match us, hl with | [_, _, _], _ => rfl) (fun q hq => by simp [kw_is_row_of] at hq)
  subst e1 e2 e3 e4 e5
  exact sb_cons (ss_ret (sv_and (vIsi cx .tuple rfl rfl rfl (nP cx (i := 0) rfl rfl rfl rfl) rfl) (sv_one (vChn cx .le .le (nP cx (i := 1) rfl rfl rfl rfl) (now (vLen cx rfl (nP cx (i := 0) rfl rfl rfl rfl) rfl)) (nP cx (i := 2) rfl rfl rfl rfl) rfl))))
    (sb_nil)
theorem sc_are_unlike : FnScope ["things"] ["things"] (defScope st_are_unlike) := ⟨rfl, rfl, rfl, by decide +kernel, rfl, by decide +kernel, by decide +kernel⟩
def body_are_unlike : State → Option (Out × State) := bCons (retF (bin2 (cmpD .eq) (nowF (un1 lenSetD (preVar 0))) (nowF (un1 lenD (preVar 0)))))
  (bNil)
def sem_are_unlike : FSem := runDef 1 1 body_are_unlike
def kw_are_unlike : List KwPat := []
theorem fn_are_unlike {P : Program} {w : World} {K : PySem.W.Frag} {mg : Str → Option Value} {base : Heap} (T : Tops K mg) : FnAt P w K mg base 1 "are_unlike" 1 kw_are_unlike sem_are_unlike := by
  refine T.d_are_unlike.fn (k := 0) sc_are_unlike T.free (fun X e1 e2 e3 e4 e5 cx => ?_) (fun _ _ _ _ _ _ us hl => match us, hl with | [_], _ => rfl) (fun q hq => by simp [kw_are_unlike] at hq)
  subst e1 e2 e3 e4 e5
  exact sb_cons (ss_ret (vCmp cx .eq (now (sv_lenset cx rfl rfl (nP cx (i := 0) rfl rfl rfl rfl) rfl)) (now (vLen cx rfl (nP cx (i := 0) rfl rfl rfl rfl) rfl)) rfl))
    (sb_nil)
theorem sc_are_places : FnScope ["places", "thing", "place"] ["places", "thing"] (defScope st_are_places) := ⟨rfl, rfl, rfl, by decide +kernel, rfl, by decide +kernel, by decide +kernel⟩
def body_are_places : State → Option (Out × State) := bCons (retF (bothV (un1 allD (nowF (frzF (lcF (([("place", 2)] : List (Str × Nat)).map (·.2)) (itVar 1) (gName1 2) (yesF) (bothV (isiF .str (preVar 2)) (bin2 (cmpD .in_) (preVar 2) (preVar 0))))))) (callF sem_are_unlike 1 (consP (preVar 1) (nilP)))))
  (bNil)
def sem_are_places : FSem := runDef 2 3 body_are_places
def kw_are_places : List KwPat := []
theorem fn_are_places {P : Program} {w : World} {K : PySem.W.Frag} {mg : Str → Option Value} {base : Heap} (T : Tops K mg) : FnAt P w K mg base 2 "are_places" 2 kw_are_places sem_are_places := by
  refine T.d_are_places.fn (k := 1) sc_are_places T.free (fun X e1 e2 e3 e4 e5 cx => ?_) (fun _ _ _ _ _ _ us hl => match us, hl with | [_, _], _ => rfl) (fun q hq => by simp [kw_are_places] at hq)
  subst e1 e2 e3 e4 e5
  exact sb_cons (ss_ret (sv_and (vAll cx rfl (now (frz (fLc cx [("place", 2)] rfl rfl (fun _ => rfl) (it_var cx (i := 1) rfl rfl rfl rfl) (fun _ cx' => tg_name cx' (i := 2) rfl rfl rfl) (fun _ cx' => sts_nil) (fun _ cx' => sv_and (vIsi cx' .str rfl rfl rfl (nP cx' (i := 2) rfl rfl rfl rfl) rfl) (sv_one (vCmp cx' .in_ (nP cx' (i := 2) rfl rfl rfl rfl) (nP cx' (i := 0) rfl rfl rfl rfl) rfl)))))) rfl) (sv_one (sv_call cx (fn_are_unlike T) (by decide) (cx.gl rfl) rfl (sa_cons (nP cx (i := 1) rfl rfl rfl rfl) rfl (sa_nil)) (fun y hy => by simp only [List.mem_cons, List.not_mem_nil, or_false] at hy; rcases hy with rfl <;> rfl)))))
    (sb_nil)
theorem sc_is_order : FnScope ["web", "thing"] ["web", "thing"] (defScope st_is_order) := ⟨rfl, rfl, rfl, by decide +kernel, rfl, by decide +kernel, by decide +kernel⟩
def body_is_order : State → Option (Out × State) := bCons (retF (bothV (callF sem_is_row_of 3 (consP (preVar 1) (consP (nowF (un1 lenD (nowF (bin2 idxD (preVar 0) (nowF (conF (.int 0))))))) (consP (nowF (un1 lenD (nowF (bin2 idxD (preVar 0) (nowF (conF (.int 0))))))) (nilP))))) (callF sem_are_places 2 (consP (nowF (bin2 idxD (preVar 0) (nowF (conF (.int 0))))) (consP (preVar 1) (nilP))))))
  (bNil)
def sem_is_order : FSem := runDef 2 2 body_is_order
def kw_is_order : List KwPat := []
theorem fn_is_order {P : Program} {w : World} {K : PySem.W.Frag} {mg : Str → Option Value} {base : Heap} (T : Tops K mg) : FnAt P w K mg base 3 "is_order" 2 kw_is_order sem_is_order := by
  refine T.d_is_order.fn (k := 2) sc_is_order T.free (fun X e1 e2 e3 e4 e5 cx => ?_) (fun _ _ _ _ _ _ us hl => match us, hl with | [_, _], _ => rfl) (fun q hq => by simp [kw_is_order] at hq)
  subst e1 e2 e3 e4 e5
  exact sb_cons (ss_ret (sv_and (sv_call cx (fn_is_row_of T) (by decide) (cx.gl rfl) rfl (sa_cons (nP cx (i := 1) rfl rfl rfl rfl) rfl (sa_cons (now (vLen cx rfl (now (vIx cx (nP cx (i := 0) rfl rfl rfl rfl) (now (cI)) rfl)) rfl)) rfl (sa_cons (now (vLen cx rfl (now (vIx cx (nP cx (i := 0) rfl rfl rfl rfl) (now (cI)) rfl)) rfl)) rfl (sa_nil)))) (fun y hy => by simp only [List.mem_cons, List.not_mem_nil, or_false] at hy; rcases hy with rfl | rfl | rfl <;> rfl)) (sv_one (sv_call cx (fn_are_places T) (by decide) (cx.gl rfl) rfl (sa_cons (now (vIx cx (nP cx (i := 0) rfl rfl rfl rfl) (now (cI)) rfl)) rfl (sa_cons (nP cx (i := 1) rfl rfl rfl rfl) rfl (sa_nil))) (fun y hy => by simp only [List.mem_cons, List.not_mem_nil, or_false] at hy; rcases hy with rfl | rfl <;> rfl)))))
    (sb_nil)
theorem sc_need_order : FnScope ["web", "order"] ["web", "order"] (defScope st_need_order) := ⟨rfl, rfl, rfl, by decide +kernel, rfl, by decide +kernel, by decide +kernel⟩
def body_need_order : State → Option (Out × State) := bCons (sIf (notT (tst1 (nowF (callF sem_is_order 2 (consP (preVar 0) (consP (preVar 1) (nilP)))))))
  (bCons (neverF)
  (bNil))
  (bNil))
  (bNil)
def sem_need_order : FSem := runDef 2 2 body_need_order
def kw_need_order : List KwPat := []
theorem fn_need_order {P : Program} {w : World} {K : PySem.W.Frag} {mg : Str → Option Value} {base : Heap} (T : Tops K mg) : FnAt P w K mg base 4 "need_order" 2 kw_need_order sem_need_order := by
  refine T.d_need_order.fn (k := 3) sc_need_order T.free (fun X e1 e2 e3 e4 e5 cx => ?_) (fun _ _ _ _ _ _ us hl => match us, hl with | [_, _], _ => rfl) (fun q hq => by simp [kw_need_order] at hq)
  subst e1 e2 e3 e4 e5
  exact sb_cons (ss_if (tNot (st_pre (now (sv_call cx (fn_is_order T) (by decide) (cx.gl rfl) rfl (sa_cons (nP cx (i := 0) rfl rfl rfl rfl) rfl (sa_cons (nP cx (i := 1) rfl rfl rfl rfl) rfl (sa_nil))) (fun y hy => by simp only [List.mem_cons, List.not_mem_nil, or_false] at hy; rcases hy with rfl | rfl <;> rfl))) rfl))
    (sb_cons (ss_never)
    (sb_nil))
    (sb_nil))
    (sb_nil)
theorem sc_is_road : FnScope ["places", "thing"] ["places", "thing"] (defScope st_is_road) := ⟨rfl, rfl, rfl, by decide +kernel, rfl, by decide +kernel, by decide +kernel⟩
def body_is_road : State → Option (Out × State) := bCons (retF (bothV (callF sem_is_row_of 3 (consP (preVar 1) (consP (nowF (conF (.int 2))) (consP (nowF (conF (.int 2))) (nilP))))) (callF sem_are_places 2 (consP (preVar 0) (consP (preVar 1) (nilP))))))
  (bNil)
def sem_is_road : FSem := runDef 2 2 body_is_road
def kw_is_road : List KwPat := []
theorem fn_is_road {P : Program} {w : World} {K : PySem.W.Frag} {mg : Str → Option Value} {base : Heap} (T : Tops K mg) : FnAt P w K mg base 3 "is_road" 2 kw_is_road sem_is_road := by
  refine T.d_is_road.fn (k := 2) sc_is_road T.free (fun X e1 e2 e3 e4 e5 cx => ?_) (fun _ _ _ _ _ _ us hl => match us, hl with | [_, _], _ => rfl) (fun q hq => by simp [kw_is_road] at hq)
  subst e1 e2 e3 e4 e5
  exact sb_cons (ss_ret (sv_and (sv_call cx (fn_is_row_of T) (by decide) (cx.gl rfl) rfl (sa_cons (nP cx (i := 1) rfl rfl rfl rfl) rfl (sa_cons (now (cI)) rfl (sa_cons (now (cI)) rfl (sa_nil)))) (fun y hy => by simp only [List.mem_cons, List.not_mem_nil, or_false] at hy; rcases hy with rfl | rfl | rfl <;> rfl)) (sv_one (sv_call cx (fn_are_places T) (by decide) (cx.gl rfl) rfl (sa_cons (nP cx (i := 0) rfl rfl rfl rfl) rfl (sa_cons (nP cx (i := 1) rfl rfl rfl rfl) rfl (sa_nil))) (fun y hy => by simp only [List.mem_cons, List.not_mem_nil, or_false] at hy; rcases hy with rfl | rfl <;> rfl)))))
    (sb_nil)
theorem sc_is_name : FnScope ["thing", "sign"] ["thing"] (defScope st_is_name) := ⟨rfl, rfl, rfl, by decide +kernel, rfl, by decide +kernel, by decide +kernel⟩
def body_is_name : State → Option (Out × State) := bCons (sIf (either (notT (tst1 (nowF (isiF .str (preVar 0))))) (either (notT (chain3 .le .le (nowF (conF (.int 1))) (nowF (un1 lenD (preVar 0))) (nowF (conF (.int 8))))) (bin2 (cmpop .nin) (nowF (bin2 idxD (preVar 0) (nowF (conF (.int 0))))) (nowF (conF (.str "abcdefghijklmnopqrstuvwxyz"))))))
  (bCons (retF (conF (.bool false)))
  (bNil))
  (bNil))
  (bCons (retF (un1 allD (nowF (frzF (lcF (([("sign", 1)] : List (Str × Nat)).map (·.2)) (itVar 0) (gName1 1) (yesF) (eitherV (bin2 (cmpD .in_) (preVar 1) (nowF (conF (.str "abcdefghijklmnopqrstuvwxyz")))) (bin2 (cmpD .in_) (preVar 1) (nowF (conF (.str "0123456789"))))))))))
  (bNil))
def sem_is_name : FSem := runDef 1 2 body_is_name
def kw_is_name : List KwPat := []
theorem fn_is_name {P : Program} {w : World} {K : PySem.W.Frag} {mg : Str → Option Value} {base : Heap} (T : Tops K mg) : FnAt P w K mg base 1 "is_name" 1 kw_is_name sem_is_name := by
  refine T.d_is_name.fn (k := 0) sc_is_name T.free (fun X e1 e2 e3 e4 e5 cx => ?_) (fun _ _ _ _ _ _ us hl => match us, hl with | [_], _ => rfl) (fun q hq => by simp [kw_is_name] at hq)
  subst e1 e2 e3 e4 e5
  exact sb_cons (ss_if (SWh.st (sw_or (tNot (st_pre (now (vIsi cx .str rfl rfl rfl (nP cx (i := 0) rfl rfl rfl rfl) rfl)) rfl)) (sw_or (tNot (tChn cx .le .le (now (cI)) (now (vLen cx rfl (nP cx (i := 0) rfl rfl rfl rfl) rfl)) (now (gI cx rfl T.k_MOST_SIGNS rfl)) rfl)) (tOr1 (tCmp cx .nin (now (vIx cx (nP cx (i := 0) rfl rfl rfl rfl) (now (cI)) rfl)) (now (gS cx rfl T.k_LETTERS rfl)) rfl)))))
    (sb_cons (ss_ret (cB))
    (sb_nil))
    (sb_nil))
    (sb_cons (ss_ret (vAll cx rfl (now (frz (fLc cx [("sign", 1)] rfl rfl (fun _ => rfl) (it_var cx (i := 0) rfl rfl rfl rfl) (fun _ cx' => tg_name cx' (i := 1) rfl rfl rfl) (fun _ cx' => sts_nil) (fun _ cx' => sv_or (vCmp cx' .in_ (nP cx' (i := 1) rfl rfl rfl rfl) (now (gS cx' rfl T.k_LETTERS rfl)) rfl) (sv_one (vCmp cx' .in_ (nP cx' (i := 1) rfl rfl rfl rfl) (now (gS cx' rfl T.k_DIGITS rfl)) rfl)))))) rfl))
    (sb_nil))
theorem sc_is_web_form : FnScope ["thing", "places", "roads", "road", "place"] ["thing"] (defScope st_is_web_form) := ⟨rfl, rfl, rfl, by decide +kernel, rfl, by decide +kernel, by decide +kernel⟩
def body_is_web_form : State → Option (Out × State) := bCons (sIf (either (notT (tst1 (nowF (callF sem_is_row_of 3 (consP (preVar 0) (consP (nowF (conF (.int 2))) (consP (nowF (conF (.int 2))) (nilP)))))))) (notT (tst1 (nowF (callF sem_is_row_of 3 (consP (nowF (bin2 idxD (preVar 0) (nowF (conF (.int 0))))) (consP (nowF (conF (.int 1))) (consP (nowF (conF (.int 8))) (nilP)))))))))
  (bCons (retF (conF (.bool false)))
  (bNil))
  (bNil))
  (bCons (asgT (gTup1 2 (gCons1 (gName1 1) (gCons1 (gName1 2) (gNil1)))) (lkF 0))
  (bCons (sIf (either (notT (tst1 (nowF (un1 allD (nowF (frzF (lcF (([("place", 4)] : List (Str × Nat)).map (·.2)) (itVar 1) (gName1 4) (yesF) (callF sem_is_name 1 (consP (preVar 4) (nilP)))))))))) (notT (tst1 (nowF (callF sem_are_unlike 1 (consP (preVar 1) (nilP)))))))
  (bCons (retF (conF (.bool false)))
  (bNil))
  (bNil))
  (bCons (sIf (either (notT (tst1 (nowF (callF sem_is_row_of 3 (consP (preVar 2) (consP (nowF (conF (.int 0))) (consP (nowF (conF (.int 14))) (nilP)))))))) (notT (tst1 (nowF (un1 allD (nowF (frzF (lcF (([("road", 3)] : List (Str × Nat)).map (·.2)) (itVar 2) (gName1 3) (yesF) (callF sem_is_road 2 (consP (preVar 1) (consP (preVar 3) (nilP))))))))))))
  (bCons (retF (conF (.bool false)))
  (bNil))
  (bNil))
  (bCons (retF (callF sem_are_unlike 1 (consP (nowF (frzF (lcF (([("road", 3)] : List (Str × Nat)).map (·.2)) (itVar 2) (gName1 3) (yesF) (un1 tupleD (nowF (frzF (un1 sortedL (preVar 3)))))))) (nilP))))
  (bNil)))))
def sem_is_web_form : FSem := runDef 1 5 body_is_web_form
def kw_is_web_form : List KwPat := []
theorem fn_is_web_form {P : Program} {w : World} {K : PySem.W.Frag} {mg : Str → Option Value} {base : Heap} (T : Tops K mg) : FnAt P w K mg base 4 "is_web_form" 1 kw_is_web_form sem_is_web_form := by
  refine T.d_is_web_form.fn (k := 3) sc_is_web_form T.free (fun X e1 e2 e3 e4 e5 cx => ?_) (fun _ _ _ _ _ _ us hl => match us, hl with | [_], _ => rfl) (fun q hq => by simp [kw_is_web_form] at hq)
  subst e1 e2 e3 e4 e5
  exact sb_cons (ss_if (SWh.st (sw_or (tNot (st_pre (now (sv_call cx (fn_is_row_of T) (by decide) (cx.gl rfl) rfl (sa_cons (nP cx (i := 0) rfl rfl rfl rfl) rfl (sa_cons (now (cI)) rfl (sa_cons (now (cI)) rfl (sa_nil)))) (fun y hy => by simp only [List.mem_cons, List.not_mem_nil, or_false] at hy; rcases hy with rfl | rfl | rfl <;> rfl))) rfl)) (tOr1 (tNot (st_pre (now (sv_call cx (fn_is_row_of T) (by decide) (cx.gl rfl) rfl (sa_cons (now (vIx cx (nP cx (i := 0) rfl rfl rfl rfl) (now (cI)) rfl)) rfl (sa_cons (now (cI)) rfl (sa_cons (now (gI cx rfl T.k_MOST_PLACES rfl)) rfl (sa_nil)))) (fun y hy => by simp only [List.mem_cons, List.not_mem_nil, or_false] at hy; rcases hy with rfl | rfl | rfl <;> rfl))) rfl)))))
    (sb_cons (ss_ret (cB))
    (sb_nil))
    (sb_nil))
    (sb_cons (ss_asg (nV cx (i := 0) rfl rfl rfl rfl) (tg_tup cx.calm (tgs_cons (tg_name cx (i := 1) rfl rfl rfl) rfl (tgs_cons (tg_name cx (i := 2) rfl rfl rfl) rfl (tgs_nil))) rfl rfl) rfl rfl rfl)
    (sb_cons (ss_if (SWh.st (sw_or (tNot (st_pre (now (vAll cx rfl (now (frz (fLc cx [("place", 4)] rfl rfl (fun _ => rfl) (it_var cx (i := 1) rfl rfl rfl rfl) (fun _ cx' => tg_name cx' (i := 4) rfl rfl rfl) (fun _ cx' => sts_nil) (fun _ cx' => sv_call cx' (fn_is_name T) (by decide) (cx'.gl rfl) rfl (sa_cons (nP cx' (i := 4) rfl rfl rfl rfl) rfl (sa_nil)) (fun y hy => by simp only [List.mem_cons, List.not_mem_nil, or_false] at hy; rcases hy with rfl <;> rfl))))) rfl)) rfl)) (tOr1 (tNot (st_pre (now (sv_call cx (fn_are_unlike T) (by decide) (cx.gl rfl) rfl (sa_cons (nP cx (i := 1) rfl rfl rfl rfl) rfl (sa_nil)) (fun y hy => by simp only [List.mem_cons, List.not_mem_nil, or_false] at hy; rcases hy with rfl <;> rfl))) rfl)))))
    (sb_cons (ss_ret (cB))
    (sb_nil))
    (sb_nil))
    (sb_cons (ss_if (SWh.st (sw_or (tNot (st_pre (now (sv_call cx (fn_is_row_of T) (by decide) (cx.gl rfl) rfl (sa_cons (nP cx (i := 2) rfl rfl rfl rfl) rfl (sa_cons (now (cI)) rfl (sa_cons (now (gI cx rfl T.k_MOST_ROADS rfl)) rfl (sa_nil)))) (fun y hy => by simp only [List.mem_cons, List.not_mem_nil, or_false] at hy; rcases hy with rfl | rfl | rfl <;> rfl))) rfl)) (tOr1 (tNot (st_pre (now (vAll cx rfl (now (frz (fLc cx [("road", 3)] rfl rfl (fun _ => rfl) (it_var cx (i := 2) rfl rfl rfl rfl) (fun _ cx' => tg_name cx' (i := 3) rfl rfl rfl) (fun _ cx' => sts_nil) (fun _ cx' => sv_call cx' (fn_is_road T) (by decide) (cx'.gl rfl) rfl (sa_cons (nP cx' (i := 1) rfl rfl rfl rfl) rfl (sa_cons (nP cx' (i := 3) rfl rfl rfl rfl) rfl (sa_nil))) (fun y hy => by simp only [List.mem_cons, List.not_mem_nil, or_false] at hy; rcases hy with rfl | rfl <;> rfl))))) rfl)) rfl)))))
    (sb_cons (ss_ret (cB))
    (sb_nil))
    (sb_nil))
    (sb_cons (ss_ret (sv_call cx (fn_are_unlike T) (by decide) (cx.gl rfl) rfl (sa_cons (now (frz (fLc cx [("road", 3)] rfl rfl (fun _ => rfl) (it_var cx (i := 2) rfl rfl rfl rfl) (fun _ cx' => tg_name cx' (i := 3) rfl rfl rfl) (fun _ cx' => sts_nil) (fun _ cx' => vTuple cx' rfl (now (frz (fSorted cx' rfl (nP cx' (i := 3) rfl rfl rfl rfl) rfl))) rfl)))) rfl (sa_nil)) (fun y hy => by simp only [List.mem_cons, List.not_mem_nil, or_false] at hy; rcases hy with rfl <;> rfl)))
    (sb_nil)))))
theorem sc_need_web : FnScope ["web"] ["web"] (defScope st_need_web) := ⟨rfl, rfl, rfl, by decide +kernel, rfl, by decide +kernel, by decide +kernel⟩
def body_need_web : State → Option (Out × State) := bCons (sIf (notT (tst1 (nowF (callF sem_is_web_form 1 (consP (preVar 0) (nilP))))))
  (bCons (neverF)
  (bNil))
  (bNil))
  (bNil)
def sem_need_web : FSem := runDef 1 1 body_need_web
def kw_need_web : List KwPat := []
theorem fn_need_web {P : Program} {w : World} {K : PySem.W.Frag} {mg : Str → Option Value} {base : Heap} (T : Tops K mg) : FnAt P w K mg base 5 "need_web" 1 kw_need_web sem_need_web := by
  refine T.d_need_web.fn (k := 4) sc_need_web T.free (fun X e1 e2 e3 e4 e5 cx => ?_) (fun _ _ _ _ _ _ us hl => match us, hl with | [_], _ => rfl) (fun q hq => by simp [kw_need_web] at hq)
  subst e1 e2 e3 e4 e5
  exact sb_cons (ss_if (tNot (st_pre (now (sv_call cx (fn_is_web_form T) (by decide) (cx.gl rfl) rfl (sa_cons (nP cx (i := 0) rfl rfl rfl rfl) rfl (sa_nil)) (fun y hy => by simp only [List.mem_cons, List.not_mem_nil, or_false] at hy; rcases hy with rfl <;> rfl))) rfl))
    (sb_cons (ss_never)
    (sb_nil))
    (sb_nil))
    (sb_nil)
theorem sc_need_two_orders : FnScope ["web", "order", "other"] ["web", "order", "other"] (defScope st_need_two_orders) := ⟨rfl, rfl, rfl, by decide +kernel, rfl, by decide +kernel, by decide +kernel⟩
def body_need_two_orders : State → Option (Out × State) := bCons (dropF (callF sem_need_web 1 (consP (preVar 0) (nilP))))
  (bCons (dropF (callF sem_need_order 2 (consP (preVar 0) (consP (preVar 1) (nilP)))))
  (bCons (dropF (callF sem_need_order 2 (consP (preVar 0) (consP (preVar 2) (nilP)))))
  (bNil)))
def sem_need_two_orders : FSem := runDef 3 3 body_need_two_orders
def kw_need_two_orders : List KwPat := []
theorem fn_need_two_orders {P : Program} {w : World} {K : PySem.W.Frag} {mg : Str → Option Value} {base : Heap} (T : Tops K mg) : FnAt P w K mg base 6 "need_two_orders" 3 kw_need_two_orders sem_need_two_orders := by
  refine T.d_need_two_orders.fn (k := 5) sc_need_two_orders T.free (fun X e1 e2 e3 e4 e5 cx => ?_) (fun _ _ _ _ _ _ us hl => match us, hl with | [_, _, _], _ => rfl) (fun q hq => by simp [kw_need_two_orders] at hq)
  subst e1 e2 e3 e4 e5
  exact sb_cons (ss_expr (sv_call cx (fn_need_web T) (by decide) (cx.gl rfl) rfl (sa_cons (nP cx (i := 0) rfl rfl rfl rfl) rfl (sa_nil)) (fun y hy => by simp only [List.mem_cons, List.not_mem_nil, or_false] at hy; rcases hy with rfl <;> rfl)) rfl)
    (sb_cons (ss_expr (sv_call cx (fn_need_order T) (by decide) (cx.gl rfl) rfl (sa_cons (nP cx (i := 0) rfl rfl rfl rfl) rfl (sa_cons (nP cx (i := 1) rfl rfl rfl rfl) rfl (sa_nil))) (fun y hy => by simp only [List.mem_cons, List.not_mem_nil, or_false] at hy; rcases hy with rfl | rfl <;> rfl)) rfl)
    (sb_cons (ss_expr (sv_call cx (fn_need_order T) (by decide) (cx.gl rfl) rfl (sa_cons (nP cx (i := 0) rfl rfl rfl rfl) rfl (sa_cons (nP cx (i := 2) rfl rfl rfl rfl) rfl (sa_nil))) (fun y hy => by simp only [List.mem_cons, List.not_mem_nil, or_false] at hy; rcases hy with rfl | rfl <;> rfl)) rfl)
    (sb_nil)))
theorem sc_exchanges_hold : FnScope ["web", "order", "other", "thing"] ["web", "order", "other", "thing"] (defScope st_exchanges_hold) := ⟨rfl, rfl, rfl, by decide +kernel, rfl, by decide +kernel, by decide +kernel⟩
def body_exchanges_hold : State → Option (Out × State) := bCons (dropF (callF sem_need_two_orders 3 (consP (preVar 0) (consP (preVar 1) (consP (preVar 2) (nilP))))))
  (bCons (retF (callF sem_path_right 4 (consP (preVar 0) (consP (preVar 1) (consP (preVar 2) (consP (preVar 3) (nilP)))))))
  (bNil))
def sem_exchanges_hold : FSem := runDef 4 4 body_exchanges_hold
def kw_exchanges_hold_0 : KwPat := ⟨["thing", "other", "order", "web"], [3, 2, 1, 0]⟩
def kw_exchanges_hold : List KwPat := [kw_exchanges_hold_0]
theorem fn_exchanges_hold {P : Program} {w : World} {K : PySem.W.Frag} {mg : Str → Option Value} {base : Heap} (T : Tops K mg) : FnAt P w K mg base 7 "exchanges_hold" 4 kw_exchanges_hold sem_exchanges_hold := by
  refine T.d_exchanges_hold.fn (k := 6) sc_exchanges_hold T.free (fun X e1 e2 e3 e4 e5 cx => ?_) (fun _ _ _ _ _ _ us hl => match us, hl with | [_, _, _, _], _ => rfl) (fun q hq kV doc pm an cdv ct ws hl => by
    simp only [kw_exchanges_hold, List.mem_cons, List.not_mem_nil, or_false] at hq
    subst hq
    exact match ws, hl with | [_, _, _, _], _ => rfl)
  subst e1 e2 e3 e4 e5
  exact sb_cons (ss_expr (sv_call cx (fn_need_two_orders T) (by decide) (cx.gl rfl) rfl (sa_cons (nP cx (i := 0) rfl rfl rfl rfl) rfl (sa_cons (nP cx (i := 1) rfl rfl rfl rfl) rfl (sa_cons (nP cx (i := 2) rfl rfl rfl rfl) rfl (sa_nil)))) (fun y hy => by simp only [List.mem_cons, List.not_mem_nil, or_false] at hy; rcases hy with rfl | rfl | rfl <;> rfl)) rfl)
    (sb_cons (ss_ret (sv_call cx (fn_path_right T) (by decide) (cx.gl rfl) rfl (sa_cons (nP cx (i := 0) rfl rfl rfl rfl) rfl (sa_cons (nP cx (i := 1) rfl rfl rfl rfl) rfl (sa_cons (nP cx (i := 2) rfl rfl rfl rfl) rfl (sa_cons (nP cx (i := 3) rfl rfl rfl rfl) rfl (sa_nil))))) (fun y hy => by simp only [List.mem_cons, List.not_mem_nil, or_false] at hy; rcases hy with rfl | rfl | rfl | rfl <;> rfl)))
    (sb_nil))
theorem sc_arrows_of : FnScope ["web", "order", "ranks", "rank", "place", "one", "other"] ["web", "order"] (defScope st_arrows_of) := ⟨rfl, rfl, rfl, by decide +kernel, rfl, by decide +kernel, by decide +kernel⟩
def body_arrows_of : State → Option (Out × State) := bCons (asgV 2 (dfzF (dcF (([("rank", 3), ("place", 4)] : List (Str × Nat)).map (·.2)) (itR enumA (consF (lkF 1) (nilL))) (gTup1 2 (gCons1 (gName1 3) (gCons1 (gName1 4) (gNil1)))) (yesF) (lkF 4) (lkF 3))))
  (bCons (retF (un1 tupleD (nowF (frzF (lcF (([("one", 5), ("other", 6)] : List (Str × Nat)).map (·.2)) (itF (bin2 idxD (preVar 0) (nowF (conF (.int 1))))) (gTup1 2 (gCons1 (gName1 5) (gCons1 (gName1 6) (gNil1)))) (yesF) (ifF (bin2 (cmpop .lt) (nowF (bin2 idxD (preVar 2) (preVar 5))) (nowF (bin2 idxD (preVar 2) (preVar 6)))) (tupF (consF (lkF 5) (consF (lkF 6) (nilL)))) (tupF (consF (lkF 6) (consF (lkF 5) (nilL))))))))))
  (bNil))
def sem_arrows_of : FSem := runDef 2 7 body_arrows_of
def kw_arrows_of : List KwPat := []
theorem fn_arrows_of {P : Program} {w : World} {K : PySem.W.Frag} {mg : Str → Option Value} {base : Heap} (T : Tops K mg) : FnAt P w K mg base 1 "arrows_of" 2 kw_arrows_of sem_arrows_of := by
  refine T.d_arrows_of.fn (k := 0) sc_arrows_of T.free (fun X e1 e2 e3 e4 e5 cx => ?_) (fun _ _ _ _ _ _ us hl => match us, hl with | [_, _], _ => rfl) (fun q hq => by simp [kw_arrows_of] at hq)
  subst e1 e2 e3 e4 e5
  exact sb_cons (ss_setV cx (i := 2) rfl rfl rfl (cx.sw rfl) (dfz (dDc cx [("rank", 3), ("place", 4)] rfl rfl (fun _ => rfl) (it_enumA cx rfl (sl_cons (nV cx (i := 1) rfl rfl rfl rfl) rfl (lN)) rfl) (fun _ cx' => tg_tup cx'.calm (tgs_cons (tg_name cx' (i := 3) rfl rfl rfl) rfl (tgs_cons (tg_name cx' (i := 4) rfl rfl rfl) rfl (tgs_nil))) rfl rfl) (fun _ cx' => sts_nil) (fun _ cx' => nV cx' (i := 4) rfl rfl rfl rfl) (fun _ cx' => nV cx' (i := 3) rfl rfl rfl rfl))))
    (sb_cons (ss_ret (vTuple cx rfl (now (frz (fLc cx [("one", 5), ("other", 6)] rfl rfl (fun _ => rfl) (it_seq (vIx cx (nP cx (i := 0) rfl rfl rfl rfl) (now (cI)) rfl)) (fun _ cx' => tg_tup cx'.calm (tgs_cons (tg_name cx' (i := 5) rfl rfl rfl) rfl (tgs_cons (tg_name cx' (i := 6) rfl rfl rfl) rfl (tgs_nil))) rfl rfl) (fun _ cx' => sts_nil) (fun _ cx' => vIf (tCmp cx' .lt (now (vIx cx' (nP cx' (i := 2) rfl rfl rfl rfl) (nP cx' (i := 5) rfl rfl rfl rfl) rfl)) (now (vIx cx' (nP cx' (i := 2) rfl rfl rfl rfl) (nP cx' (i := 6) rfl rfl rfl rfl) rfl)) rfl) (sv_tup (sl_cons (nV cx' (i := 5) rfl rfl rfl rfl) rfl (sl_cons (nV cx' (i := 6) rfl rfl rfl rfl) rfl (lN)))) (sv_tup (sl_cons (nV cx' (i := 6) rfl rfl rfl rfl) rfl (sl_cons (nV cx' (i := 5) rfl rfl rfl rfl) rfl (lN)))))))) rfl))
    (sb_nil))
theorem sc_are_alike : FnScope ["web", "order", "other"] ["web", "order", "other"] (defScope st_are_alike) := ⟨rfl, rfl, rfl, by decide +kernel, rfl, by decide +kernel, by decide +kernel⟩
def body_are_alike : State → Option (Out × State) := bCons (dropF (callF sem_need_two_orders 3 (consP (preVar 0) (consP (preVar 1) (consP (preVar 2) (nilP))))))
  (bCons (retF (bin2 (cmpD .eq) (nowF (callF sem_arrows_of 2 (consP (preVar 0) (consP (preVar 1) (nilP))))) (nowF (callF sem_arrows_of 2 (consP (preVar 0) (consP (preVar 2) (nilP)))))))
  (bNil))
def sem_are_alike : FSem := runDef 3 3 body_are_alike
def kw_are_alike : List KwPat := []
theorem fn_are_alike {P : Program} {w : World} {K : PySem.W.Frag} {mg : Str → Option Value} {base : Heap} (T : Tops K mg) : FnAt P w K mg base 7 "are_alike" 3 kw_are_alike sem_are_alike := by
  refine T.d_are_alike.fn (k := 6) sc_are_alike T.free (fun X e1 e2 e3 e4 e5 cx => ?_) (fun _ _ _ _ _ _ us hl => match us, hl with | [_, _, _], _ => rfl) (fun q hq => by simp [kw_are_alike] at hq)
  subst e1 e2 e3 e4 e5
  exact sb_cons (ss_expr (sv_call cx (fn_need_two_orders T) (by decide) (cx.gl rfl) rfl (sa_cons (nP cx (i := 0) rfl rfl rfl rfl) rfl (sa_cons (nP cx (i := 1) rfl rfl rfl rfl) rfl (sa_cons (nP cx (i := 2) rfl rfl rfl rfl) rfl (sa_nil)))) (fun y hy => by simp only [List.mem_cons, List.not_mem_nil, or_false] at hy; rcases hy with rfl | rfl | rfl <;> rfl)) rfl)
    (sb_cons (ss_ret (vCmp cx .eq (now (sv_call cx (fn_arrows_of T) (by decide) (cx.gl rfl) rfl (sa_cons (nP cx (i := 0) rfl rfl rfl rfl) rfl (sa_cons (nP cx (i := 1) rfl rfl rfl rfl) rfl (sa_nil))) (fun y hy => by simp only [List.mem_cons, List.not_mem_nil, or_false] at hy; rcases hy with rfl | rfl <;> rfl))) (now (sv_call cx (fn_arrows_of T) (by decide) (cx.gl rfl) rfl (sa_cons (nP cx (i := 0) rfl rfl rfl rfl) rfl (sa_cons (nP cx (i := 2) rfl rfl rfl rfl) rfl (sa_nil))) (fun y hy => by simp only [List.mem_cons, List.not_mem_nil, or_false] at hy; rcases hy with rfl | rfl <;> rfl))) rfl))
    (sb_nil))
theorem sc__law_otherwise : FnScope ["one", "other", "found", "at", "place", "later"] ["one", "other"] (defScope st__law_otherwise) := ⟨rfl, rfl, rfl, by decide +kernel, rfl, by decide +kernel, by decide +kernel⟩
def body__law_otherwise : State → Option (Out × State) := bCons (asgV 2 (conF (.int 0)))
  (bCons (forF (itR enumA (consF (lkF 0) (nilL))) (gTup1 2 (gCons1 (gName1 3) (gCons1 (gName1 4) (gNil1))))
  (bCons (asgV 2 (bin2 (binop .add) (preVar 2) (nowF (un1 lenD (nowF (frzF (lcF (([("later", 5)] : List (Str × Nat)).map (·.2)) (itF (slice3 sliceD (preVar 0) (partF (nowF (bin2 (binop .add) (preVar 3) (nowF (conF (.int 1)))))) (nonP))) (gName1 5) (bin2 (cmpop .lt) (nowF (idxM (lkF 1) (preVar 5))) (nowF (idxM (lkF 1) (preVar 4)))) (conF (.int 1)))))))))
  (bNil)))
  (bCons (retF (lkF 2))
  (bNil)))
def sem__law_otherwise : FSem := runDef 2 6 body__law_otherwise
def kw__law_otherwise : List KwPat := []
theorem fn__law_otherwise {P : Program} {w : World} {K : PySem.W.Frag} {mg : Str → Option Value} {base : Heap} (T : Tops K mg) : FnAt P w K mg base 1 "_law_otherwise" 2 kw__law_otherwise sem__law_otherwise := by
  refine T.d__law_otherwise.fn (k := 0) sc__law_otherwise T.free (fun X e1 e2 e3 e4 e5 cx => ?_) (fun _ _ _ _ _ _ us hl => match us, hl with | [_, _], _ => rfl) (fun q hq => by simp [kw__law_otherwise] at hq)
  subst e1 e2 e3 e4 e5
  exact sb_cons (ss_setV cx (i := 2) rfl rfl rfl rfl (cI))
    (sb_cons (ss_for cx (it_enumA cx rfl (sl_cons (nV cx (i := 0) rfl rfl rfl rfl) rfl (lN)) rfl) (tg_tup cx.calm (tgs_cons (tg_name cx (i := 3) rfl rfl rfl) rfl (tgs_cons (tg_name cx (i := 4) rfl rfl rfl) rfl (tgs_nil))) rfl rfl)
    (sb_cons (ss_setV cx (i := 2) rfl rfl rfl rfl (vAdd (nP cx (i := 2) rfl rfl rfl rfl) (now (vLen cx rfl (now (frz (fLc cx [("later", 5)] rfl rfl (fun _ => rfl) (it_seq (sv_slice (nP cx (i := 0) rfl rfl rfl rfl) (sp_some (now (vAdd (nP cx (i := 3) rfl rfl rfl rfl) (now (cI))))) (sN))) (fun _ cx' => tg_name cx' (i := 5) rfl rfl rfl) (fun _ cx' => sts_one (tCmp cx' .lt (now (sv_index cx' (nV cx' (i := 1) rfl rfl rfl rfl) (nP cx' (i := 5) rfl rfl rfl rfl) rfl rfl rfl rfl)) (now (sv_index cx' (nV cx' (i := 1) rfl rfl rfl rfl) (nP cx' (i := 4) rfl rfl rfl rfl) rfl rfl rfl rfl)) rfl)) (fun _ cx' => cI)))) rfl))))
    (sb_nil)) (fun _ => rfl))
    (sb_cons (ss_ret (nV cx (i := 2) rfl rfl rfl rfl))
    (sb_nil)))
theorem sc_have_road : FnScope ["web", "place", "other"] ["web", "place", "other"] (defScope st_have_road) := ⟨rfl, rfl, rfl, by decide +kernel, rfl, by decide +kernel, by decide +kernel⟩
def body_have_road : State → Option (Out × State) := bCons (retF (eitherV (bin2 (cmpD .in_) (nowF (tupF (consF (lkF 1) (consF (lkF 2) (nilL))))) (nowF (bin2 idxD (preVar 0) (nowF (conF (.int 1)))))) (bin2 (cmpD .in_) (nowF (tupF (consF (lkF 2) (consF (lkF 1) (nilL))))) (nowF (bin2 idxD (preVar 0) (nowF (conF (.int 1))))))))
  (bNil)
def sem_have_road : FSem := runDef 3 3 body_have_road
def kw_have_road : List KwPat := []
theorem fn_have_road {P : Program} {w : World} {K : PySem.W.Frag} {mg : Str → Option Value} {base : Heap} (T : Tops K mg) : FnAt P w K mg base 1 "have_road" 3 kw_have_road sem_have_road := by
  refine T.d_have_road.fn (k := 0) sc_have_road T.free (fun X e1 e2 e3 e4 e5 cx => ?_) (fun _ _ _ _ _ _ us hl => match us, hl with | [_, _, _], _ => rfl) (fun q hq => by simp [kw_have_road] at hq)
  subst e1 e2 e3 e4 e5
  exact sb_cons (ss_ret (sv_or (vCmp cx .in_ (now (sv_tup (sl_cons (nV cx (i := 1) rfl rfl rfl rfl) rfl (sl_cons (nV cx (i := 2) rfl rfl rfl rfl) rfl (lN))))) (now (vIx cx (nP cx (i := 0) rfl rfl rfl rfl) (now (cI)) rfl)) rfl) (sv_one (vCmp cx .in_ (now (sv_tup (sl_cons (nV cx (i := 2) rfl rfl rfl rfl) rfl (sl_cons (nV cx (i := 1) rfl rfl rfl rfl) rfl (lN))))) (now (vIx cx (nP cx (i := 0) rfl rfl rfl rfl) (now (cI)) rfl)) rfl))))
    (sb_nil)
theorem sc_neighbours_of : FnScope ["web", "place", "other"] ["web", "place"] (defScope st_neighbours_of) := ⟨rfl, rfl, rfl, by decide +kernel, rfl, by decide +kernel, by decide +kernel⟩
def body_neighbours_of : State → Option (Out × State) := bCons (retF (un1 tupleD (nowF (frzF (lcF (([("other", 2)] : List (Str × Nat)).map (·.2)) (itF (bin2 idxD (preVar 0) (nowF (conF (.int 0))))) (gName1 2) (tst1 (nowF (callF sem_have_road 3 (consP (preVar 0) (consP (preVar 1) (consP (preVar 2) (nilP))))))) (lkF 2))))))
  (bNil)
def sem_neighbours_of : FSem := runDef 2 3 body_neighbours_of
def kw_neighbours_of : List KwPat := []
theorem fn_neighbours_of {P : Program} {w : World} {K : PySem.W.Frag} {mg : Str → Option Value} {base : Heap} (T : Tops K mg) : FnAt P w K mg base 2 "neighbours_of" 2 kw_neighbours_of sem_neighbours_of := by
  refine T.d_neighbours_of.fn (k := 1) sc_neighbours_of T.free (fun X e1 e2 e3 e4 e5 cx => ?_) (fun _ _ _ _ _ _ us hl => match us, hl with | [_, _], _ => rfl) (fun q hq => by simp [kw_neighbours_of] at hq)
  subst e1 e2 e3 e4 e5
  exact sb_cons (ss_ret (vTuple cx rfl (now (frz (fLc cx [("other", 2)] rfl rfl (fun _ => rfl) (it_seq (vIx cx (nP cx (i := 0) rfl rfl rfl rfl) (now (cI)) rfl)) (fun _ cx' => tg_name cx' (i := 2) rfl rfl rfl) (fun _ cx' => sts_one (st_pre (now (sv_call cx' (fn_have_road T) (by decide) (cx'.gl rfl) rfl (sa_cons (nP cx' (i := 0) rfl rfl rfl rfl) rfl (sa_cons (nP cx' (i := 1) rfl rfl rfl rfl) rfl (sa_cons (nP cx' (i := 2) rfl rfl rfl rfl) rfl (sa_nil)))) (fun y hy => by simp only [List.mem_cons, List.not_mem_nil, or_false] at hy; rcases hy with rfl | rfl | rfl <;> rfl))) rfl)) (fun _ cx' => nV cx' (i := 2) rfl rfl rfl rfl)))) rfl))
    (sb_nil)
theorem sc_is_place : FnScope ["web", "thing"] ["web", "thing"] (defScope st_is_place) := ⟨rfl, rfl, rfl, by decide +kernel, rfl, by decide +kernel, by decide +kernel⟩
def body_is_place : State → Option (Out × State) := bCons (retF (bothV (isiF .str (preVar 1)) (bin2 (cmpD .in_) (preVar 1) (nowF (bin2 idxD (preVar 0) (nowF (conF (.int 0))))))))
  (bNil)
def sem_is_place : FSem := runDef 2 2 body_is_place
def kw_is_place : List KwPat := []
theorem fn_is_place {P : Program} {w : World} {K : PySem.W.Frag} {mg : Str → Option Value} {base : Heap} (T : Tops K mg) : FnAt P w K mg base 1 "is_place" 2 kw_is_place sem_is_place := by
  refine T.d_is_place.fn (k := 0) sc_is_place T.free (fun X e1 e2 e3 e4 e5 cx => ?_) (fun _ _ _ _ _ _ us hl => match us, hl with | [_, _], _ => rfl) (fun q hq => by simp [kw_is_place] at hq)
  subst e1 e2 e3 e4 e5
  exact sb_cons (ss_ret (sv_and (vIsi cx .str rfl rfl rfl (nP cx (i := 1) rfl rfl rfl rfl) rfl) (sv_one (vCmp cx .in_ (nP cx (i := 1) rfl rfl rfl rfl) (now (vIx cx (nP cx (i := 0) rfl rfl rfl rfl) (now (cI)) rfl)) rfl))))
    (sb_nil)
theorem sc_need_place : FnScope ["web", "place"] ["web", "place"] (defScope st_need_place) := ⟨rfl, rfl, rfl, by decide +kernel, rfl, by decide +kernel, by decide +kernel⟩
def body_need_place : State → Option (Out × State) := bCons (sIf (notT (tst1 (nowF (callF sem_is_place 2 (consP (preVar 0) (consP (preVar 1) (nilP)))))))
  (bCons (neverF)
  (bNil))
  (bNil))
  (bNil)
def sem_need_place : FSem := runDef 2 2 body_need_place
def kw_need_place : List KwPat := []
theorem fn_need_place {P : Program} {w : World} {K : PySem.W.Frag} {mg : Str → Option Value} {base : Heap} (T : Tops K mg) : FnAt P w K mg base 2 "need_place" 2 kw_need_place sem_need_place := by
  refine T.d_need_place.fn (k := 1) sc_need_place T.free (fun X e1 e2 e3 e4 e5 cx => ?_) (fun _ _ _ _ _ _ us hl => match us, hl with | [_, _], _ => rfl) (fun q hq => by simp [kw_need_place] at hq)
  subst e1 e2 e3 e4 e5
  exact sb_cons (ss_if (tNot (st_pre (now (sv_call cx (fn_is_place T) (by decide) (cx.gl rfl) rfl (sa_cons (nP cx (i := 0) rfl rfl rfl rfl) rfl (sa_cons (nP cx (i := 1) rfl rfl rfl rfl) rfl (sa_nil))) (fun y hy => by simp only [List.mem_cons, List.not_mem_nil, or_false] at hy; rcases hy with rfl | rfl <;> rfl))) rfl))
    (sb_cons (ss_never)
    (sb_nil))
    (sb_nil))
    (sb_nil)
theorem sc_neighbours : FnScope ["web", "place"] ["web", "place"] (defScope st_neighbours) := ⟨rfl, rfl, rfl, by decide +kernel, rfl, by decide +kernel, by decide +kernel⟩
def body_neighbours : State → Option (Out × State) := bCons (dropF (callF sem_need_web 1 (consP (preVar 0) (nilP))))
  (bCons (dropF (callF sem_need_place 2 (consP (preVar 0) (consP (preVar 1) (nilP)))))
  (bCons (retF (callF sem_neighbours_of 2 (consP (preVar 0) (consP (preVar 1) (nilP)))))
  (bNil)))
def sem_neighbours : FSem := runDef 2 2 body_neighbours
def kw_neighbours : List KwPat := []
theorem fn_neighbours {P : Program} {w : World} {K : PySem.W.Frag} {mg : Str → Option Value} {base : Heap} (T : Tops K mg) : FnAt P w K mg base 6 "neighbours" 2 kw_neighbours sem_neighbours := by
  refine T.d_neighbours.fn (k := 5) sc_neighbours T.free (fun X e1 e2 e3 e4 e5 cx => ?_) (fun _ _ _ _ _ _ us hl => match us, hl with | [_, _], _ => rfl) (fun q hq => by simp [kw_neighbours] at hq)
  subst e1 e2 e3 e4 e5
  exact sb_cons (ss_expr (sv_call cx (fn_need_web T) (by decide) (cx.gl rfl) rfl (sa_cons (nP cx (i := 0) rfl rfl rfl rfl) rfl (sa_nil)) (fun y hy => by simp only [List.mem_cons, List.not_mem_nil, or_false] at hy; rcases hy with rfl <;> rfl)) rfl)
    (sb_cons (ss_expr (sv_call cx (fn_need_place T) (by decide) (cx.gl rfl) rfl (sa_cons (nP cx (i := 0) rfl rfl rfl rfl) rfl (sa_cons (nP cx (i := 1) rfl rfl rfl rfl) rfl (sa_nil))) (fun y hy => by simp only [List.mem_cons, List.not_mem_nil, or_false] at hy; rcases hy with rfl | rfl <;> rfl)) rfl)
    (sb_cons (ss_ret (sv_call cx (fn_neighbours_of T) (by decide) (cx.gl rfl) rfl (sa_cons (nP cx (i := 0) rfl rfl rfl rfl) rfl (sa_cons (nP cx (i := 1) rfl rfl rfl rfl) rfl (sa_nil))) (fun y hy => by simp only [List.mem_cons, List.not_mem_nil, or_false] at hy; rcases hy with rfl | rfl <;> rfl)))
    (sb_nil)))
theorem sc__law_walked : FnScope ["web", "order", "indexes", "at"] ["web", "order", "indexes"] (defScope st__law_walked) := ⟨rfl, rfl, rfl, by decide +kernel, rfl, by decide +kernel, by decide +kernel⟩
def body__law_walked : State → Option (Out × State) := bCons (forF (itVar 2) (gName1 3)
  (bCons (sIf (either (notT (chain3 .le .lt (nowF (conF (.int 0))) (preVar 3) (nowF (bin2 (binop .sub) (nowF (un1 lenD (preVar 1))) (nowF (conF (.int 1))))))) (bin2 (cmpop .in_) (nowF (bin2 idxD (preVar 1) (nowF (bin2 (binop .add) (preVar 3) (nowF (conF (.int 1))))))) (nowF (callF sem_neighbours 2 (consP (preVar 0) (consP (nowF (bin2 idxD (preVar 1) (preVar 3))) (nilP)))))))
  (bCons (retF (conF .none))
  (bNil))
  (bNil))
  (bCons (asgV 1 (bin2 (binop .add) (nowF (bin2 (binop .add) (nowF (slice3 sliceD (preVar 1) (nonP) (partF (preVar 3)))) (nowF (tupF (consF (bin2 idxD (preVar 1) (nowF (bin2 (binop .add) (preVar 3) (nowF (conF (.int 1)))))) (consF (bin2 idxD (preVar 1) (preVar 3)) (nilL))))))) (nowF (slice3 sliceD (preVar 1) (partF (nowF (bin2 (binop .add) (preVar 3) (nowF (conF (.int 2)))))) (nonP)))))
  (bNil))))
  (bCons (retF (lkF 1))
  (bNil))
def sem__law_walked : FSem := runDef 3 4 body__law_walked
def kw__law_walked : List KwPat := []
theorem fn__law_walked {P : Program} {w : World} {K : PySem.W.Frag} {mg : Str → Option Value} {base : Heap} (T : Tops K mg) : FnAt P w K mg base 7 "_law_walked" 3 kw__law_walked sem__law_walked := by
  refine T.d__law_walked.fn (k := 6) sc__law_walked T.free (fun X e1 e2 e3 e4 e5 cx => ?_) (fun _ _ _ _ _ _ us hl => match us, hl with | [_, _, _], _ => rfl) (fun q hq => by simp [kw__law_walked] at hq)
  subst e1 e2 e3 e4 e5
  exact sb_cons (ss_for cx (it_var cx (i := 2) rfl rfl rfl rfl) (tg_name cx (i := 3) rfl rfl rfl)
    (sb_cons (ss_if (SWh.st (sw_or (tNot (tChn cx .le .lt (now (cI)) (nP cx (i := 3) rfl rfl rfl rfl) (now (vSub (now (vLen cx rfl (nP cx (i := 1) rfl rfl rfl rfl) rfl)) (now (cI)))) rfl)) (tOr1 (tCmp cx .in_ (now (vIx cx (nP cx (i := 1) rfl rfl rfl rfl) (now (vAdd (nP cx (i := 3) rfl rfl rfl rfl) (now (cI)))) rfl)) (now (sv_call cx (fn_neighbours T) (by decide) (cx.gl rfl) rfl (sa_cons (nP cx (i := 0) rfl rfl rfl rfl) rfl (sa_cons (now (vIx cx (nP cx (i := 1) rfl rfl rfl rfl) (nP cx (i := 3) rfl rfl rfl rfl) rfl)) rfl (sa_nil))) (fun y hy => by simp only [List.mem_cons, List.not_mem_nil, or_false] at hy; rcases hy with rfl | rfl <;> rfl))) rfl))))
    (sb_cons (ss_ret (cN))
    (sb_nil))
    (sb_nil))
    (sb_cons (ss_setV cx (i := 1) rfl rfl rfl rfl (vAdd (now (vAdd (now (sv_slice (nP cx (i := 1) rfl rfl rfl rfl) (sN) (sp_some (nP cx (i := 3) rfl rfl rfl rfl)))) (now (sv_tup (sl_cons (vIx cx (nP cx (i := 1) rfl rfl rfl rfl) (now (vAdd (nP cx (i := 3) rfl rfl rfl rfl) (now (cI)))) rfl) rfl (sl_cons (vIx cx (nP cx (i := 1) rfl rfl rfl rfl) (nP cx (i := 3) rfl rfl rfl rfl) rfl) rfl (lN))))))) (now (sv_slice (nP cx (i := 1) rfl rfl rfl rfl) (sp_some (now (vAdd (nP cx (i := 3) rfl rfl rfl rfl) (now (cI))))) (sN)))))
    (sb_nil))) (fun _ => rfl))
    (sb_cons (ss_ret (nV cx (i := 1) rfl rfl rfl rfl))
    (sb_nil))
theorem sc__law_next : FnScope ["spring", "many", "got", "turn", "mixed"] ["spring", "many"] (defScope st__law_next) := ⟨rfl, rfl, rfl, by decide +kernel, rfl, by decide +kernel, by decide +kernel⟩
def body__law_next : State → Option (Out × State) := bCons (sIf (bin2 (cmpop .gt) (nowF (bin2 idxD (preVar 0) (nowF (conF (.int 0))))) (nowF (conF (.int 0))))
  (bCons (asgV 2 (bin2 (binop .mod) (nowF (un1 intD (nowF (bin2 idxD (preVar 0) (nowF (conF (.int 0))))))) (preVar 1)))
  (bCons (setCF 0 (bin2 (binop .fdiv) (nowF (bin2 idxD (preVar 0) (nowF (conF (.int 0))))) (preVar 1)) (nowF (conF (.int 0))))
  (bCons (retF (lkF 2))
  (bNil))))
  (bNil))
  (bCons (asgV 3 (bin2 (binop .add) (nowF (bin2 idxD (preVar 0) (nowF (conF (.int 2))))) (nowF (conF (.int 1)))))
  (bCons (setCF 0 (lkF 3) (nowF (conF (.int 2))))
  (bCons (asgV 4 (bin2 (binop .add) (nowF (bin2 idxD (preVar 0) (nowF (conF (.int 1))))) (nowF (bin2 (binop .mul) (nowF (conF (.int 982451653))) (preVar 3)))))
  (bCons (asgV 4 (bin2 (binop .mod) (nowF (un1 intD (nowF (bin2 (binop .add) (nowF (bin2 (binop .add) (nowF (bin2 (binop .mul) (preVar 4) (preVar 4))) (nowF (bin2 (binop .mul) (nowF (bin2 (binop .mul) (nowF (bin2 (binop .mul) (nowF (conF (.int 57885161))) (preVar 3))) (preVar 3))) (preVar 3))))) (nowF (conF (.int 13))))))) (nowF (bin2 (binop .add) (nowF (bin2 (binop .pow) (nowF (conF (.int 10))) (nowF (conF (.int 43))))) (nowF (conF (.int 73)))))))
  (bCons (asgV 4 (bin2 (binop .mod) (nowF (un1 intD (nowF (bin2 (binop .add) (nowF (bin2 (binop .add) (nowF (bin2 (binop .mul) (preVar 4) (preVar 4))) (nowF (bin2 (binop .mul) (nowF (conF (.int 433494437))) (preVar 4))))) (nowF (bin2 (binop .mul) (nowF (conF (.int 7))) (preVar 3))))))) (nowF (bin2 (binop .add) (nowF (bin2 (binop .pow) (nowF (conF (.int 10))) (nowF (conF (.int 40))))) (nowF (conF (.int 91)))))))
  (bCons (retF (bin2 (binop .mod) (nowF (un1 intD (nowF (bin2 (binop .fdiv) (preVar 4) (nowF (bin2 (binop .pow) (nowF (conF (.int 10))) (nowF (conF (.int 9))))))))) (preVar 1)))
  (bNil)))))))
def sem__law_next : FSem := runDef 2 5 body__law_next
def kw__law_next : List KwPat := []
theorem fn__law_next {P : Program} {w : World} {K : PySem.W.Frag} {mg : Str → Option Value} {base : Heap} (T : Tops K mg) : FnAt P w K mg base 1 "_law_next" 2 kw__law_next sem__law_next := by
  refine T.d__law_next.fn (k := 0) sc__law_next T.free (fun X e1 e2 e3 e4 e5 cx => ?_) (fun _ _ _ _ _ _ us hl => match us, hl with | [_, _], _ => rfl) (fun q hq => by simp [kw__law_next] at hq)
  subst e1 e2 e3 e4 e5
  exact sb_cons (ss_if (tCmp cx .gt (now (vIx cx (nP cx (i := 0) rfl rfl rfl rfl) (now (cI)) rfl)) (now (cI)) rfl)
    (sb_cons (ss_setV cx (i := 2) rfl rfl rfl rfl (vMod (now (vInt cx rfl (now (vIx cx (nP cx (i := 0) rfl rfl rfl rfl) (now (cI)) rfl)) rfl)) (nP cx (i := 1) rfl rfl rfl rfl)))
    (sb_cons (ss_setcell cx (i := 0) rfl rfl rfl rfl rfl rfl (fun _ => rfl) (vDiv (now (vIx cx (nP cx (i := 0) rfl rfl rfl rfl) (now (cI)) rfl)) (nP cx (i := 1) rfl rfl rfl rfl)) (now (cI)))
    (sb_cons (ss_ret (nV cx (i := 2) rfl rfl rfl rfl))
    (sb_nil))))
    (sb_nil))
    (sb_cons (ss_setV cx (i := 3) rfl rfl rfl rfl (vAdd (now (vIx cx (nP cx (i := 0) rfl rfl rfl rfl) (now (cI)) rfl)) (now (cI))))
    (sb_cons (ss_setcell cx (i := 0) rfl rfl rfl rfl rfl rfl (fun _ => rfl) (nV cx (i := 3) rfl rfl rfl rfl) (now (cI)))
    (sb_cons (ss_setV cx (i := 4) rfl rfl rfl rfl (vAdd (now (vIx cx (nP cx (i := 0) rfl rfl rfl rfl) (now (cI)) rfl)) (now (vMul (now (cI)) (nP cx (i := 3) rfl rfl rfl rfl)))))
    (sb_cons (ss_setV cx (i := 4) rfl rfl rfl rfl (vMod (now (vInt cx rfl (now (vAdd (now (vAdd (now (vMul (nP cx (i := 4) rfl rfl rfl rfl) (nP cx (i := 4) rfl rfl rfl rfl))) (now (vMul (now (vMul (now (vMul (now (cI)) (nP cx (i := 3) rfl rfl rfl rfl))) (nP cx (i := 3) rfl rfl rfl rfl))) (nP cx (i := 3) rfl rfl rfl rfl))))) (now (cI)))) rfl)) (now (vAdd (now (vPow (now (cI)) (now (cI)))) (now (cI))))))
    (sb_cons (ss_setV cx (i := 4) rfl rfl rfl rfl (vMod (now (vInt cx rfl (now (vAdd (now (vAdd (now (vMul (nP cx (i := 4) rfl rfl rfl rfl) (nP cx (i := 4) rfl rfl rfl rfl))) (now (vMul (now (cI)) (nP cx (i := 4) rfl rfl rfl rfl))))) (now (vMul (now (cI)) (nP cx (i := 3) rfl rfl rfl rfl))))) rfl)) (now (vAdd (now (vPow (now (cI)) (now (cI)))) (now (cI))))))
    (sb_cons (ss_ret (vMod (now (vInt cx rfl (now (vDiv (nP cx (i := 4) rfl rfl rfl rfl) (now (vPow (now (cI)) (now (cI)))))) rfl)) (nP cx (i := 1) rfl rfl rfl rfl)))
    (sb_nil)))))))
theorem sc__law_pick : FnScope ["spring", "things"] ["spring", "things"] (defScope st__law_pick) := ⟨rfl, rfl, rfl, by decide +kernel, rfl, by decide +kernel, by decide +kernel⟩
def body__law_pick : State → Option (Out × State) := bCons (retF (bin2 idxD (preVar 1) (nowF (callF sem__law_next 2 (consP (preVar 0) (consP (nowF (un1 lenD (preVar 1))) (nilP)))))))
  (bNil)
def sem__law_pick : FSem := runDef 2 2 body__law_pick
def kw__law_pick : List KwPat := []
theorem fn__law_pick {P : Program} {w : World} {K : PySem.W.Frag} {mg : Str → Option Value} {base : Heap} (T : Tops K mg) : FnAt P w K mg base 2 "_law_pick" 2 kw__law_pick sem__law_pick := by
  refine T.d__law_pick.fn (k := 1) sc__law_pick T.free (fun X e1 e2 e3 e4 e5 cx => ?_) (fun _ _ _ _ _ _ us hl => match us, hl with | [_, _], _ => rfl) (fun q hq => by simp [kw__law_pick] at hq)
  subst e1 e2 e3 e4 e5
  exact sb_cons (ss_ret (vIx cx (nP cx (i := 1) rfl rfl rfl rfl) (now (sv_call cx (fn__law_next T) (by decide) (cx.gl rfl) rfl (sa_cons (nP cx (i := 0) rfl rfl rfl rfl) rfl (sa_cons (now (vLen cx rfl (nP cx (i := 1) rfl rfl rfl rfl) rfl)) rfl (sa_nil))) (fun y hy => by simp only [List.mem_cons, List.not_mem_nil, or_false] at hy; rcases hy with rfl | rfl <;> rfl))) rfl))
    (sb_nil)
theorem sc__law_free : FnScope ["web", "order", "at"] ["web", "order"] (defScope st__law_free) := ⟨rfl, rfl, rfl, by decide +kernel, rfl, by decide +kernel, by decide +kernel⟩
def body__law_free : State → Option (Out × State) := bCons (retF (frzF (lcF (([("at", 2)] : List (Str × Nat)).map (·.2)) (itR rng1 (consF (bin2 (binop .sub) (nowF (un1 lenD (preVar 1))) (nowF (conF (.int 1)))) (nilL))) (gName1 2) (bin2 (cmpop .nin) (nowF (bin2 idxD (preVar 1) (nowF (bin2 (binop .add) (preVar 2) (nowF (conF (.int 1))))))) (nowF (callF sem_neighbours 2 (consP (preVar 0) (consP (nowF (bin2 idxD (preVar 1) (preVar 2))) (nilP)))))) (lkF 2))))
  (bNil)
def sem__law_free : FSem := runDef 2 3 body__law_free
def kw__law_free : List KwPat := []
theorem fn__law_free {P : Program} {w : World} {K : PySem.W.Frag} {mg : Str → Option Value} {base : Heap} (T : Tops K mg) : FnAt P w K mg base 7 "_law_free" 2 kw__law_free sem__law_free := by
  refine T.d__law_free.fn (k := 6) sc__law_free T.free (fun X e1 e2 e3 e4 e5 cx => ?_) (fun _ _ _ _ _ _ us hl => match us, hl with | [_, _], _ => rfl) (fun q hq => by simp [kw__law_free] at hq)
  subst e1 e2 e3 e4 e5
  exact sb_cons (ss_ret (frz (fLc cx [("at", 2)] rfl rfl (fun _ => rfl) (it_range1 cx rfl (sl_cons (vSub (now (vLen cx rfl (nP cx (i := 1) rfl rfl rfl rfl) rfl)) (now (cI))) rfl (lN)) rfl) (fun _ cx' => tg_name cx' (i := 2) rfl rfl rfl) (fun _ cx' => sts_one (tCmp cx' .nin (now (vIx cx' (nP cx' (i := 1) rfl rfl rfl rfl) (now (vAdd (nP cx' (i := 2) rfl rfl rfl rfl) (now (cI)))) rfl)) (now (sv_call cx' (fn_neighbours T) (by decide) (cx'.gl rfl) rfl (sa_cons (nP cx' (i := 0) rfl rfl rfl rfl) rfl (sa_cons (now (vIx cx' (nP cx' (i := 1) rfl rfl rfl rfl) (nP cx' (i := 2) rfl rfl rfl rfl) rfl)) rfl (sa_nil))) (fun y hy => by simp only [List.mem_cons, List.not_mem_nil, or_false] at hy; rcases hy with rfl | rfl <;> rfl))) rfl)) (fun _ cx' => nV cx' (i := 2) rfl rfl rfl rfl))))
    (sb_nil)
theorem sc__law_wandered : FnScope ["spring", "web", "order", "many", "found", "here", "turn", "some"] ["spring", "web", "order", "many"] (defScope st__law_wandered) := ⟨rfl, rfl, rfl, by decide +kernel, rfl, by decide +kernel, by decide +kernel⟩
def body__law_wandered : State → Option (Out × State) := bCons (parF [4, 5] (consM (mkL' (lstF (nilL))) (consM (mkV (lkF 2)) (nilM))))
  (bCons (forF (itR rng1 (consF (lkF 3) (nilL))) (gName1 6)
  (bCons (asgV 7 (callF sem__law_free 2 (consP (preVar 1) (consP (preVar 5) (nilP)))))
  (bCons (sIf (bin2 (cmpop .ne) (preVar 7) (nowF (frzF (lstF (nilL)))))
  (bCons (appF 4 (callF sem__law_pick 2 (consP (preVar 0) (consP (preVar 7) (nilP)))))
  (bCons (asgV 5 (callF sem__law_walked 3 (consP (preVar 1) (consP (preVar 5) (consP (nowF (slice3 sliceD (preVar 4) (partF (nowF (negF (nowF (conF (.int 1)))))) (nonP))) (nilP))))))
  (bNil)))
  (bNil))
  (bNil))))
  (bCons (retF (lkF 4))
  (bNil)))
def sem__law_wandered : FSem := runDef 4 8 body__law_wandered
def kw__law_wandered : List KwPat := []
theorem fn__law_wandered {P : Program} {w : World} {K : PySem.W.Frag} {mg : Str → Option Value} {base : Heap} (T : Tops K mg) : FnAt P w K mg base 8 "_law_wandered" 4 kw__law_wandered sem__law_wandered := by
  refine T.d__law_wandered.fn (k := 7) sc__law_wandered T.free (fun X e1 e2 e3 e4 e5 cx => ?_) (fun _ _ _ _ _ _ us hl => match us, hl with | [_, _, _, _], _ => rfl) (fun q hq => by simp [kw__law_wandered] at hq)
  subst e1 e2 e3 e4 e5
  exact sb_cons (ss_par2 cx (i := 4) (j := 5) rfl rfl (by decide) rfl rfl (sm_cons (mL (sf_lst (lN))) rfl (sm_cons (mV (nV cx (i := 2) rfl rfl rfl rfl)) rfl (sm_nil))) (cx.swp rfl) rfl)
    (sb_cons (ss_for cx (it_range1 cx rfl (sl_cons (nV cx (i := 3) rfl rfl rfl rfl) rfl (lN)) rfl) (tg_name cx (i := 6) rfl rfl rfl)
    (sb_cons (ss_setV cx (i := 7) rfl rfl rfl rfl (sv_call cx (fn__law_free T) (by decide) (cx.gl rfl) rfl (sa_cons (nP cx (i := 1) rfl rfl rfl rfl) rfl (sa_cons (nP cx (i := 5) rfl rfl rfl rfl) rfl (sa_nil))) (fun y hy => by simp only [List.mem_cons, List.not_mem_nil, or_false] at hy; rcases hy with rfl | rfl <;> rfl)))
    (sb_cons (ss_if (tCmp cx .ne (nP cx (i := 7) rfl rfl rfl rfl) (now (frz (sf_lst (lN)))) rfl)
    (sb_cons (ss_append cx (i := 4) rfl rfl rfl rfl (sv_call cx (fn__law_pick T) (by decide) (cx.gl rfl) rfl (sa_cons (nP cx (i := 0) rfl rfl rfl rfl) rfl (sa_cons (nP cx (i := 7) rfl rfl rfl rfl) rfl (sa_nil))) (fun y hy => by simp only [List.mem_cons, List.not_mem_nil, or_false] at hy; rcases hy with rfl | rfl <;> rfl)) rfl rfl rfl rfl rfl)
    (sb_cons (ss_setV cx (i := 5) rfl rfl rfl rfl (sv_call cx (fn__law_walked T) (by decide) (cx.gl rfl) rfl (sa_cons (nP cx (i := 1) rfl rfl rfl rfl) rfl (sa_cons (nP cx (i := 5) rfl rfl rfl rfl) rfl (sa_cons (now (sv_slice (nP cx (i := 4) rfl rfl rfl rfl) (sp_some (now (sv_neg (now (cI))))) (sN))) rfl (sa_nil)))) (fun y hy => by simp only [List.mem_cons, List.not_mem_nil, or_false] at hy; rcases hy with rfl | rfl | rfl <;> rfl)))
    (sb_nil)))
    (sb_nil))
    (sb_nil))) (fun _ => rfl))
    (sb_cons (ss_ret (nV cx (i := 4) rfl rfl rfl rfl))
    (sb_nil)))
theorem sc__law_list_right : FnScope ["spring", "web", "one", "other", "told", "spot", "walk", "long", "some", "turn", "at", "index", "bent"] ["spring", "web", "one", "other", "told"] (defScope st__law_list_right) := ⟨rfl, rfl, rfl, by decide +kernel, rfl, by decide +kernel, by decide +kernel⟩
def body__law_list_right : State → Option (Out × State) := bCons (asgV 5 (callF sem__law_next 2 (consP (preVar 0) (consP (nowF (bin2 (binop .add) (nowF (un1 lenD (preVar 4))) (nowF (conF (.int 1))))) (nilP)))))
  (bCons (asgV 6 (callF sem__law_wandered 4 (consP (preVar 0) (consP (preVar 1) (consP (nowF (callF sem__law_walked 3 (consP (preVar 1) (consP (preVar 2) (consP (nowF (slice3 sliceD (preVar 4) (nonP) (partF (preVar 5)))) (nilP)))))) (consP (nowF (bin2 (binop .add) (nowF (conF (.int 1))) (nowF (callF sem__law_next 2 (consP (preVar 0) (consP (nowF (conF (.int 6))) (nilP))))))) (nilP)))))))
  (bCons (asgV 7 (bin2 (binop .add) (nowF (bin2 (binop .add) (nowF (slice3 sliceD (preVar 4) (nonP) (partF (preVar 5)))) (nowF (bin2 (binop .mul) (nowF (bin2 (binop .add) (preVar 6) (nowF (backF (lkF 6))))) (nowF (callF sem__law_pick 2 (consP (preVar 0) (consP (nowF (frzF (lstF (consF (conF (.int 0)) (consF (conF (.int 1)) (consF (conF (.int 40)) (nilL))))))) (nilP))))))))) (nowF (slice3 sliceD (preVar 4) (partF (preVar 5)) (nonP)))))
  (bCons (forF (itF (frzF (lstF (consF (lkF 4) (consF (lkF 7) (nilL)))))) (gName1 8)
  (bCons (sIf (bin2 (cmpop .isn) (nowF (callF sem_exchanges_hold 4 (consP (preVar 1) (consP (preVar 2) (consP (preVar 3) (consP (preVar 8) (nilP))))))) (nowF (conF (.bool true))))
  (bCons (retF (conF (.bool false)))
  (bNil))
  (bNil))
  (bCons (forF (itR rng1 (consF (conF (.int 3)) (nilL))) (gName1 9)
  (bCons (parF [10, 11] (consM (mkV (callF sem__law_next 2 (consP (preVar 0) (consP (nowF (bin2 (binop .add) (nowF (un1 lenD (preVar 8))) (nowF (conF (.int 1))))) (nilP))))) (consM (mkV (bin2 (binop .sub) (nowF (callF sem__law_next 2 (consP (preVar 0) (consP (nowF (bin2 (binop .add) (nowF (un1 lenD (preVar 2))) (nowF (conF (.int 1))))) (nilP))))) (nowF (conF (.int 1))))) (nilM))))
  (bCons (asgV 12 (bin2 (binop .add) (nowF (bin2 (binop .add) (nowF (slice3 sliceD (preVar 8) (nonP) (partF (preVar 10)))) (nowF (frzF (lstF (consF (lkF 11) (nilL))))))) (nowF (slice3 sliceD (preVar 8) (partF (nowF (bin2 (binop .add) (preVar 10) (nowF (callF sem__law_next 2 (consP (preVar 0) (consP (nowF (conF (.int 2))) (nilP)))))))) (nonP)))))
  (bCons (sIf (bin2 (cmpop .eq) (nowF (callF sem__law_next 2 (consP (preVar 0) (consP (nowF (conF (.int 3))) (nilP))))) (nowF (conF (.int 0))))
  (bCons (asgV 12 (bin2 (binop .add) (nowF (slice3 sliceD (preVar 8) (nonP) (partF (preVar 10)))) (nowF (slice3 sliceD (preVar 8) (partF (nowF (bin2 (binop .add) (preVar 10) (nowF (conF (.int 1)))))) (nonP)))))
  (bNil))
  (bNil))
  (bCons (sIf (bin2 (cmpop .ne) (nowF (un1 reprD (nowF (callK sem_exchanges_hold 4 kw_exchanges_hold_0 (consP (preVar 12) (consP (preVar 3) (consP (preVar 2) (consP (preVar 1) (nilP))))))))) (nowF (un1 reprD (nowF (bin2 (cmpD .eq) (nowF (callF sem__law_walked 3 (consP (preVar 1) (consP (preVar 2) (consP (preVar 12) (nilP)))))) (preVar 3))))))
  (bCons (retF (conF (.bool false)))
  (bNil))
  (bNil))
  (bNil))))))
  (bNil))))
  (bCons (retF (bothV (bin2 (cmpD .eq) (nowF (bin2 (binop .mod) (nowF (un1 intD (nowF (bin2 (binop .add) (nowF (un1 lenD (preVar 4))) (nowF (callF sem__law_otherwise 2 (consP (preVar 2) (consP (preVar 3) (nilP))))))))) (nowF (conF (.int 2))))) (nowF (conF (.int 0)))) (bin2 (cmpD .ge) (nowF (un1 lenD (preVar 4))) (nowF (callF sem__law_otherwise 2 (consP (preVar 2) (consP (preVar 3) (nilP))))))))
  (bNil)))))
def sem__law_list_right : FSem := runDef 5 13 body__law_list_right
def kw__law_list_right : List KwPat := []
theorem fn__law_list_right {P : Program} {w : World} {K : PySem.W.Frag} {mg : Str → Option Value} {base : Heap} (T : Tops K mg) : FnAt P w K mg base 9 "_law_list_right" 5 kw__law_list_right sem__law_list_right := by
  refine T.d__law_list_right.fn (k := 8) sc__law_list_right T.free (fun X e1 e2 e3 e4 e5 cx => ?_) (fun _ _ _ _ _ _ us hl => match us, hl with | [_, _, _, _, _], _ => rfl) (fun q hq => by simp [kw__law_list_right] at hq)
  subst e1 e2 e3 e4 e5
  exact sb_cons (ss_setV cx (i := 5) rfl rfl rfl rfl (sv_call cx (fn__law_next T) (by decide) (cx.gl rfl) rfl (sa_cons (nP cx (i := 0) rfl rfl rfl rfl) rfl (sa_cons (now (vAdd (now (vLen cx rfl (nP cx (i := 4) rfl rfl rfl rfl) rfl)) (now (cI)))) rfl (sa_nil))) (fun y hy => by simp only [List.mem_cons, List.not_mem_nil, or_false] at hy; rcases hy with rfl | rfl <;> rfl)))
    (sb_cons (ss_setV cx (i := 6) rfl rfl rfl rfl (sv_call cx (fn__law_wandered T) (by decide) (cx.gl rfl) rfl (sa_cons (nP cx (i := 0) rfl rfl rfl rfl) rfl (sa_cons (nP cx (i := 1) rfl rfl rfl rfl) rfl (sa_cons (now (sv_call cx (fn__law_walked T) (by decide) (cx.gl rfl) rfl (sa_cons (nP cx (i := 1) rfl rfl rfl rfl) rfl (sa_cons (nP cx (i := 2) rfl rfl rfl rfl) rfl (sa_cons (now (sv_slice (nP cx (i := 4) rfl rfl rfl rfl) (sN) (sp_some (nP cx (i := 5) rfl rfl rfl rfl)))) rfl (sa_nil)))) (fun y hy => by simp only [List.mem_cons, List.not_mem_nil, or_false] at hy; rcases hy with rfl | rfl | rfl <;> rfl))) rfl (sa_cons (now (vAdd (now (cI)) (now (sv_call cx (fn__law_next T) (by decide) (cx.gl rfl) rfl (sa_cons (nP cx (i := 0) rfl rfl rfl rfl) rfl (sa_cons (now (cI)) rfl (sa_nil))) (fun y hy => by simp only [List.mem_cons, List.not_mem_nil, or_false] at hy; rcases hy with rfl | rfl <;> rfl))))) rfl (sa_nil))))) (fun y hy => by simp only [List.mem_cons, List.not_mem_nil, or_false] at hy; rcases hy with rfl | rfl | rfl | rfl <;> rfl)))
    (sb_cons (ss_setV cx (i := 7) rfl rfl rfl rfl (vAdd (now (vAdd (now (sv_slice (nP cx (i := 4) rfl rfl rfl rfl) (sN) (sp_some (nP cx (i := 5) rfl rfl rfl rfl)))) (now (vMul (now (vAdd (nP cx (i := 6) rfl rfl rfl rfl) (now (sv_back (nV cx (i := 6) rfl rfl rfl rfl))))) (now (sv_call cx (fn__law_pick T) (by decide) (cx.gl rfl) rfl (sa_cons (nP cx (i := 0) rfl rfl rfl rfl) rfl (sa_cons (now (frz (sf_lst (sl_cons (cI) rfl (sl_cons (cI) rfl (sl_cons (cI) rfl (lN))))))) rfl (sa_nil))) (fun y hy => by simp only [List.mem_cons, List.not_mem_nil, or_false] at hy; rcases hy with rfl | rfl <;> rfl))))))) (now (sv_slice (nP cx (i := 4) rfl rfl rfl rfl) (sp_some (nP cx (i := 5) rfl rfl rfl rfl)) (sN)))))
    (sb_cons (ss_for cx (it_seq (frz (sf_lst (sl_cons (nV cx (i := 4) rfl rfl rfl rfl) rfl (sl_cons (nV cx (i := 7) rfl rfl rfl rfl) rfl (lN)))))) (tg_name cx (i := 8) rfl rfl rfl)
    (sb_cons (ss_if (tCmp cx .isn (now (sv_call cx (fn_exchanges_hold T) (by decide) (cx.gl rfl) rfl (sa_cons (nP cx (i := 1) rfl rfl rfl rfl) rfl (sa_cons (nP cx (i := 2) rfl rfl rfl rfl) rfl (sa_cons (nP cx (i := 3) rfl rfl rfl rfl) rfl (sa_cons (nP cx (i := 8) rfl rfl rfl rfl) rfl (sa_nil))))) (fun y hy => by simp only [List.mem_cons, List.not_mem_nil, or_false] at hy; rcases hy with rfl | rfl | rfl | rfl <;> rfl))) (now (cB)) rfl)
    (sb_cons (ss_ret (cB))
    (sb_nil))
    (sb_nil))
    (sb_cons (ss_for cx (it_range1 cx rfl (sl_cons (cI) rfl (lN)) rfl) (tg_name cx (i := 9) rfl rfl rfl)
    (sb_cons (ss_par2 cx (i := 10) (j := 11) rfl rfl (by decide) rfl rfl (sm_cons (mV (sv_call cx (fn__law_next T) (by decide) (cx.gl rfl) rfl (sa_cons (nP cx (i := 0) rfl rfl rfl rfl) rfl (sa_cons (now (vAdd (now (vLen cx rfl (nP cx (i := 8) rfl rfl rfl rfl) rfl)) (now (cI)))) rfl (sa_nil))) (fun y hy => by simp only [List.mem_cons, List.not_mem_nil, or_false] at hy; rcases hy with rfl | rfl <;> rfl))) rfl (sm_cons (mV (vSub (now (sv_call cx (fn__law_next T) (by decide) (cx.gl rfl) rfl (sa_cons (nP cx (i := 0) rfl rfl rfl rfl) rfl (sa_cons (now (vAdd (now (vLen cx rfl (nP cx (i := 2) rfl rfl rfl rfl) rfl)) (now (cI)))) rfl (sa_nil))) (fun y hy => by simp only [List.mem_cons, List.not_mem_nil, or_false] at hy; rcases hy with rfl | rfl <;> rfl))) (now (cI)))) rfl (sm_nil))) (cx.swp rfl) rfl)
    (sb_cons (ss_setV cx (i := 12) rfl rfl rfl rfl (vAdd (now (vAdd (now (sv_slice (nP cx (i := 8) rfl rfl rfl rfl) (sN) (sp_some (nP cx (i := 10) rfl rfl rfl rfl)))) (now (frz (sf_lst (sl_cons (nV cx (i := 11) rfl rfl rfl rfl) rfl (lN))))))) (now (sv_slice (nP cx (i := 8) rfl rfl rfl rfl) (sp_some (now (vAdd (nP cx (i := 10) rfl rfl rfl rfl) (now (sv_call cx (fn__law_next T) (by decide) (cx.gl rfl) rfl (sa_cons (nP cx (i := 0) rfl rfl rfl rfl) rfl (sa_cons (now (cI)) rfl (sa_nil))) (fun y hy => by simp only [List.mem_cons, List.not_mem_nil, or_false] at hy; rcases hy with rfl | rfl <;> rfl)))))) (sN)))))
    (sb_cons (ss_if (tCmp cx .eq (now (sv_call cx (fn__law_next T) (by decide) (cx.gl rfl) rfl (sa_cons (nP cx (i := 0) rfl rfl rfl rfl) rfl (sa_cons (now (cI)) rfl (sa_nil))) (fun y hy => by simp only [List.mem_cons, List.not_mem_nil, or_false] at hy; rcases hy with rfl | rfl <;> rfl))) (now (cI)) rfl)
    (sb_cons (ss_setV cx (i := 12) rfl rfl rfl rfl (vAdd (now (sv_slice (nP cx (i := 8) rfl rfl rfl rfl) (sN) (sp_some (nP cx (i := 10) rfl rfl rfl rfl)))) (now (sv_slice (nP cx (i := 8) rfl rfl rfl rfl) (sp_some (now (vAdd (nP cx (i := 10) rfl rfl rfl rfl) (now (cI))))) (sN)))))
    (sb_nil))
    (sb_nil))
    (sb_cons (ss_if (tCmp cx .ne (now (vRepr cx rfl (now (sv_callk cx (fn_exchanges_hold T) (by simp [kw_exchanges_hold]) (by decide) (cx.gl rfl) rfl (sk_cons (nP cx (i := 12) rfl rfl rfl rfl) (sk_cons (nP cx (i := 3) rfl rfl rfl rfl) (sk_cons (nP cx (i := 2) rfl rfl rfl rfl) (sk_cons (nP cx (i := 1) rfl rfl rfl rfl) (sk_nil))))) rfl rfl rfl)) rfl)) (now (vRepr cx rfl (now (vCmp cx .eq (now (sv_call cx (fn__law_walked T) (by decide) (cx.gl rfl) rfl (sa_cons (nP cx (i := 1) rfl rfl rfl rfl) rfl (sa_cons (nP cx (i := 2) rfl rfl rfl rfl) rfl (sa_cons (nP cx (i := 12) rfl rfl rfl rfl) rfl (sa_nil)))) (fun y hy => by simp only [List.mem_cons, List.not_mem_nil, or_false] at hy; rcases hy with rfl | rfl | rfl <;> rfl))) (nP cx (i := 3) rfl rfl rfl rfl) rfl)) rfl)) rfl)
    (sb_cons (ss_ret (cB))
    (sb_nil))
    (sb_nil))
    (sb_nil))))) (fun _ => rfl))
    (sb_nil))) (fun _ => rfl))
    (sb_cons (ss_ret (sv_and (vCmp cx .eq (now (vMod (now (vInt cx rfl (now (vAdd (now (vLen cx rfl (nP cx (i := 4) rfl rfl rfl rfl) rfl)) (now (sv_call cx (fn__law_otherwise T) (by decide) (cx.gl rfl) rfl (sa_cons (nP cx (i := 2) rfl rfl rfl rfl) rfl (sa_cons (nP cx (i := 3) rfl rfl rfl rfl) rfl (sa_nil))) (fun y hy => by simp only [List.mem_cons, List.not_mem_nil, or_false] at hy; rcases hy with rfl | rfl <;> rfl))))) rfl)) (now (cI)))) (now (cI)) rfl) (sv_one (vCmp cx .ge (now (vLen cx rfl (nP cx (i := 4) rfl rfl rfl rfl) rfl)) (now (sv_call cx (fn__law_otherwise T) (by decide) (cx.gl rfl) rfl (sa_cons (nP cx (i := 2) rfl rfl rfl rfl) rfl (sa_cons (nP cx (i := 3) rfl rfl rfl rfl) rfl (sa_nil))) (fun y hy => by simp only [List.mem_cons, List.not_mem_nil, or_false] at hy; rcases hy with rfl | rfl <;> rfl))) rfl))))
    (sb_nil)))))
theorem sc_path_between : FnScope ["web", "order", "other", "found", "at", "place", "index"] ["web", "order", "other"] (defScope st_path_between) := ⟨rfl, rfl, rfl, by decide +kernel, rfl, by decide +kernel, by decide +kernel⟩
def body_path_between : State → Option (Out × State) := bCons (sIf (bin2 (cmpop .ne) (nowF (callF sem_arrows_of 2 (consP (preVar 0) (consP (preVar 1) (nilP))))) (nowF (callF sem_arrows_of 2 (consP (preVar 0) (consP (preVar 2) (nilP))))))
  (bCons (retF (conF .none))
  (bNil))
  (bNil))
  (bCons (asgB 3 (lstF (nilL)))
  (bCons (forF (itR enumA (consF (lkF 2) (nilL))) (gTup1 2 (gCons1 (gName1 4) (gCons1 (gName1 5) (gNil1))))
  (bCons (forF (itR rng3 (consF (bin2 (binop .sub) (nowF (idxM (lkF 1) (preVar 5))) (nowF (conF (.int 1)))) (consF (bin2 (binop .sub) (preVar 4) (nowF (conF (.int 1)))) (consF (negF (nowF (conF (.int 1)))) (nilL))))) (gName1 6)
  (bCons (appF 3 (lkF 6))
  (bCons (asgV 1 (callF sem_exchanged 2 (consP (preVar 1) (consP (preVar 6) (nilP)))))
  (bNil))))
  (bNil)))
  (bCons (retF (lkF 3))
  (bNil))))
def sem_path_between : FSem := runDef 3 7 body_path_between
def kw_path_between : List KwPat := []
theorem fn_path_between {P : Program} {w : World} {K : PySem.W.Frag} {mg : Str → Option Value} {base : Heap} (T : Tops K mg) : FnAt P w K mg base 2 "path_between" 3 kw_path_between sem_path_between := by
  refine T.d_path_between.fn (k := 1) sc_path_between T.free (fun X e1 e2 e3 e4 e5 cx => ?_) (fun _ _ _ _ _ _ us hl => match us, hl with | [_, _, _], _ => rfl) (fun q hq => by simp [kw_path_between] at hq)
  subst e1 e2 e3 e4 e5
  exact sb_cons (ss_if (tCmp cx .ne (now (sv_call cx (fn_arrows_of T) (by decide) (cx.gl rfl) rfl (sa_cons (nP cx (i := 0) rfl rfl rfl rfl) rfl (sa_cons (nP cx (i := 1) rfl rfl rfl rfl) rfl (sa_nil))) (fun y hy => by simp only [List.mem_cons, List.not_mem_nil, or_false] at hy; rcases hy with rfl | rfl <;> rfl))) (now (sv_call cx (fn_arrows_of T) (by decide) (cx.gl rfl) rfl (sa_cons (nP cx (i := 0) rfl rfl rfl rfl) rfl (sa_cons (nP cx (i := 2) rfl rfl rfl rfl) rfl (sa_nil))) (fun y hy => by simp only [List.mem_cons, List.not_mem_nil, or_false] at hy; rcases hy with rfl | rfl <;> rfl))) rfl)
    (sb_cons (ss_ret (cN))
    (sb_nil))
    (sb_nil))
    (sb_cons (ss_setB cx (i := 3) rfl rfl rfl rfl (sf_lst (lN)))
    (sb_cons (ss_for cx (it_enumA cx rfl (sl_cons (nV cx (i := 2) rfl rfl rfl rfl) rfl (lN)) rfl) (tg_tup cx.calm (tgs_cons (tg_name cx (i := 4) rfl rfl rfl) rfl (tgs_cons (tg_name cx (i := 5) rfl rfl rfl) rfl (tgs_nil))) rfl rfl)
    (sb_cons (ss_for cx (it_range3 cx rfl (sl_cons (vSub (now (sv_index cx (nV cx (i := 1) rfl rfl rfl rfl) (nP cx (i := 5) rfl rfl rfl rfl) rfl rfl rfl rfl)) (now (cI))) rfl (sl_cons (vSub (nP cx (i := 4) rfl rfl rfl rfl) (now (cI))) rfl (sl_cons (sv_neg (now (cI))) rfl (lN)))) rfl rfl rfl) (tg_name cx (i := 6) rfl rfl rfl)
    (sb_cons (ss_append cx (i := 3) rfl rfl rfl rfl (nV cx (i := 6) rfl rfl rfl rfl) rfl rfl rfl rfl rfl)
    (sb_cons (ss_setV cx (i := 1) rfl rfl rfl rfl (sv_call cx (fn_exchanged T) (by decide) (cx.gl rfl) rfl (sa_cons (nP cx (i := 1) rfl rfl rfl rfl) rfl (sa_cons (nP cx (i := 6) rfl rfl rfl rfl) rfl (sa_nil))) (fun y hy => by simp only [List.mem_cons, List.not_mem_nil, or_false] at hy; rcases hy with rfl | rfl <;> rfl)))
    (sb_nil))) (fun _ => rfl))
    (sb_nil)) (fun _ => rfl))
    (sb_cons (ss_ret (nV cx (i := 3) rfl rfl rfl rfl))
    (sb_nil))))
theorem sc_exchanges : FnScope ["web", "order", "other"] ["web", "order", "other"] (defScope st_exchanges) := ⟨rfl, rfl, rfl, by decide +kernel, rfl, by decide +kernel, by decide +kernel⟩
def body_exchanges : State → Option (Out × State) := bCons (dropF (callF sem_need_two_orders 3 (consP (preVar 0) (consP (preVar 1) (consP (preVar 2) (nilP))))))
  (bCons (retF (callF sem_path_between 3 (consP (preVar 0) (consP (preVar 1) (consP (preVar 2) (nilP))))))
  (bNil))
def sem_exchanges : FSem := runDef 3 3 body_exchanges
def kw_exchanges_0 : KwPat := ⟨["other", "order", "web"], [2, 1, 0]⟩
def kw_exchanges : List KwPat := [kw_exchanges_0]
theorem fn_exchanges {P : Program} {w : World} {K : PySem.W.Frag} {mg : Str → Option Value} {base : Heap} (T : Tops K mg) : FnAt P w K mg base 7 "exchanges" 3 kw_exchanges sem_exchanges := by
  refine T.d_exchanges.fn (k := 6) sc_exchanges T.free (fun X e1 e2 e3 e4 e5 cx => ?_) (fun _ _ _ _ _ _ us hl => match us, hl with | [_, _, _], _ => rfl) (fun q hq kV doc pm an cdv ct ws hl => by
    simp only [kw_exchanges, List.mem_cons, List.not_mem_nil, or_false] at hq
    subst hq
    exact match ws, hl with | [_, _, _], _ => rfl)
  subst e1 e2 e3 e4 e5
  exact sb_cons (ss_expr (sv_call cx (fn_need_two_orders T) (by decide) (cx.gl rfl) rfl (sa_cons (nP cx (i := 0) rfl rfl rfl rfl) rfl (sa_cons (nP cx (i := 1) rfl rfl rfl rfl) rfl (sa_cons (nP cx (i := 2) rfl rfl rfl rfl) rfl (sa_nil)))) (fun y hy => by simp only [List.mem_cons, List.not_mem_nil, or_false] at hy; rcases hy with rfl | rfl | rfl <;> rfl)) rfl)
    (sb_cons (ss_ret (sv_call cx (fn_path_between T) (by decide) (cx.gl rfl) rfl (sa_cons (nP cx (i := 0) rfl rfl rfl rfl) rfl (sa_cons (nP cx (i := 1) rfl rfl rfl rfl) rfl (sa_cons (nP cx (i := 2) rfl rfl rfl rfl) rfl (sa_nil)))) (fun y hy => by simp only [List.mem_cons, List.not_mem_nil, or_false] at hy; rcases hy with rfl | rfl | rfl <;> rfl)))
    (sb_nil))
theorem sc__law_shuffled : FnScope ["spring", "things", "left", "got", "turn"] ["spring", "things"] (defScope st__law_shuffled) := ⟨rfl, rfl, rfl, by decide +kernel, rfl, by decide +kernel, by decide +kernel⟩
def body__law_shuffled : State → Option (Out × State) := bCons (parF [2, 3] (consM (mkL' (un1 listL (preVar 1))) (consM (mkL' (lstF (nilL))) (nilM))))
  (bCons (forF (itR rng1 (consF (un1 lenD (preVar 1)) (nilL))) (gName1 4)
  (bCons (appF 3 (popF 2 (nowF (callF sem__law_next 2 (consP (preVar 0) (consP (nowF (un1 lenD (preVar 2))) (nilP)))))))
  (bNil)))
  (bCons (retF (lkF 3))
  (bNil)))
def sem__law_shuffled : FSem := runDef 2 5 body__law_shuffled
def kw__law_shuffled : List KwPat := []
theorem fn__law_shuffled {P : Program} {w : World} {K : PySem.W.Frag} {mg : Str → Option Value} {base : Heap} (T : Tops K mg) : FnAt P w K mg base 2 "_law_shuffled" 2 kw__law_shuffled sem__law_shuffled := by
  refine T.d__law_shuffled.fn (k := 1) sc__law_shuffled T.free (fun X e1 e2 e3 e4 e5 cx => ?_) (fun _ _ _ _ _ _ us hl => match us, hl with | [_, _], _ => rfl) (fun q hq => by simp [kw__law_shuffled] at hq)
  subst e1 e2 e3 e4 e5
  exact sb_cons (ss_par2 cx (i := 2) (j := 3) rfl rfl (by decide) rfl rfl (sm_cons (mL (fList cx rfl (nP cx (i := 1) rfl rfl rfl rfl) rfl)) rfl (sm_cons (mL (sf_lst (lN))) rfl (sm_nil))) (cx.swp rfl) rfl)
    (sb_cons (ss_for cx (it_range1 cx rfl (sl_cons (vLen cx rfl (nP cx (i := 1) rfl rfl rfl rfl) rfl) rfl (lN)) rfl) (tg_name cx (i := 4) rfl rfl rfl)
    (sb_cons (ss_append cx (i := 3) rfl rfl rfl rfl (sv_pop cx (i := 2) rfl rfl rfl rfl (now (sv_call cx (fn__law_next T) (by decide) (cx.gl rfl) rfl (sa_cons (nP cx (i := 0) rfl rfl rfl rfl) rfl (sa_cons (now (vLen cx rfl (nP cx (i := 2) rfl rfl rfl rfl) rfl)) rfl (sa_nil))) (fun y hy => by simp only [List.mem_cons, List.not_mem_nil, or_false] at hy; rcases hy with rfl | rfl <;> rfl))) rfl rfl rfl rfl) rfl rfl rfl rfl rfl)
    (sb_nil)) (fun _ => rfl))
    (sb_cons (ss_ret (nV cx (i := 3) rfl rfl rfl rfl))
    (sb_nil)))
theorem sc__law_order : FnScope ["spring", "web"] ["spring", "web"] (defScope st__law_order) := ⟨rfl, rfl, rfl, by decide +kernel, rfl, by decide +kernel, by decide +kernel⟩
def body__law_order : State → Option (Out × State) := bCons (retF (un1 tupleD (nowF (callF sem__law_shuffled 2 (consP (preVar 0) (consP (nowF (bin2 idxD (preVar 1) (nowF (conF (.int 0))))) (nilP)))))))
  (bNil)
def sem__law_order : FSem := runDef 2 2 body__law_order
def kw__law_order : List KwPat := []
theorem fn__law_order {P : Program} {w : World} {K : PySem.W.Frag} {mg : Str → Option Value} {base : Heap} (T : Tops K mg) : FnAt P w K mg base 3 "_law_order" 2 kw__law_order sem__law_order := by
  refine T.d__law_order.fn (k := 2) sc__law_order T.free (fun X e1 e2 e3 e4 e5 cx => ?_) (fun _ _ _ _ _ _ us hl => match us, hl with | [_, _], _ => rfl) (fun q hq => by simp [kw__law_order] at hq)
  subst e1 e2 e3 e4 e5
  exact sb_cons (ss_ret (vTuple cx rfl (now (sv_call cx (fn__law_shuffled T) (by decide) (cx.gl rfl) rfl (sa_cons (nP cx (i := 0) rfl rfl rfl rfl) rfl (sa_cons (now (vIx cx (nP cx (i := 1) rfl rfl rfl rfl) (now (cI)) rfl)) rfl (sa_nil))) (fun y hy => by simp only [List.mem_cons, List.not_mem_nil, or_false] at hy; rcases hy with rfl | rfl <;> rfl))) rfl))
    (sb_nil)
theorem sc__law_names : FnScope ["spring", "count", "found", "at", "name", "turn"] ["spring", "count"] (defScope st__law_names) := ⟨rfl, rfl, rfl, by decide +kernel, rfl, by decide +kernel, by decide +kernel⟩
def body__law_names : State → Option (Out × State) := bCons (asgB 2 (lstF (nilL)))
  (bCons (forF (itR rng1 (consF (lkF 1) (nilL))) (gName1 3)
  (bCons (asgV 4 (callF sem__law_pick 2 (consP (preVar 0) (consP (nowF (conF (.str "abcdefghkmpxyz"))) (nilP)))))
  (bCons (forF (itR rng1 (consF (callF sem__law_pick 2 (consP (preVar 0) (consP (nowF (frzF (lstF (consF (conF (.int 0)) (consF (conF (.int 0)) (consF (conF (.int 1)) (consF (conF (.int 4)) (consF (conF (.int 7)) (nilL))))))))) (nilP)))) (nilL))) (gName1 5)
  (bCons (asgV 4 (bin2 (binop .add) (preVar 4) (nowF (callF sem__law_pick 2 (consP (preVar 0) (consP (nowF (conF (.str "abz019"))) (nilP)))))))
  (bNil)))
  (bCons (appF 2 (ifF (bin2 (cmpop .nin) (preVar 4) (preVar 2)) (lkF 4) (bin2 (binop .add) (nowF (conF (.str "q"))) (nowF (un1 strD (preVar 3))))))
  (bNil)))))
  (bCons (retF (lkF 2))
  (bNil)))
def sem__law_names : FSem := runDef 2 6 body__law_names
def kw__law_names : List KwPat := []
theorem fn__law_names {P : Program} {w : World} {K : PySem.W.Frag} {mg : Str → Option Value} {base : Heap} (T : Tops K mg) : FnAt P w K mg base 3 "_law_names" 2 kw__law_names sem__law_names := by
  refine T.d__law_names.fn (k := 2) sc__law_names T.free (fun X e1 e2 e3 e4 e5 cx => ?_) (fun _ _ _ _ _ _ us hl => match us, hl with | [_, _], _ => rfl) (fun q hq => by simp [kw__law_names] at hq)
  subst e1 e2 e3 e4 e5
  exact sb_cons (ss_setB cx (i := 2) rfl rfl rfl rfl (sf_lst (lN)))
    (sb_cons (ss_for cx (it_range1 cx rfl (sl_cons (nV cx (i := 1) rfl rfl rfl rfl) rfl (lN)) rfl) (tg_name cx (i := 3) rfl rfl rfl)
    (sb_cons (ss_setV cx (i := 4) rfl rfl rfl rfl (sv_call cx (fn__law_pick T) (by decide) (cx.gl rfl) rfl (sa_cons (nP cx (i := 0) rfl rfl rfl rfl) rfl (sa_cons (now (cS)) rfl (sa_nil))) (fun y hy => by simp only [List.mem_cons, List.not_mem_nil, or_false] at hy; rcases hy with rfl | rfl <;> rfl)))
    (sb_cons (ss_for cx (it_range1 cx rfl (sl_cons (sv_call cx (fn__law_pick T) (by decide) (cx.gl rfl) rfl (sa_cons (nP cx (i := 0) rfl rfl rfl rfl) rfl (sa_cons (now (frz (sf_lst (sl_cons (cI) rfl (sl_cons (cI) rfl (sl_cons (cI) rfl (sl_cons (cI) rfl (sl_cons (cI) rfl (lN))))))))) rfl (sa_nil))) (fun y hy => by simp only [List.mem_cons, List.not_mem_nil, or_false] at hy; rcases hy with rfl | rfl <;> rfl)) rfl (lN)) rfl) (tg_name cx (i := 5) rfl rfl rfl)
    (sb_cons (ss_setV cx (i := 4) rfl rfl rfl rfl (vAdd (nP cx (i := 4) rfl rfl rfl rfl) (now (sv_call cx (fn__law_pick T) (by decide) (cx.gl rfl) rfl (sa_cons (nP cx (i := 0) rfl rfl rfl rfl) rfl (sa_cons (now (cS)) rfl (sa_nil))) (fun y hy => by simp only [List.mem_cons, List.not_mem_nil, or_false] at hy; rcases hy with rfl | rfl <;> rfl)))))
    (sb_nil)) (fun _ => rfl))
    (sb_cons (ss_append cx (i := 2) rfl rfl rfl rfl (vIf (tCmp cx .nin (nP cx (i := 4) rfl rfl rfl rfl) (nP cx (i := 2) rfl rfl rfl rfl) rfl) (nV cx (i := 4) rfl rfl rfl rfl) (vAdd (now (cS)) (now (vStr cx rfl (nP cx (i := 3) rfl rfl rfl rfl) rfl)))) rfl rfl rfl rfl rfl)
    (sb_nil)))) (fun _ => rfl))
    (sb_cons (ss_ret (nV cx (i := 2) rfl rfl rfl rfl))
    (sb_nil)))
theorem sc__law_web : FnScope ["spring", "count", "places", "pairs", "way", "at", "some", "roads", "one", "other", "pair"] ["spring", "count"] (defScope st__law_web) := ⟨rfl, rfl, rfl, by decide +kernel, rfl, by decide +kernel, by decide +kernel⟩
def body__law_web : State → Option (Out × State) := bCons (parF [2, 3, 4] (consM (mkV (callF sem__law_names 2 (consP (preVar 0) (consP (preVar 1) (nilP))))) (consM (mkL' (lstF (nilL))) (consM (mkV (callF sem__law_next 2 (consP (preVar 0) (consP (nowF (conF (.int 4))) (nilP))))) (nilM)))))
  (bCons (forF (itR rng1 (consF (lkF 1) (nilL))) (gName1 5)
  (bCons (extF 3 (frzF (lcF (([("other", 9)] : List (Str × Nat)).map (·.2)) (itR rng1 (consF (lkF 5) (nilL))) (gName1 9) (yesF) (tupF (consF (lkF 9) (consF (lkF 5) (nilL)))))))
  (bNil)))
  (bCons (asgB 3 (callL sem__law_shuffled 2 (consP (preVar 0) (consP (preVar 3) (nilP)))))
  (bCons (asgV 6 (ifF (bin2 (cmpop .eq) (preVar 4) (nowF (conF (.int 0)))) (slice3 sliceD (preVar 3) (nonP) (partF (nowF (callF sem__law_next 2 (consP (preVar 0) (consP (nowF (bin2 (binop .add) (preVar 1) (nowF (conF (.int 1))))) (nilP))))))) (slice3 sliceD (preVar 3) (nonP) (partF (nowF (conF (.int 14)))))))
  (bCons (sIf (bin2 (cmpop .eq) (preVar 4) (nowF (conF (.int 1))))
  (bCons (asgV 6 (frzF (lcF (([("at", 5)] : List (Str × Nat)).map (·.2)) (itR rng2 (consF (conF (.int 1)) (consF (lkF 1) (nilL)))) (gName1 5) (yesF) (tupF (consF (callF sem__law_next 2 (consP (preVar 0) (consP (preVar 5) (nilP)))) (consF (lkF 5) (nilL)))))))
  (bCons (asgV 6 (bin2 (binop .add) (preVar 6) (nowF (frzF (lcF (([("pair", 10)] : List (Str × Nat)).map (·.2)) (itF (slice3 sliceD (preVar 3) (nonP) (partF (nowF (callF sem__law_next 2 (consP (preVar 0) (consP (nowF (conF (.int 4))) (nilP)))))))) (gName1 10) (bin2 (cmpop .nin) (preVar 10) (preVar 6)) (lkF 10))))))
  (bNil)))
  (bNil))
  (bCons (sIf (both (bin2 (cmpop .eq) (preVar 4) (nowF (conF (.int 2)))) (bin2 (cmpop .gt) (preVar 1) (nowF (conF (.int 2)))))
  (bCons (asgV 6 (bin2 (binop .add) (nowF (frzF (lcF (([("at", 5)] : List (Str × Nat)).map (·.2)) (itR rng1 (consF (bin2 (binop .sub) (preVar 1) (nowF (conF (.int 1)))) (nilL))) (gName1 5) (yesF) (tupF (consF (lkF 5) (consF (bin2 (binop .add) (preVar 5) (nowF (conF (.int 1)))) (nilL))))))) (nowF (frzF (lstF (consF (tupF (consF (conF (.int 0)) (consF (bin2 (binop .sub) (preVar 1) (nowF (conF (.int 1)))) (nilL)))) (nilL)))))))
  (bNil))
  (bNil))
  (bCons (asgV 7 (frzF (lcF (([("one", 8), ("other", 9)] : List (Str × Nat)).map (·.2)) (itVar 6) (gTup1 2 (gCons1 (gName1 8) (gCons1 (gName1 9) (gNil1)))) (yesF) (ifF (bin2 (cmpop .eq) (nowF (callF sem__law_next 2 (consP (preVar 0) (consP (nowF (conF (.int 2))) (nilP))))) (nowF (conF (.int 0)))) (tupF (consF (bin2 idxD (preVar 2) (preVar 8)) (consF (bin2 idxD (preVar 2) (preVar 9)) (nilL)))) (tupF (consF (bin2 idxD (preVar 2) (preVar 9)) (consF (bin2 idxD (preVar 2) (preVar 8)) (nilL))))))))
  (bCons (retF (tupF (consF (un1 tupleD (preVar 2)) (consF (un1 tupleD (nowF (callF sem__law_shuffled 2 (consP (preVar 0) (consP (preVar 7) (nilP)))))) (nilL)))))
  (bNil))))))))
def sem__law_web : FSem := runDef 2 11 body__law_web
def kw__law_web : List KwPat := []
theorem fn__law_web {P : Program} {w : World} {K : PySem.W.Frag} {mg : Str → Option Value} {base : Heap} (T : Tops K mg) : FnAt P w K mg base 4 "_law_web" 2 kw__law_web sem__law_web := by
  refine T.d__law_web.fn (k := 3) sc__law_web T.free (fun X e1 e2 e3 e4 e5 cx => ?_) (fun _ _ _ _ _ _ us hl => match us, hl with | [_, _], _ => rfl) (fun q hq => by simp [kw__law_web] at hq)
  subst e1 e2 e3 e4 e5
  exact sb_cons (ss_parT cx (is := [2, 3, 4]) (⟨2, _, rfl, rfl, rfl, rfl, ⟨3, _, rfl, rfl, rfl, rfl, ⟨4, _, rfl, rfl, rfl, rfl, rfl⟩⟩⟩) (sm_cons (mV (sv_call cx (fn__law_names T) (by decide) (cx.gl rfl) rfl (sa_cons (nP cx (i := 0) rfl rfl rfl rfl) rfl (sa_cons (nP cx (i := 1) rfl rfl rfl rfl) rfl (sa_nil))) (fun y hy => by simp only [List.mem_cons, List.not_mem_nil, or_false] at hy; rcases hy with rfl | rfl <;> rfl))) rfl (sm_cons (mL (sf_lst (lN))) rfl (sm_cons (mV (sv_call cx (fn__law_next T) (by decide) (cx.gl rfl) rfl (sa_cons (nP cx (i := 0) rfl rfl rfl rfl) rfl (sa_cons (now (cI)) rfl (sa_nil))) (fun y hy => by simp only [List.mem_cons, List.not_mem_nil, or_false] at hy; rcases hy with rfl | rfl <;> rfl))) rfl (sm_nil)))) rfl (cx.swp rfl) (by decide))
    (sb_cons (ss_for cx (it_range1 cx rfl (sl_cons (nV cx (i := 1) rfl rfl rfl rfl) rfl (lN)) rfl) (tg_name cx (i := 5) rfl rfl rfl)
    (sb_cons (ss_extend cx (i := 3) rfl rfl rfl rfl (frz (fLc cx [("other", 9)] rfl rfl (fun _ => rfl) (it_range1 cx rfl (sl_cons (nV cx (i := 5) rfl rfl rfl rfl) rfl (lN)) rfl) (fun _ cx' => tg_name cx' (i := 9) rfl rfl rfl) (fun _ cx' => sts_nil) (fun _ cx' => sv_tup (sl_cons (nV cx' (i := 9) rfl rfl rfl rfl) rfl (sl_cons (nV cx' (i := 5) rfl rfl rfl rfl) rfl (lN)))))) rfl rfl rfl rfl rfl)
    (sb_nil)) (fun _ => rfl))
    (sb_cons (ss_setB cx (i := 3) rfl rfl rfl rfl (sf_call cx (fn__law_shuffled T) (by decide) (cx.gl rfl) rfl (sa_cons (nP cx (i := 0) rfl rfl rfl rfl) rfl (sa_cons (nP cx (i := 3) rfl rfl rfl rfl) rfl (sa_nil))) (fun y hy => by simp only [List.mem_cons, List.not_mem_nil, or_false] at hy; rcases hy with rfl | rfl <;> rfl)))
    (sb_cons (ss_setV cx (i := 6) rfl rfl rfl rfl (vIf (tCmp cx .eq (nP cx (i := 4) rfl rfl rfl rfl) (now (cI)) rfl) (sv_slice (nP cx (i := 3) rfl rfl rfl rfl) (sN) (sp_some (now (sv_call cx (fn__law_next T) (by decide) (cx.gl rfl) rfl (sa_cons (nP cx (i := 0) rfl rfl rfl rfl) rfl (sa_cons (now (vAdd (nP cx (i := 1) rfl rfl rfl rfl) (now (cI)))) rfl (sa_nil))) (fun y hy => by simp only [List.mem_cons, List.not_mem_nil, or_false] at hy; rcases hy with rfl | rfl <;> rfl))))) (sv_slice (nP cx (i := 3) rfl rfl rfl rfl) (sN) (sp_some (now (cI))))))
    (sb_cons (ss_if (tCmp cx .eq (nP cx (i := 4) rfl rfl rfl rfl) (now (cI)) rfl)
    (sb_cons (ss_setV cx (i := 6) rfl rfl rfl (cx.sw rfl) (frz (fLc cx [("at", 5)] rfl rfl (fun _ => rfl) (it_range2 cx rfl (sl_cons (cI) rfl (sl_cons (nV cx (i := 1) rfl rfl rfl rfl) rfl (lN))) rfl rfl) (fun _ cx' => tg_name cx' (i := 5) rfl rfl rfl) (fun _ cx' => sts_nil) (fun _ cx' => sv_tup (sl_cons (sv_call cx' (fn__law_next T) (by decide) (cx'.gl rfl) rfl (sa_cons (nP cx' (i := 0) rfl rfl rfl rfl) rfl (sa_cons (nP cx' (i := 5) rfl rfl rfl rfl) rfl (sa_nil))) (fun y hy => by simp only [List.mem_cons, List.not_mem_nil, or_false] at hy; rcases hy with rfl | rfl <;> rfl)) rfl (sl_cons (nV cx' (i := 5) rfl rfl rfl rfl) rfl (lN)))))))
    (sb_cons (ss_setV cx (i := 6) rfl rfl rfl rfl (vAdd (nP cx (i := 6) rfl rfl rfl rfl) (now (frz (fLc cx [("pair", 10)] rfl rfl (fun _ => rfl) (it_seq (sv_slice (nP cx (i := 3) rfl rfl rfl rfl) (sN) (sp_some (now (sv_call cx (fn__law_next T) (by decide) (cx.gl rfl) rfl (sa_cons (nP cx (i := 0) rfl rfl rfl rfl) rfl (sa_cons (now (cI)) rfl (sa_nil))) (fun y hy => by simp only [List.mem_cons, List.not_mem_nil, or_false] at hy; rcases hy with rfl | rfl <;> rfl)))))) (fun _ cx' => tg_name cx' (i := 10) rfl rfl rfl) (fun _ cx' => sts_one (tCmp cx' .nin (nP cx' (i := 10) rfl rfl rfl rfl) (nP cx' (i := 6) rfl rfl rfl rfl) rfl)) (fun _ cx' => nV cx' (i := 10) rfl rfl rfl rfl))))))
    (sb_nil)))
    (sb_nil))
    (sb_cons (ss_if (SWh.st (sw_and (tCmp cx .eq (nP cx (i := 4) rfl rfl rfl rfl) (now (cI)) rfl) (tAnd1 (tCmp cx .gt (nP cx (i := 1) rfl rfl rfl rfl) (now (cI)) rfl))))
    (sb_cons (ss_setV cx (i := 6) rfl rfl rfl rfl (vAdd (now (frz (fLc cx [("at", 5)] rfl rfl (fun _ => rfl) (it_range1 cx rfl (sl_cons (vSub (nP cx (i := 1) rfl rfl rfl rfl) (now (cI))) rfl (lN)) rfl) (fun _ cx' => tg_name cx' (i := 5) rfl rfl rfl) (fun _ cx' => sts_nil) (fun _ cx' => sv_tup (sl_cons (nV cx' (i := 5) rfl rfl rfl rfl) rfl (sl_cons (vAdd (nP cx' (i := 5) rfl rfl rfl rfl) (now (cI))) rfl (lN))))))) (now (frz (sf_lst (sl_cons (sv_tup (sl_cons (cI) rfl (sl_cons (vSub (nP cx (i := 1) rfl rfl rfl rfl) (now (cI))) rfl (lN)))) rfl (lN)))))))
    (sb_nil))
    (sb_nil))
    (sb_cons (ssLcV cx [("one", 8), ("other", 9)] (i := 7) rfl rfl (cx.sw rfl) rfl rfl (fun _ => rfl) (it_var cx (i := 6) rfl rfl rfl rfl) (fun _ cx' => tg_tup cx'.calm (tgs_cons (tg_name cx' (i := 8) rfl rfl rfl) rfl (tgs_cons (tg_name cx' (i := 9) rfl rfl rfl) rfl (tgs_nil))) rfl rfl) (fun _ cx' => sts_nil) (fun _ cx' => vIf (tCmp cx' .eq (now (sv_call cx' (fn__law_next T) (by decide) (cx'.gl rfl) rfl (sa_cons (nP cx' (i := 0) rfl rfl rfl rfl) rfl (sa_cons (now (cI)) rfl (sa_nil))) (fun y hy => by simp only [List.mem_cons, List.not_mem_nil, or_false] at hy; rcases hy with rfl | rfl <;> rfl))) (now (cI)) rfl) (sv_tup (sl_cons (vIx cx' (nP cx' (i := 2) rfl rfl rfl rfl) (nP cx' (i := 8) rfl rfl rfl rfl) rfl) rfl (sl_cons (vIx cx' (nP cx' (i := 2) rfl rfl rfl rfl) (nP cx' (i := 9) rfl rfl rfl rfl) rfl) rfl (lN)))) (sv_tup (sl_cons (vIx cx' (nP cx' (i := 2) rfl rfl rfl rfl) (nP cx' (i := 9) rfl rfl rfl rfl) rfl) rfl (sl_cons (vIx cx' (nP cx' (i := 2) rfl rfl rfl rfl) (nP cx' (i := 8) rfl rfl rfl rfl) rfl) rfl (lN))))))
    (sb_cons (ss_ret (sv_tup (sl_cons (vTuple cx rfl (nP cx (i := 2) rfl rfl rfl rfl) rfl) rfl (sl_cons (vTuple cx rfl (now (sv_call cx (fn__law_shuffled T) (by decide) (cx.gl rfl) rfl (sa_cons (nP cx (i := 0) rfl rfl rfl rfl) rfl (sa_cons (nP cx (i := 7) rfl rfl rfl rfl) rfl (sa_nil))) (fun y hy => by simp only [List.mem_cons, List.not_mem_nil, or_false] at hy; rcases hy with rfl | rfl <;> rfl))) rfl) rfl (lN)))))
    (sb_nil))))))))
theorem sc__law_spring : FnScope ["script", "k", "cell"] ["script", "k"] (defScope st__law_spring) := ⟨rfl, rfl, rfl, by decide +kernel, rfl, by decide +kernel, by decide +kernel⟩
def body__law_spring : State → Option (Out × State) := bCons (asgV 2 (ifF (bin2 (cmpop .lt) (preVar 1) (nowF (un1 lenD (preVar 0)))) (bin2 idxD (preVar 0) (preVar 1)) (bin2 (binop .add) (nowF (bin2 (binop .mul) (nowF (conF (.int 977))) (preVar 1))) (nowF (bin2 (binop .mul) (nowF (conF (.int 31))) (nowF (un1 lenD (preVar 0))))))))
  (bCons (retF (frzF (lstF (consF (bin2 maxD (nowF (conF (.int 0))) (nowF (bin2 (binop .sub) (preVar 2) (nowF (bin2 (binop .pow) (nowF (conF (.int 10))) (nowF (conF (.int 18)))))))) (consF (bin2 (binop .mod) (nowF (un1 intD (nowF (bin2 (binop .add) (nowF (bin2 (binop .add) (nowF (bin2 (binop .mul) (preVar 2) (nowF (conF (.int 65537))))) (nowF (bin2 (binop .mul) (nowF (conF (.int 7919))) (preVar 1))))) (nowF (conF (.int 271))))))) (nowF (bin2 (binop .add) (nowF (bin2 (binop .pow) (nowF (conF (.int 10))) (nowF (conF (.int 36))))) (nowF (conF (.int 67)))))) (consF (conF (.int 0)) (nilL)))))))
  (bNil))
def sem__law_spring : FSem := runDef 2 3 body__law_spring
def kw__law_spring : List KwPat := []
theorem fn__law_spring {P : Program} {w : World} {K : PySem.W.Frag} {mg : Str → Option Value} {base : Heap} (T : Tops K mg) : FnAt P w K mg base 1 "_law_spring" 2 kw__law_spring sem__law_spring := by
  refine T.d__law_spring.fn (k := 0) sc__law_spring T.free (fun X e1 e2 e3 e4 e5 cx => ?_) (fun _ _ _ _ _ _ us hl => match us, hl with | [_, _], _ => rfl) (fun q hq => by simp [kw__law_spring] at hq)
  subst e1 e2 e3 e4 e5
  exact sb_cons (ss_setV cx (i := 2) rfl rfl rfl rfl (vIf (tCmp cx .lt (nP cx (i := 1) rfl rfl rfl rfl) (now (vLen cx rfl (nP cx (i := 0) rfl rfl rfl rfl) rfl)) rfl) (vIx cx (nP cx (i := 0) rfl rfl rfl rfl) (nP cx (i := 1) rfl rfl rfl rfl) rfl) (vAdd (now (vMul (now (cI)) (nP cx (i := 1) rfl rfl rfl rfl))) (now (vMul (now (cI)) (now (vLen cx rfl (nP cx (i := 0) rfl rfl rfl rfl) rfl)))))))
    (sb_cons (ss_ret (frz (sf_lst (sl_cons (vMax cx rfl (now (cI)) (now (vSub (nP cx (i := 2) rfl rfl rfl rfl) (now (vPow (now (cI)) (now (cI)))))) rfl rfl) rfl (sl_cons (vMod (now (vInt cx rfl (now (vAdd (now (vAdd (now (vMul (nP cx (i := 2) rfl rfl rfl rfl) (now (cI)))) (now (vMul (now (cI)) (nP cx (i := 1) rfl rfl rfl rfl))))) (now (cI)))) rfl)) (now (vAdd (now (vPow (now (cI)) (now (cI)))) (now (cI))))) rfl (sl_cons (cI) rfl (lN)))))))
    (sb_nil))
theorem sc_law : FnScope ["script", "k", "spring", "web", "one", "kept", "two", "three", "first", "second", "drawn", "told", "odd", "thing"] ["script"] (defScope st_law) := ⟨rfl, rfl, rfl, by decide +kernel, rfl, by decide +kernel, by decide +kernel⟩
def body_law : State → Option (Out × State) := bCons (forF (itR rng1 (consF (bin2 maxD (nowF (conF (.int 2))) (nowF (bin2 minD (nowF (un1 lenD (preVar 0))) (nowF (conF (.int 3)))))) (nilL))) (gName1 1)
  (bCons (asgC 2 (callL sem__law_spring 2 (consP (preVar 0) (consP (preVar 1) (nilP)))))
  (bCons (asgV 3 (callF sem__law_web 2 (consP (preVar 2) (consP (nowF (bin2 (binop .add) (nowF (conF (.int 1))) (nowF (callF sem__law_next 2 (consP (preVar 2) (consP (nowF (conF (.int 8))) (nilP))))))) (nilP)))))
  (bCons (parF [4, 5] (consM (mkV (callF sem__law_order 2 (consP (preVar 2) (consP (preVar 3) (nilP))))) (consM (mkV (un1 reprD (preVar 3))) (nilM))))
  (bCons (asgV 6 (callF sem__law_walked 3 (consP (preVar 3) (consP (preVar 4) (consP (nowF (callF sem__law_wandered 4 (consP (preVar 2) (consP (preVar 3) (consP (preVar 4) (consP (nowF (conF (.int 20))) (nilP))))))) (nilP))))))
  (bCons (asgV 7 (callF sem__law_walked 3 (consP (preVar 3) (consP (preVar 6) (consP (nowF (callF sem__law_wandered 4 (consP (preVar 2) (consP (preVar 3) (consP (preVar 6) (consP (nowF (conF (.int 9))) (nilP))))))) (nilP))))))
  (bCons (parF [8, 9] (consM (mkV (callF sem_exchanges 3 (consP (preVar 3) (consP (preVar 4) (consP (preVar 6) (nilP)))))) (consM (mkV (callF sem_exchanges 3 (consP (preVar 3) (consP (preVar 6) (consP (preVar 7) (nilP)))))) (nilM))))
  (bCons (sIf (either (bin2 (cmpop .is_) (preVar 8) (nowF (conF .none))) (either (bin2 (cmpop .is_) (preVar 9) (nowF (conF .none))) (bin2 (cmpop .ne) (nowF (callK sem_exchanges 3 kw_exchanges_0 (consP (preVar 6) (consP (preVar 4) (consP (preVar 3) (nilP)))))) (preVar 8))))
  (bCons (retF (conF (.bool false)))
  (bNil))
  (bNil))
  (bCons (sIf (either (bin2 (cmpop .isn) (nowF (callF sem_exchanges_hold 4 (consP (preVar 3) (consP (preVar 4) (consP (preVar 7) (consP (nowF (bin2 (binop .add) (preVar 8) (preVar 9))) (nilP))))))) (nowF (conF (.bool true)))) (bin2 (cmpop .isn) (nowF (callF sem_exchanges_hold 4 (consP (preVar 3) (consP (preVar 6) (consP (preVar 4) (consP (nowF (backF (lkF 8))) (nilP))))))) (nowF (conF (.bool true)))))
  (bCons (retF (conF (.bool false)))
  (bNil))
  (bNil))
  (bCons (sIf (either (notT (tst1 (nowF (callF sem__law_list_right 5 (consP (preVar 2) (consP (preVar 3) (consP (preVar 4) (consP (preVar 6) (consP (preVar 8) (nilP)))))))))) (notT (tst1 (nowF (callF sem__law_list_right 5 (consP (preVar 2) (consP (preVar 3) (consP (preVar 4) (consP (preVar 7) (consP (nowF (bin2 (binop .add) (preVar 8) (preVar 9))) (nilP)))))))))))
  (bCons (retF (conF (.bool false)))
  (bNil))
  (bNil))
  (bCons (asgV 10 (callF sem__law_order 2 (consP (preVar 2) (consP (preVar 3) (nilP)))))
  (bCons (asgV 11 (callF sem_exchanges 3 (consP (preVar 3) (consP (preVar 4) (consP (preVar 10) (nilP))))))
  (bCons (sIf (either (bin2 (cmpop .eq) (nowF (bin2 (cmpD .is_) (preVar 11) (nowF (conF .none)))) (nowF (callF sem_are_alike 3 (consP (preVar 3) (consP (preVar 4) (consP (preVar 10) (nilP))))))) (both (bin2 (cmpop .isn) (preVar 11) (nowF (conF .none))) (notT (tst1 (nowF (callF sem__law_list_right 5 (consP (preVar 2) (consP (preVar 3) (consP (preVar 4) (consP (preVar 10) (consP (preVar 11) (nilP))))))))))))
  (bCons (retF (conF (.bool false)))
  (bNil))
  (bNil))
  (bCons (sIf (both (bin2 (cmpop .is_) (preVar 11) (nowF (conF .none))) (bin2 (cmpop .ne) (nowF (frzF (lcF (([("thing", 13)] : List (Str × Nat)).map (·.2)) (itF (frzF (lstF (consF (conF .none) (consF (frzF (lstF (nilL))) (consF (lkF 8) (consF (frzF (lstF (consF (conF (.int 0)) (nilL)))) (consF (bin2 (binop .add) (preVar 8) (preVar 9)) (nilL))))))))) (gName1 13) (bin2 (cmpop .isn) (nowF (callF sem_exchanges_hold 4 (consP (preVar 3) (consP (preVar 4) (consP (preVar 10) (consP (preVar 13) (nilP))))))) (nowF (conF (.bool false)))) (lkF 13)))) (nowF (frzF (lstF (nilL))))))
  (bCons (retF (conF (.bool false)))
  (bNil))
  (bNil))
  (bCons (asgV 12 (frzF (lstF (consF (conF .none) (consF (un1 tupleD (preVar 8)) (consF (bin2 (binop .add) (preVar 8) (nowF (frzF (lstF (consF (conF .none) (nilL)))))) (consF (bin2 (binop .add) (preVar 8) (nowF (frzF (lstF (consF (conF (.bool true)) (nilL)))))) (consF (bin2 (binop .add) (nowF (frzF (lstF (consF (conF (.str "0")) (nilL))))) (preVar 8)) (consF (conF (.int 0)) (consF (bin2 (binop .add) (preVar 8) (nowF (frzF (lstF (consF (negF (nowF (conF (.int 1)))) (nilL)))))) (consF (bin2 (binop .add) (preVar 8) (nowF (frzF (lstF (consF (bin2 (binop .sub) (nowF (un1 lenD (preVar 4))) (nowF (conF (.int 1)))) (nilL)))))) (nilL))))))))))))
  (bCons (sIf (either (bin2 (cmpop .ne) (nowF (frzF (lcF (([("thing", 13)] : List (Str × Nat)).map (·.2)) (itVar 12) (gName1 13) (bin2 (cmpop .isn) (nowF (callF sem_exchanges_hold 4 (consP (preVar 3) (consP (preVar 4) (consP (preVar 6) (consP (preVar 13) (nilP))))))) (nowF (conF (.bool false)))) (lkF 13)))) (nowF (frzF (lstF (nilL))))) (bin2 (cmpop .ne) (nowF (un1 reprD (preVar 3))) (preVar 5)))
  (bCons (retF (conF (.bool false)))
  (bNil))
  (bNil))
  (bNil)))))))))))))))))
  (bCons (retF (conF (.bool true)))
  (bNil))
def sem_law : FSem := runDef 1 14 body_law
def kw_law : List KwPat := []
theorem fn_law {P : Program} {w : World} {K : PySem.W.Frag} {mg : Str → Option Value} {base : Heap} (T : Tops K mg) : FnAt P w K mg base 10 "law" 1 kw_law sem_law := by
  refine T.d_law.fn (k := 9) sc_law T.free (fun X e1 e2 e3 e4 e5 cx => ?_) (fun _ _ _ _ _ _ us hl => match us, hl with | [_], _ => rfl) (fun q hq => by simp [kw_law] at hq)
  subst e1 e2 e3 e4 e5
  exact sb_cons (ss_for cx (it_range1 cx rfl (sl_cons (vMax cx rfl (now (cI)) (now (vMin cx rfl (now (vLen cx rfl (nP cx (i := 0) rfl rfl rfl rfl) rfl)) (now (cI)) rfl rfl)) rfl rfl) rfl (lN)) rfl) (tg_name cx (i := 1) rfl rfl rfl)
    (sb_cons (ss_setC cx (i := 2) rfl rfl rfl rfl (sf_call cx (fn__law_spring T) (by decide) (cx.gl rfl) rfl (sa_cons (nP cx (i := 0) rfl rfl rfl rfl) rfl (sa_cons (nP cx (i := 1) rfl rfl rfl rfl) rfl (sa_nil))) (fun y hy => by simp only [List.mem_cons, List.not_mem_nil, or_false] at hy; rcases hy with rfl | rfl <;> rfl)))
    (sb_cons (ss_setV cx (i := 3) rfl rfl rfl rfl (sv_call cx (fn__law_web T) (by decide) (cx.gl rfl) rfl (sa_cons (nP cx (i := 2) rfl rfl rfl rfl) rfl (sa_cons (now (vAdd (now (cI)) (now (sv_call cx (fn__law_next T) (by decide) (cx.gl rfl) rfl (sa_cons (nP cx (i := 2) rfl rfl rfl rfl) rfl (sa_cons (now (cI)) rfl (sa_nil))) (fun y hy => by simp only [List.mem_cons, List.not_mem_nil, or_false] at hy; rcases hy with rfl | rfl <;> rfl))))) rfl (sa_nil))) (fun y hy => by simp only [List.mem_cons, List.not_mem_nil, or_false] at hy; rcases hy with rfl | rfl <;> rfl)))
    (sb_cons (ss_parT cx (is := [4, 5]) (⟨4, _, rfl, rfl, rfl, rfl, ⟨5, _, rfl, rfl, rfl, rfl, rfl⟩⟩) (sm_cons (mV (sv_call cx (fn__law_order T) (by decide) (cx.gl rfl) rfl (sa_cons (nP cx (i := 2) rfl rfl rfl rfl) rfl (sa_cons (nP cx (i := 3) rfl rfl rfl rfl) rfl (sa_nil))) (fun y hy => by simp only [List.mem_cons, List.not_mem_nil, or_false] at hy; rcases hy with rfl | rfl <;> rfl))) rfl (sm_cons (mV (vRepr cx rfl (nP cx (i := 3) rfl rfl rfl rfl) rfl)) rfl (sm_nil))) rfl (cx.swp rfl) (by decide))
    (sb_cons (ss_setV cx (i := 6) rfl rfl rfl rfl (sv_call cx (fn__law_walked T) (by decide) (cx.gl rfl) rfl (sa_cons (nP cx (i := 3) rfl rfl rfl rfl) rfl (sa_cons (nP cx (i := 4) rfl rfl rfl rfl) rfl (sa_cons (now (sv_call cx (fn__law_wandered T) (by decide) (cx.gl rfl) rfl (sa_cons (nP cx (i := 2) rfl rfl rfl rfl) rfl (sa_cons (nP cx (i := 3) rfl rfl rfl rfl) rfl (sa_cons (nP cx (i := 4) rfl rfl rfl rfl) rfl (sa_cons (now (cI)) rfl (sa_nil))))) (fun y hy => by simp only [List.mem_cons, List.not_mem_nil, or_false] at hy; rcases hy with rfl | rfl | rfl | rfl <;> rfl))) rfl (sa_nil)))) (fun y hy => by simp only [List.mem_cons, List.not_mem_nil, or_false] at hy; rcases hy with rfl | rfl | rfl <;> rfl)))
    (sb_cons (ss_setV cx (i := 7) rfl rfl rfl rfl (sv_call cx (fn__law_walked T) (by decide) (cx.gl rfl) rfl (sa_cons (nP cx (i := 3) rfl rfl rfl rfl) rfl (sa_cons (nP cx (i := 6) rfl rfl rfl rfl) rfl (sa_cons (now (sv_call cx (fn__law_wandered T) (by decide) (cx.gl rfl) rfl (sa_cons (nP cx (i := 2) rfl rfl rfl rfl) rfl (sa_cons (nP cx (i := 3) rfl rfl rfl rfl) rfl (sa_cons (nP cx (i := 6) rfl rfl rfl rfl) rfl (sa_cons (now (cI)) rfl (sa_nil))))) (fun y hy => by simp only [List.mem_cons, List.not_mem_nil, or_false] at hy; rcases hy with rfl | rfl | rfl | rfl <;> rfl))) rfl (sa_nil)))) (fun y hy => by simp only [List.mem_cons, List.not_mem_nil, or_false] at hy; rcases hy with rfl | rfl | rfl <;> rfl)))
    (sb_cons (ss_par2 cx (i := 8) (j := 9) rfl rfl (by decide) rfl rfl (sm_cons (mV (sv_call cx (fn_exchanges T) (by decide) (cx.gl rfl) rfl (sa_cons (nP cx (i := 3) rfl rfl rfl rfl) rfl (sa_cons (nP cx (i := 4) rfl rfl rfl rfl) rfl (sa_cons (nP cx (i := 6) rfl rfl rfl rfl) rfl (sa_nil)))) (fun y hy => by simp only [List.mem_cons, List.not_mem_nil, or_false] at hy; rcases hy with rfl | rfl | rfl <;> rfl))) rfl (sm_cons (mV (sv_call cx (fn_exchanges T) (by decide) (cx.gl rfl) rfl (sa_cons (nP cx (i := 3) rfl rfl rfl rfl) rfl (sa_cons (nP cx (i := 6) rfl rfl rfl rfl) rfl (sa_cons (nP cx (i := 7) rfl rfl rfl rfl) rfl (sa_nil)))) (fun y hy => by simp only [List.mem_cons, List.not_mem_nil, or_false] at hy; rcases hy with rfl | rfl | rfl <;> rfl))) rfl (sm_nil))) (cx.swp rfl) rfl)
    (sb_cons (ss_if (SWh.st (sw_or (tCmp cx .is_ (nP cx (i := 8) rfl rfl rfl rfl) (now (cN)) rfl) (sw_or (tCmp cx .is_ (nP cx (i := 9) rfl rfl rfl rfl) (now (cN)) rfl) (tOr1 (tCmp cx .ne (now (sv_callk cx (fn_exchanges T) (by simp [kw_exchanges]) (by decide) (cx.gl rfl) rfl (sk_cons (nP cx (i := 6) rfl rfl rfl rfl) (sk_cons (nP cx (i := 4) rfl rfl rfl rfl) (sk_cons (nP cx (i := 3) rfl rfl rfl rfl) (sk_nil)))) rfl rfl rfl)) (nP cx (i := 8) rfl rfl rfl rfl) rfl)))))
    (sb_cons (ss_ret (cB))
    (sb_nil))
    (sb_nil))
    (sb_cons (ss_if (SWh.st (sw_or (tCmp cx .isn (now (sv_call cx (fn_exchanges_hold T) (by decide) (cx.gl rfl) rfl (sa_cons (nP cx (i := 3) rfl rfl rfl rfl) rfl (sa_cons (nP cx (i := 4) rfl rfl rfl rfl) rfl (sa_cons (nP cx (i := 7) rfl rfl rfl rfl) rfl (sa_cons (now (vAdd (nP cx (i := 8) rfl rfl rfl rfl) (nP cx (i := 9) rfl rfl rfl rfl))) rfl (sa_nil))))) (fun y hy => by simp only [List.mem_cons, List.not_mem_nil, or_false] at hy; rcases hy with rfl | rfl | rfl | rfl <;> rfl))) (now (cB)) rfl) (tOr1 (tCmp cx .isn (now (sv_call cx (fn_exchanges_hold T) (by decide) (cx.gl rfl) rfl (sa_cons (nP cx (i := 3) rfl rfl rfl rfl) rfl (sa_cons (nP cx (i := 6) rfl rfl rfl rfl) rfl (sa_cons (nP cx (i := 4) rfl rfl rfl rfl) rfl (sa_cons (now (sv_back (nV cx (i := 8) rfl rfl rfl rfl))) rfl (sa_nil))))) (fun y hy => by simp only [List.mem_cons, List.not_mem_nil, or_false] at hy; rcases hy with rfl | rfl | rfl | rfl <;> rfl))) (now (cB)) rfl))))
    (sb_cons (ss_ret (cB))
    (sb_nil))
    (sb_nil))
    (sb_cons (ss_if (SWh.st (sw_or (tNot (st_pre (now (sv_call cx (fn__law_list_right T) (by decide) (cx.gl rfl) rfl (sa_cons (nP cx (i := 2) rfl rfl rfl rfl) rfl (sa_cons (nP cx (i := 3) rfl rfl rfl rfl) rfl (sa_cons (nP cx (i := 4) rfl rfl rfl rfl) rfl (sa_cons (nP cx (i := 6) rfl rfl rfl rfl) rfl (sa_cons (nP cx (i := 8) rfl rfl rfl rfl) rfl (sa_nil)))))) (fun y hy => by simp only [List.mem_cons, List.not_mem_nil, or_false] at hy; rcases hy with rfl | rfl | rfl | rfl | rfl <;> rfl))) rfl)) (tOr1 (tNot (st_pre (now (sv_call cx (fn__law_list_right T) (by decide) (cx.gl rfl) rfl (sa_cons (nP cx (i := 2) rfl rfl rfl rfl) rfl (sa_cons (nP cx (i := 3) rfl rfl rfl rfl) rfl (sa_cons (nP cx (i := 4) rfl rfl rfl rfl) rfl (sa_cons (nP cx (i := 7) rfl rfl rfl rfl) rfl (sa_cons (now (vAdd (nP cx (i := 8) rfl rfl rfl rfl) (nP cx (i := 9) rfl rfl rfl rfl))) rfl (sa_nil)))))) (fun y hy => by simp only [List.mem_cons, List.not_mem_nil, or_false] at hy; rcases hy with rfl | rfl | rfl | rfl | rfl <;> rfl))) rfl)))))
    (sb_cons (ss_ret (cB))
    (sb_nil))
    (sb_nil))
    (sb_cons (ss_setV cx (i := 10) rfl rfl rfl rfl (sv_call cx (fn__law_order T) (by decide) (cx.gl rfl) rfl (sa_cons (nP cx (i := 2) rfl rfl rfl rfl) rfl (sa_cons (nP cx (i := 3) rfl rfl rfl rfl) rfl (sa_nil))) (fun y hy => by simp only [List.mem_cons, List.not_mem_nil, or_false] at hy; rcases hy with rfl | rfl <;> rfl)))
    (sb_cons (ss_setV cx (i := 11) rfl rfl rfl rfl (sv_call cx (fn_exchanges T) (by decide) (cx.gl rfl) rfl (sa_cons (nP cx (i := 3) rfl rfl rfl rfl) rfl (sa_cons (nP cx (i := 4) rfl rfl rfl rfl) rfl (sa_cons (nP cx (i := 10) rfl rfl rfl rfl) rfl (sa_nil)))) (fun y hy => by simp only [List.mem_cons, List.not_mem_nil, or_false] at hy; rcases hy with rfl | rfl | rfl <;> rfl)))
    (sb_cons (ss_if (SWh.st (sw_or (tCmp cx .eq (now (vCmp cx .is_ (nP cx (i := 11) rfl rfl rfl rfl) (now (cN)) rfl)) (now (sv_call cx (fn_are_alike T) (by decide) (cx.gl rfl) rfl (sa_cons (nP cx (i := 3) rfl rfl rfl rfl) rfl (sa_cons (nP cx (i := 4) rfl rfl rfl rfl) rfl (sa_cons (nP cx (i := 10) rfl rfl rfl rfl) rfl (sa_nil)))) (fun y hy => by simp only [List.mem_cons, List.not_mem_nil, or_false] at hy; rcases hy with rfl | rfl | rfl <;> rfl))) rfl) (tOr1 (SWh.st (sw_and (tCmp cx .isn (nP cx (i := 11) rfl rfl rfl rfl) (now (cN)) rfl) (tAnd1 (tNot (st_pre (now (sv_call cx (fn__law_list_right T) (by decide) (cx.gl rfl) rfl (sa_cons (nP cx (i := 2) rfl rfl rfl rfl) rfl (sa_cons (nP cx (i := 3) rfl rfl rfl rfl) rfl (sa_cons (nP cx (i := 4) rfl rfl rfl rfl) rfl (sa_cons (nP cx (i := 10) rfl rfl rfl rfl) rfl (sa_cons (nP cx (i := 11) rfl rfl rfl rfl) rfl (sa_nil)))))) (fun y hy => by simp only [List.mem_cons, List.not_mem_nil, or_false] at hy; rcases hy with rfl | rfl | rfl | rfl | rfl <;> rfl))) rfl))))))))
    (sb_cons (ss_ret (cB))
    (sb_nil))
    (sb_nil))
    (sb_cons (ss_if (SWh.st (sw_and (tCmp cx .is_ (nP cx (i := 11) rfl rfl rfl rfl) (now (cN)) rfl) (tAnd1 (tCmp cx .ne (now (frz (fLc cx [("thing", 13)] rfl rfl (fun _ => rfl) (it_seq (frz (sf_lst (sl_cons (cN) rfl (sl_cons (frz (sf_lst (lN))) rfl (sl_cons (nV cx (i := 8) rfl rfl rfl rfl) rfl (sl_cons (frz (sf_lst (sl_cons (cI) rfl (lN)))) rfl (sl_cons (vAdd (nP cx (i := 8) rfl rfl rfl rfl) (nP cx (i := 9) rfl rfl rfl rfl)) rfl (lN))))))))) (fun _ cx' => tg_name cx' (i := 13) rfl rfl rfl) (fun _ cx' => sts_one (tCmp cx' .isn (now (sv_call cx' (fn_exchanges_hold T) (by decide) (cx'.gl rfl) rfl (sa_cons (nP cx' (i := 3) rfl rfl rfl rfl) rfl (sa_cons (nP cx' (i := 4) rfl rfl rfl rfl) rfl (sa_cons (nP cx' (i := 10) rfl rfl rfl rfl) rfl (sa_cons (nP cx' (i := 13) rfl rfl rfl rfl) rfl (sa_nil))))) (fun y hy => by simp only [List.mem_cons, List.not_mem_nil, or_false] at hy; rcases hy with rfl | rfl | rfl | rfl <;> rfl))) (now (cB)) rfl)) (fun _ cx' => nV cx' (i := 13) rfl rfl rfl rfl)))) (now (frz (sf_lst (lN)))) rfl))))
    (sb_cons (ss_ret (cB))
    (sb_nil))
    (sb_nil))
    (sb_cons (ss_setV cx (i := 12) rfl rfl rfl rfl (frz (sf_lst (sl_cons (cN) rfl (sl_cons (vTuple cx rfl (nP cx (i := 8) rfl rfl rfl rfl) rfl) rfl (sl_cons (vAdd (nP cx (i := 8) rfl rfl rfl rfl) (now (frz (sf_lst (sl_cons (cN) rfl (lN)))))) rfl (sl_cons (vAdd (nP cx (i := 8) rfl rfl rfl rfl) (now (frz (sf_lst (sl_cons (cB) rfl (lN)))))) rfl (sl_cons (vAdd (now (frz (sf_lst (sl_cons (cS) rfl (lN))))) (nP cx (i := 8) rfl rfl rfl rfl)) rfl (sl_cons (cI) rfl (sl_cons (vAdd (nP cx (i := 8) rfl rfl rfl rfl) (now (frz (sf_lst (sl_cons (sv_neg (now (cI))) rfl (lN)))))) rfl (sl_cons (vAdd (nP cx (i := 8) rfl rfl rfl rfl) (now (frz (sf_lst (sl_cons (vSub (now (vLen cx rfl (nP cx (i := 4) rfl rfl rfl rfl) rfl)) (now (cI))) rfl (lN)))))) rfl (lN))))))))))))
    (sb_cons (ss_if (SWh.st (sw_or (tCmp cx .ne (now (frz (fLc cx [("thing", 13)] rfl rfl (fun _ => rfl) (it_var cx (i := 12) rfl rfl rfl rfl) (fun _ cx' => tg_name cx' (i := 13) rfl rfl rfl) (fun _ cx' => sts_one (tCmp cx' .isn (now (sv_call cx' (fn_exchanges_hold T) (by decide) (cx'.gl rfl) rfl (sa_cons (nP cx' (i := 3) rfl rfl rfl rfl) rfl (sa_cons (nP cx' (i := 4) rfl rfl rfl rfl) rfl (sa_cons (nP cx' (i := 6) rfl rfl rfl rfl) rfl (sa_cons (nP cx' (i := 13) rfl rfl rfl rfl) rfl (sa_nil))))) (fun y hy => by simp only [List.mem_cons, List.not_mem_nil, or_false] at hy; rcases hy with rfl | rfl | rfl | rfl <;> rfl))) (now (cB)) rfl)) (fun _ cx' => nV cx' (i := 13) rfl rfl rfl rfl)))) (now (frz (sf_lst (lN)))) rfl) (tOr1 (tCmp cx .ne (now (vRepr cx rfl (nP cx (i := 3) rfl rfl rfl rfl) rfl)) (nP cx (i := 5) rfl rfl rfl rfl) rfl))))
    (sb_cons (ss_ret (cB))
    (sb_nil))
    (sb_nil))
    (sb_nil)))))))))))))))) (fun _ => rfl))
    (sb_cons (ss_ret (cB))
    (sb_nil))
end W10

end
section
namespace IRP
open PySem IR
open PyData (strOk)
/-! texts and webs as data -/
def S (l : List Str) : List D := l.map PyData.str
def rd (r : Str × Str) : D := .tuple [.str r.1, .str r.2]
def R (l : List (Str × Str)) : List D := l.map rd
def I (l : List Int) : List D := l.map PyData.int
theorem S_nil : S [] = [] := rfl
theorem S_cons (x : Str) (l : List Str) : S (x :: l) = .str x :: S l := rfl
theorem R_nil : R [] = [] := rfl
theorem R_cons (x : Str × Str) (l : List (Str × Str)) : R (x :: l) = .tuple [.str x.1, .str x.2] :: R l := rfl
theorem I_nil : I [] = [] := rfl
theorem I_cons (x : Int) (l : List Int) : I (x :: l) = .int x :: I l := rfl
theorem S_len (l : List Str) : (S l).length = l.length := List.length_map _
theorem R_len (l : List (Str × Str)) : (R l).length = l.length := List.length_map _
theorem I_len (l : List Int) : (I l).length = l.length := List.length_map _
abbrev webD (ns : List Str) (rs : List (Str × Str)) : D := .tuple [.tuple (S ns), .tuple (R rs)]
def OkS (ns : List Str) : Prop := ∀ x ∈ ns, strOk x = true
def OkR (rs : List (Str × Str)) : Prop := ∀ r ∈ rs, strOk r.1 = true ∧ strOk r.2 = true
theorem lay_S : ∀ {ns : List Str}, OkS ns → PyData.canLayAll0 (S ns) = true
  | [], _ => by simp [S_nil, R_nil, I_nil, PyData.canLayAll0]
  | x :: ns, h => by
    simp only [S_cons, R_cons, I_cons, PyData.canLayAll0, PyData.canLay0, Bool.and_eq_true]
    exact ⟨h x (by simp), lay_S fun y hy => h y (by simp [hy])⟩
theorem depth_S : ∀ ns : List Str, PyData.depthAll (S ns) = 0
  | [] => by simp [S_nil, R_nil, I_nil, PyData.depthAll]
  | x :: ns => by
    simp only [S_cons, R_cons, I_cons, PyData.depthAll, PyData.depth, depth_S ns]
    rfl
theorem lay_I : ∀ ns : List Int, PyData.canLayAll0 (I ns) = true
  | [] => by simp [S_nil, R_nil, I_nil, PyData.canLayAll0]
  | x :: ns => by
    simp only [S_cons, R_cons, I_cons, PyData.canLayAll0, PyData.canLay0, lay_I ns]
    rfl
theorem depth_I : ∀ ns : List Int, PyData.depthAll (I ns) = 0
  | [] => by simp [S_nil, R_nil, I_nil, PyData.depthAll]
  | x :: ns => by
    simp only [S_cons, R_cons, I_cons, PyData.depthAll, PyData.depth, depth_I ns]
    rfl
theorem lay_R : ∀ {rs : List (Str × Str)}, OkR rs → PyData.canLayAll0 (R rs) = true
  | [], _ => by simp [S_nil, R_nil, I_nil, PyData.canLayAll0]
  | x :: rs, h => by
    have h1 := h x (by simp)
    have h2 := lay_R fun y hy => h y (List.mem_cons_of_mem x hy)
    simp only [S_cons, R_cons, I_cons, PyData.canLayAll0, PyData.canLay0, Bool.and_eq_true]
    exact ⟨⟨h1.1, h1.2, trivial⟩, h2⟩
theorem depth_R : ∀ rs : List (Str × Str), PyData.depthAll (R rs) ≤ 1
  | [] => by simp [S_nil, R_nil, I_nil, PyData.depthAll]
  | x :: rs => by
    have := depth_R rs
    simp only [S_cons, R_cons, I_cons, PyData.depthAll, PyData.depth]
    omega
theorem sh_str {x : Str} (h : strOk x = true) : SeqAt.shaped (.str x) = true := by simp [SeqAt.shaped, PyData.canLay0, PyData.depth, h]
theorem sh_S {ns : List Str} (h : OkS ns) : SeqAt.shaped (.tuple (S ns)) = true := by simp [SeqAt.shaped, PyData.canLay0, PyData.depth, depth_S, lay_S h]
theorem sh_Sl {ns : List Str} (h : OkS ns) : SeqAt.shaped (.list (S ns)) = true := by simp [SeqAt.shaped, PyData.canLay0, PyData.depth, depth_S, lay_S h]
theorem sh_I (ns : List Int) : SeqAt.shaped (.list (I ns)) = true := by simp [SeqAt.shaped, PyData.canLay0, PyData.depth, depth_I, lay_I]
theorem sh_R {rs : List (Str × Str)} (h : OkR rs) : SeqAt.shaped (.tuple (R rs)) = true := by
  have := depth_R rs
  have e : PyData.depth (.tuple (R rs)) = PyData.depthAll (R rs) + 1 := by simp only [PyData.depth]
  have e2 : PyData.canLay0 (.tuple (R rs)) = true := by simp only [PyData.canLay0, lay_R h]
  have e3 : PyData.depth (.tuple (R rs)) ≤ 64 := by omega
  unfold SeqAt.shaped
  rw [e2, decide_eq_true e3]
  rfl
theorem sh_two {x y : Str} (h : strOk x = true) (h' : strOk y = true) : SeqAt.shaped (.tuple [.str x, .str y]) = true := sh_S (ns := [x, y]) (by intro z hz; simp at hz; rcases hz with rfl | rfl <;> assumption)
theorem eqv_str (x y : Str) : PyData.eqv (.str x) (.str y) = decide (x = y) := by
  simp only [PyData.eqv]
  by_cases e : x = y
  · simp [e]
  · simp [e]
theorem any_S (ns : List Str) (x : Str) : (S ns).any (fun z => PyData.eqv z (.str x)) = decide (x ∈ ns) := by
  induction ns with
  | nil => simp [S_nil, R_nil]
  | cons y ns ih =>
    rw [S_cons, List.any_cons, ih, eqv_str]
    by_cases e : y = x
    · simp [e]
    · have e' : ¬ x = y := fun q => e q.symm
      simp [e, e']
theorem any_R (rs : List (Str × Str)) (p q : Str) : (R rs).any (fun z => PyData.eqv z (.tuple [.str p, .str q])) = decide ((p, q) ∈ rs) := by
  induction rs with
  | nil => simp [S_nil, R_nil]
  | cons y rs ih =>
    obtain ⟨a, b⟩ := y
    rw [R_cons, List.any_cons, ih]
    simp only [PyData.eqv, PyData.eqvAll, Bool.and_true]
    by_cases e : a = p
    · by_cases e2 : b = q
      · subst e e2
        simp
      · have e' : ¬ q = b := fun q => e2 q.symm
        simp [e, e2, e']
    · have e' : ¬ p = a := fun q => e q.symm
      simp [e, e']
theorem eqvAll_S : ∀ xs ys : List Str, PyData.eqvAll (S xs) (S ys) = decide (xs = ys)
  | [], [] => by simp [S_nil, I_nil, PyData.eqvAll]
  | [], y :: ys => by simp [S_nil, I_nil, S_cons, I_cons, PyData.eqvAll]
  | x :: xs, [] => by simp [S_nil, I_nil, S_cons, I_cons, PyData.eqvAll]
  | x :: xs, y :: ys => by
    simp only [S_cons, R_cons, I_cons, PyData.eqvAll, eqv_str, eqvAll_S xs ys]
    by_cases e : x = y <;> simp [e]
theorem eqvAll_I : ∀ xs ys : List Int, PyData.eqvAll (I xs) (I ys) = decide (xs = ys)
  | [], [] => by simp [S_nil, I_nil, PyData.eqvAll]
  | [], y :: ys => by simp [S_nil, I_nil, S_cons, I_cons, PyData.eqvAll]
  | x :: xs, [] => by simp [S_nil, I_nil, S_cons, I_cons, PyData.eqvAll]
  | x :: xs, y :: ys => by
    simp only [S_cons, R_cons, I_cons, PyData.eqvAll, PyData.eqv, eqvAll_I xs ys]
    by_cases e : x = y <;> simp [e]
theorem allStrs_S : ∀ ns : List Str, allStrs (S ns) = some ns
  | [] => rfl
  | x :: ns => by simp only [S_cons, R_cons, I_cons, allStrs, allStrs_S ns, Option.map]
theorem lfAll_S : ∀ ns : List Str, lfAll (S ns) = true
  | [] => by simp [S_nil, lfAll]
  | x :: ns => by
    simp only [S_cons, R_cons, I_cons, lfAll, lf, lfAll_S ns]
    rfl
theorem allBools_map {α : Type} (f : α → Bool) : ∀ l : List α, allBools (l.map fun x => .bool (f x)) = some (l.map f)
  | [] => rfl
  | x :: l => by simp only [List.map_cons, allBools, allBools_map f l, Option.map]
def ix (ns : List Str) (x : Str) : Nat := ns.idxOf x
theorem find_ix {x : Str} : ∀ {ns : List Str}, x ∈ ns → (ns.findIdx? fun y => decide (y = x)) = some (ix ns x)
  | [], h => by simp at h
  | y :: ns, h => by
    unfold ix
    rw [List.findIdx?_cons, List.idxOf_cons]
    by_cases e : y = x
    · simp [e]
    · have hx : x ∈ ns := by
        rcases List.mem_cons.mp h with h | h
        · exact absurd h.symm e
        · exact h
      have e2 : (y == x) = false := by simp [e]
      have := find_ix hx
      unfold ix at this
      simp [e, e2, this]
theorem index_S {ns : List Str} {x : Str} (h : x ∈ ns) : indexD (.tuple (S ns)) (.str x) = some (.int (ix ns x)) := by
  show (allStrs (S ns)).bind (fun ys => Option.map (fun (j : Nat) => PyData.int (j : Int)) (List.findIdx? (fun y => decide (y = x)) ys)) = _
  rw [allStrs_S, Option.bind_some, find_ix h]
  rfl
/-! loops -/
theorem lc_map {vs : List Nat} {g : Item → State → Option State} {ft : State → Option (Bool × State)} {fe : State → Option (D × State)} {s : State} (o : Item → Option D) : ∀ {its : List Item}, (∀ it ∈ its, lcTurn vs g ft fe it s = some (o it, s)) → lcGo vs g ft fe its s = some (its.filterMap o, s)
  | [], _ => rfl
  | it :: its, h => by
    unfold lcGo
    rw [h it (by simp), Option.bind_some, lc_map o fun x hx => h x (by simp [hx]), Option.map_some, List.filterMap_cons]
    cases o it <;> rfl
theorem lc_all {α : Type} {vs : List Nat} {g : Item → State → Option State} {ft : State → Option (Bool × State)} {fe : State → Option (D × State)} {s : State} (c : α → D) (f : α → D) {l : List α} (h : ∀ a ∈ l, lcTurn vs g ft fe (.one (c a)) s = some (some (f a), s)) : lcGo vs g ft fe (ones (l.map c)) s = some (l.map f, s) := by
  induction l with
  | nil => rfl
  | cons a l ih =>
    have e : ones ((a :: l).map c) = .one (c a) :: ones (l.map c) := rfl
    rw [e]
    unfold lcGo
    rw [h a (by simp), Option.bind_some, ih fun x hx => h x (by simp [hx])]
    rfl
theorem lc_filter {α : Type} {vs : List Nat} {g : Item → State → Option State} {ft : State → Option (Bool × State)} {fe : State → Option (D × State)} {s : State} (c : α → D) (p : α → Bool) (f : α → D) {l : List α} (h : ∀ a ∈ l, lcTurn vs g ft fe (.one (c a)) s = some (if p a then some (f a) else none, s)) : lcGo vs g ft fe (ones (l.map c)) s = some ((l.filter p).map f, s) := by
  induction l with
  | nil => rfl
  | cons a l ih =>
    have e : ones ((a :: l).map c) = .one (c a) :: ones (l.map c) := rfl
    rw [e]
    unfold lcGo
    rw [h a (by simp), Option.bind_some, ih fun x hx => h x (by simp [hx]), List.filter_cons]
    cases p a <;> rfl
theorem lcF_filter {α : Type} {vs : List Nat} {fi : State → Option (List Item × State)} {g : Item → State → Option State} {ft : State → Option (Bool × State)} {fe : State → Option (D × State)} {s : State} (c : α → D) (p : α → Bool) (f : α → D) {l : List α} (hi : fi s = some (ones (l.map c), s)) (hl : l.length ≤ 1000000) (h : ∀ a ∈ l, lcTurn vs g ft fe (.one (c a)) s = some (if p a then some (f a) else none, s)) : lcF vs fi g ft fe s = some ((l.filter p).map f, s) := by
  unfold lcF
  rw [hi, Option.bind_some, lc_filter c p f h, Option.bind_some]
  have : (l.filter p).length ≤ l.length := List.length_filter_le p l
  have e : IR.sizeOk ((l.filter p).map f).length = true := by
    unfold IR.sizeOk
    rw [List.length_map, decide_eq_true_eq]
    omega
  simp only [e, if_true]
theorem lcF_all {α : Type} {vs : List Nat} {fi : State → Option (List Item × State)} {g : Item → State → Option State} {ft : State → Option (Bool × State)} {fe : State → Option (D × State)} {s : State} (c : α → D) (f : α → D) {l : List α} (hi : fi s = some (ones (l.map c), s)) (hl : l.length ≤ 1000000) (h : ∀ a ∈ l, lcTurn vs g ft fe (.one (c a)) s = some (some (f a), s)) : lcF vs fi g ft fe s = some (l.map f, s) := by
  unfold lcF
  rw [hi, Option.bind_some, lc_all c f h, Option.bind_some]
  have e : IR.sizeOk (l.map f).length = true := by
    unfold IR.sizeOk
    rw [List.length_map, decide_eq_true_eq]
    omega
  simp only [e, if_true]
theorem lc_allI {α : Type} {vs : List Nat} {g : Item → State → Option State} {ft : State → Option (Bool × State)} {fe : State → Option (D × State)} {s : State} (c : α → Item) (f : α → D) {l : List α} (h : ∀ a ∈ l, lcTurn vs g ft fe (c a) s = some (some (f a), s)) : lcGo vs g ft fe (l.map c) s = some (l.map f, s) := by
  induction l with
  | nil => rfl
  | cons a l ih =>
    rw [List.map_cons]
    unfold lcGo
    rw [h a (by simp), Option.bind_some, ih fun x hx => h x (by simp [hx])]
    rfl
theorem lcF_allI {α : Type} {vs : List Nat} {fi : State → Option (List Item × State)} {g : Item → State → Option State} {ft : State → Option (Bool × State)} {fe : State → Option (D × State)} {s : State} (c : α → Item) (f : α → D) {l : List α} (hi : fi s = some (l.map c, s)) (hl : l.length ≤ 1000000) (h : ∀ a ∈ l, lcTurn vs g ft fe (c a) s = some (some (f a), s)) : lcF vs fi g ft fe s = some (l.map f, s) := by
  unfold lcF
  rw [hi, Option.bind_some, lc_allI c f h, Option.bind_some]
  have e : IR.sizeOk (l.map f).length = true := by
    unfold IR.sizeOk
    rw [List.length_map, decide_eq_true_eq]
    omega
  simp only [e, if_true]
theorem num_map {α : Type} (f : α → D) (l : List α) : IR.numbered (l.map f) = l.zipIdx.map fun p => Item.two (.int (p.2 : Nat)) (f p.1) := by
  unfold IR.numbered
  rw [List.zipIdx_map, List.map_map]
  rfl
theorem cut_lo {α : Type} (xs : List α) (n : Nat) : cut xs none (some (n : Int)) = xs.take n := by
  unfold cut
  rw [HT.sIx_none, HT.sIx_nat, List.drop_zero, Nat.sub_zero]
  by_cases h : n ≤ xs.length
  · rw [Nat.min_eq_left h]
  · rw [Nat.min_eq_right (by omega), List.take_length, List.take_of_length_le (by omega)]
theorem b_add_i (i j : Int) : binop .add (.int i) (.int j) = some (.int (i + j)) := rfl
theorem b_sub_i (i j : Int) : binop .sub (.int i) (.int j) = some (.int (i - j)) := rfl
theorem b_add_l {xs ys : List D} (h : xs.length + ys.length ≤ 1000000) : binop .add (.list xs) (.list ys) = some (.list (xs ++ ys)) := by
  have e : IR.sizeOk (xs ++ ys).length = true := by
    unfold IR.sizeOk
    rw [List.length_append, decide_eq_true_eq]
    exact h
  show mkL (xs ++ ys) = _
  unfold mkL
  rw [if_pos e]
theorem b_add_t {xs ys : List D} (h : xs.length + ys.length ≤ 1000000) : binop .add (.tuple xs) (.tuple ys) = some (.tuple (xs ++ ys)) := by
  have e : IR.sizeOk (xs ++ ys).length = true := by
    unfold IR.sizeOk
    rw [List.length_append, decide_eq_true_eq]
    exact h
  show mkT (xs ++ ys) = _
  unfold mkT
  rw [if_pos e]
theorem b_add_s {x y : Str} (h : x.length + y.length ≤ sizeLine) : binop .add (.str x) (.str y) = some (.str (x ++ y)) := by
  show (if x.length + y.length ≤ sizeLine then some (PyData.str (x ++ y)) else Option.none) = _
  rw [if_pos h]
theorem b_mod {i j : Int} (h : 0 < j) : binop .mod (.int i) (.int j) = some (.int (i % j)) := by
  show (if 0 < j then some (PyData.int (i % j)) else Option.none) = _
  rw [if_pos h]
theorem b_mul_l {xs : List D} {k : Int} (h : -(2 ^ 62) ≤ k ∧ k < 2 ^ 62) (h2 : k.toNat * xs.length ≤ 1000000) : binop .mul (.list xs) (.int k) = some (.list (List.replicate k.toNat xs).flatten) := by
  show (if -(2 ^ 62) ≤ k ∧ k < 2 ^ 62 then mkL (List.replicate k.toNat xs).flatten else Option.none) = _
  rw [if_pos h]
  unfold mkL IR.sizeOk
  rw [if_pos]
  simp [h2]
/-! places -/
theorem at_nat {α : Type} (xs : List α) (n : Nat) : L2.atI xs (n : Int) = xs[n]? := by
  unfold L2.atI L2.ixN
  rw [if_pos (by omega)]
  by_cases h : n < xs.length
  · rw [if_pos (by omega)]; rfl
  · rw [if_neg (by omega), List.getElem?_eq_none (by omega)]; rfl
theorem at_s {α : Type} (xs : List α) (n : Nat) : L2.atI xs ((n : Int) + 1) = xs[n + 1]? := at_nat xs (n + 1)
theorem at0 {α : Type} (xs : List α) : L2.atI xs 0 = xs[0]? := at_nat xs 0
theorem at1 {α : Type} (xs : List α) : L2.atI xs 1 = xs[1]? := at_nat xs 1
theorem at2 {α : Type} (xs : List α) : L2.atI xs 2 = xs[2]? := at_nat xs 2
theorem at_last {α : Type} (xs : List α) (h : 0 < xs.length) : L2.atI xs (-1) = xs[xs.length - 1]? := by
  unfold L2.atI L2.ixN
  rw [if_neg (by omega), if_pos (by omega)]
  have e : ((-1 : Int) + xs.length).toNat = xs.length - 1 := by omega
  rw [e]
  rfl
theorem cut_lo1 {α : Type} (xs : List α) : cut xs Option.none (some 1) = xs.take 1 := cut_lo xs 1
theorem cut_hi {α : Type} (xs : List α) (n : Nat) : cut xs (some (n : Int)) Option.none = xs.drop n := by
  unfold cut
  rw [HT.sIx_none, HT.sIx_nat]
  by_cases h : n ≤ xs.length
  · rw [Nat.min_eq_left h, List.take_of_length_le (by simp)]
  · rw [Nat.min_eq_right (by omega), List.take_of_length_le (by simp), List.drop_eq_nil_of_le (by omega), List.drop_eq_nil_of_le (by omega)]
theorem cut_his {α : Type} (xs : List α) (n : Nat) : cut xs (some ((n : Int) + 1)) Option.none = xs.drop (n + 1) := cut_hi xs (n + 1)
theorem cut_hiss {α : Type} (xs : List α) (n : Nat) : cut xs (some ((n : Int) + 2)) Option.none = xs.drop (n + 2) := cut_hi xs (n + 2)
theorem cut_hi1 {α : Type} (xs : List α) : cut xs (some 1) Option.none = xs.drop 1 := cut_hi xs 1
/-! rows of numbers -/
def N (l : List Nat) : List D := l.map fun (n : Nat) => PyData.int (n : Int)
theorem N_len (l : List Nat) : (N l).length = l.length := List.length_map _
theorem N_get {row : List Nat} {i : Nat} (h : i < row.length) : (N row)[i]? = some (.int (row.getD i 0 : Nat)) := by
  unfold N
  rw [List.getElem?_map, List.getD_eq_getElem?_getD, List.getElem?_eq_getElem (by omega)]
  rfl
theorem N_eq (l : List Nat) : N l = I (l.map fun (n : Nat) => (n : Int)) := by
  unfold N I
  rw [List.map_map]
  rfl
theorem sh_N (l : List Nat) : SeqAt.shaped (.list (N l)) = true := by
  rw [N_eq]
  exact sh_I _
theorem eqv_N (a b : List Nat) : PyData.eqv (.list (N a)) (.list (N b)) = decide (a = b) := by
  simp only [PyData.eqv]
  rw [N_eq, N_eq, eqvAll_I]
  have : (a.map (fun (n : Nat) => (n : Int)) = b.map fun (n : Nat) => (n : Int)) ↔ a = b := by
    constructor
    · intro h
      exact List.map_inj_right (fun (x y : Nat) (e : (x : Int) = (y : Int)) => Int.ofNat.inj e) |>.mp h
    · intro h; rw [h]
  simp only [this]
/-! dicts that keep keys alone -/
def keyD (ks : List Nat) (acc : List (D × D)) : List (D × D) := ks.foldl (fun acc (k : Nat) => put (.int (k : Int)) (.bool true) acc) acc
def tiedD (ks : List Nat) : D := .dict (keyD ks [])
theorem inKeys_put (a b : Int) (kvs : List (D × D)) : inKeys (.int a) (put (.int b) (.bool true) kvs) = (decide (a = b) || inKeys (.int a) kvs) := by
  unfold put
  split
  · rename_i h
    have h1 : ∀ l : List (D × D), inKeys (.int a) (l.map fun p => if keyEq p.1 (.int b) then (p.1, .bool true) else p) = inKeys (.int a) l := by
      intro l
      unfold inKeys
      rw [List.any_map]
      congr 1
      funext p
      simp only [Function.comp]
      split <;> rfl
    rw [h1]
    by_cases e : a = b
    · subst e
      simp [h]
    · simp [e]
  · unfold inKeys
    rw [List.any_append]
    by_cases e : a = b
    · subst e
      simp [keyEq]
    · have e' : ¬ b = a := fun q => e q.symm
      simp [keyEq, e, e']
theorem inKeys_keyD (a : Nat) : ∀ (ks : List Nat) (acc : List (D × D)), inKeys (.int a) (keyD ks acc) = (decide (a ∈ ks) || inKeys (.int a) acc)
  | [], acc => by simp [keyD]
  | k :: ks, acc => by
    have := inKeys_keyD a ks (put (.int (k : Int)) (.bool true) acc)
    unfold keyD at this ⊢
    rw [List.foldl_cons, this, inKeys_put]
    by_cases e : a = k
    · subst e
      simp
    · have : ¬ (a : Int) = (k : Int) := by omega
      simp [e, this]
theorem put_len (k v : D) (kvs : List (D × D)) : (put k v kvs).length ≤ kvs.length + 1 := by
  unfold put
  split
  · simp
  · simp
theorem dc_keys {vs : List Nat} {g : Item → State → Option State} {ft : State → Option (Bool × State)} {fk fe : State → Option (D × State)} {s : State} : ∀ {ks : List Nat} {acc : List (D × D)}, acc.length + ks.length ≤ 1000000 → (∀ k ∈ ks, dcTurn vs g ft fk fe (.one (.int (k : Nat))) s = some (some (.int (k : Nat), .bool true), s)) → dcGo vs g ft fk fe (ones (N ks)) s acc = some (keyD ks acc, s)
  | [], acc, _, _ => rfl
  | k :: ks, acc, hl, h => by
    have e : ones (N (k :: ks)) = .one (.int (k : Nat)) :: ones (N ks) := rfl
    rw [e]
    unfold dcGo
    have e1 : IR.sizeOk acc.length = true := by
      unfold IR.sizeOk
      rw [List.length_cons] at hl
      rw [decide_eq_true_eq]
      omega
    rw [h k (by simp), Option.bind_some]
    simp only [e1, if_true]
    have := put_len (.int (k : Int)) (.bool true) acc
    exact dc_keys (by rw [List.length_cons] at hl; omega) fun x hx => h x (by simp [hx])
/-! steps -/
section
variable {c : State → Option (Bool × State)} {f g k k' : State → Option (Out × State)} {s s1 s' : State} {d : D} {e : State → Option (D × State)}
theorem st_t (h : c s = some (true, s)) : bCons (sIf c f g) k s = bCons f k s := by
  unfold bCons sIf
  rw [h]
  rfl
theorem st_f (h : c s = some (false, s)) : bCons (sIf c f g) k s = bCons g k s := by
  unfold bCons sIf
  rw [h]
  rfl
theorem st_t1 (h : c s = some (true, s1)) : bCons (sIf c f g) k s = bCons f k s1 := by
  unfold bCons sIf
  rw [h]
  rfl
theorem st_f1 (h : c s = some (false, s1)) : bCons (sIf c f g) k s = bCons g k s1 := by
  unfold bCons sIf
  rw [h]
  rfl
theorem st_nil : bCons bNil k s = k s := rfl
theorem st_ret (h : e s = some (d, s')) : bCons (retF e) k s = some (.ret d, s') := by
  unfold bCons retF
  rw [h]
  rfl
theorem st_in (h : f s = some (.ret d, s')) : bCons f k s = some (.ret d, s') := by
  unfold bCons
  rw [h]
  rfl
theorem st_go (h : f s = some (.next, s1)) : bCons f k s = k s1 := by
  unfold bCons
  rw [h]
  rfl
theorem st_asg {i : Nat} (h : e s = some (d, s1)) : bCons (asgV i e) k s = k ⟨s1.env.set i (.val d), s1.cs⟩ := by
  unfold bCons asgV
  rw [h]
  rfl
theorem run_p {np n : Nat} {body : State → Option (Out × State)} {args : List IR.Arg} {cs : Cells} {env' : List Slot} (hl : args.length = np) (h : body ⟨args.map argSlot ++ List.replicate (n - np) .emp, cs⟩ = some (.ret d, ⟨env', cs⟩)) : runDef np n body args cs = some (d, cs) := by
  unfold runDef
  rw [if_pos hl, h]
  simp
theorem run_n {np n : Nat} {body : State → Option (Out × State)} {args : List IR.Arg} {cs : Cells} {env' : List Slot} (hl : args.length = np) (h : body ⟨args.map argSlot ++ List.replicate (n - np) .emp, cs⟩ = some (.next, ⟨env', cs⟩)) : runDef np n body args cs = some (.none, cs) := by
  unfold runDef
  rw [if_pos hl, h]
  simp
theorem run_c {np n : Nat} {body : State → Option (Out × State)} {args : List IR.Arg} {cs cs' : Cells} {env' : List Slot} (hl : args.length = np) (h : body ⟨args.map argSlot ++ List.replicate (n - np) .emp, cs⟩ = some (.ret d, ⟨env', cs'⟩)) (hc : cs'.length = cs.length) : runDef np n body args cs = some (d, cs') := by
  unfold runDef
  rw [if_pos hl, h, ← hc]
  simp
end
end IRP

end
section
/-! Wp: what a text does, said backwards: Ok f s Q is "f from s ends, and Q holds of what it gives and of the state behind it". One rule a construct; no machine here. -/
namespace IRP
open PySem IR
open PyData (strOk)
def Ok {α : Type} (f : State → Option (α × State)) (s : State) (Q : α → State → Prop) : Prop := ∃ a s', f s = some (a, s') ∧ Q a s'
def OkC (fs : FSem) (args : List IR.Arg) (cs : Cells) (Q : D → Cells → Prop) : Prop := ∃ d cs', fs args cs = some (d, cs') ∧ Q d cs'
def Val {α : Type} (o : Option α) (Q : α → Prop) : Prop := ∃ a, o = some a ∧ Q a
theorem val_of {α : Type} {o : Option α} {Q : α → Prop} {a : α} (h : o = some a) (q : Q a) : Val o Q := ⟨a, h, q⟩
theorem val_mono {α : Type} {o : Option α} {Q R : α → Prop} (h : Val o Q) (m : ∀ a, Q a → R a) : Val o R := by
  obtain ⟨a, e, q⟩ := h
  exact ⟨a, e, m a q⟩
/-- a side condition of a rule -/
def Also (a b : Prop) : Prop := a ∧ b
theorem also {a b : Prop} (h : a) (q : b) : Also a b := ⟨h, q⟩
/-! values that can be read off -/
section
variable {s : State} {p : Pre} {d x y : D} {i j : Int} {a b : Str} {ds : List D} {n : Nat}
theorem v_post {Q : D → Prop} (h : post s p = some d) (q : Q d) : Val (post s p) Q := ⟨d, h, q⟩
theorem v_fin {ps : List Pre} {l : List IR.Arg} {Q : List IR.Arg → Prop} (h : finArgs s ps = some l) (q : Q l) : Val (finArgs s ps) Q := ⟨l, h, q⟩
theorem v_box {Q : List D → Prop} (h : atBox n s = some ds) (q : Q ds) : Val (atBox n s) Q := ⟨_, h, q⟩
theorem v_dbox {l : List (D × D)} {Q : List (D × D) → Prop} (h : atDbox n s = some l) (q : Q l) : Val (atDbox n s) Q := ⟨_, h, q⟩
theorem v_cell {m : Nat} {Q : Nat → Prop} (h : atCell n s = some m) (q : Q m) : Val (atCell n s) Q := ⟨_, h, q⟩
theorem v_name {Q : State → Prop} (q : Q (setV n d s)) : Val (gName1 n (.one d) s) Q := ⟨_, rfl, q⟩
theorem v_tup2 {g1 g2 : Item → State → Option State} {Q : State → Prop} (q : Val (g1 (.one x) s) fun s1 => Val (g2 (.one y) s1) Q) : Val (gTup1 2 (gCons1 g1 (gCons1 g2 gNil1)) (.one (.tuple [x, y])) s) Q := by
  obtain ⟨s1, e1, s2, e2, h⟩ := q
  refine ⟨s2, ?_, h⟩
  unfold gTup1 gCons1
  simp only [List.length_cons, List.length_nil, if_true, e1, Option.bind_some]
  simp only [e2, Option.bind_some]
  rfl
theorem v_tup2l {g1 g2 : Item → State → Option State} {Q : State → Prop} (q : Val (g1 (.one x) s) fun s1 => Val (g2 (.one y) s1) Q) : Val (gTup1 2 (gCons1 g1 (gCons1 g2 gNil1)) (.one (.list [x, y])) s) Q := by
  obtain ⟨s1, e1, s2, e2, h⟩ := q
  refine ⟨s2, ?_, h⟩
  unfold gTup1 gCons1
  simp only [List.length_cons, List.length_nil, if_true, e1, Option.bind_some]
  simp only [e2, Option.bind_some]
  rfl
theorem v_two {g1 g2 : Item → State → Option State} {Q : State → Prop} (q : Val (g1 (.one x) s) fun s1 => Val (g2 (.one y) s1) Q) : Val (gTup1 2 (gCons1 g1 (gCons1 g2 gNil1)) (.two x y) s) Q := by
  obtain ⟨s1, e1, s2, e2, h⟩ := q
  refine ⟨s2, ?_, h⟩
  unfold gTup1 gCons1
  simp only [if_true, e1, Option.bind_some]
  simp only [e2, Option.bind_some]
  rfl
theorem v_tup3 {z : D} {g1 g2 g3 : Item → State → Option State} {Q : State → Prop} (q : Val (g1 (.one x) s) fun s1 => Val (g2 (.one y) s1) fun s2 => Val (g3 (.one z) s2) Q) : Val (gTup1 3 (gCons1 g1 (gCons1 g2 (gCons1 g3 gNil1))) (.one (.tuple [x, y, z])) s) Q := by
  obtain ⟨s1, e1, s2, e2, s3, e3, h⟩ := q
  refine ⟨s3, ?_, h⟩
  unfold gTup1 gCons1
  simp only [List.length_cons, List.length_nil, if_true, e1, Option.bind_some]
  simp only [e2, Option.bind_some]
  simp only [e3, Option.bind_some]
  rfl
theorem v_len {Q : D → Prop} (q : Q (.int ds.length)) : Val (lenD (.list ds)) Q := ⟨_, rfl, q⟩
theorem v_lent {Q : D → Prop} (q : Q (.int ds.length)) : Val (lenD (.tuple ds)) Q := ⟨_, rfl, q⟩
theorem v_add {Q : D → Prop} (q : Q (.int (i + j))) : Val (binop .add (.int i) (.int j)) Q := ⟨_, rfl, q⟩
theorem v_sub {Q : D → Prop} (q : Q (.int (i - j))) : Val (binop .sub (.int i) (.int j)) Q := ⟨_, rfl, q⟩
theorem v_lt {Q : Bool → Prop} (q : Q (decide (i < j))) : Val (cmpop .lt (.int i) (.int j)) Q := ⟨_, rfl, q⟩
theorem v_le {Q : Bool → Prop} (q : Q (decide (i ≤ j))) : Val (cmpop .le (.int i) (.int j)) Q := ⟨_, rfl, q⟩
theorem v_gt {Q : Bool → Prop} (q : Q (decide (j < i))) : Val (cmpop .gt (.int i) (.int j)) Q := ⟨_, rfl, q⟩
theorem v_ge {Q : Bool → Prop} (q : Q (decide (j ≤ i))) : Val (cmpop .ge (.int i) (.int j)) Q := ⟨_, rfl, q⟩
theorem v_eq {Q : Bool → Prop} (q : Q (decide (i = j))) : Val (cmpop .eq (.int i) (.int j)) Q := ⟨_, rfl, q⟩
theorem v_ne {Q : Bool → Prop} (q : Q (!decide (i = j))) : Val (cmpop .ne (.int i) (.int j)) Q := ⟨_, rfl, q⟩
theorem v_eqs {Q : Bool → Prop} (q : Q (decide (a = b))) : Val (cmpop .eq (.str a) (.str b)) Q := ⟨_, rfl, q⟩
theorem v_nes {Q : Bool → Prop} (q : Q (!decide (a = b))) : Val (cmpop .ne (.str a) (.str b)) Q := ⟨_, rfl, q⟩
theorem v_isN {Q : Bool → Prop} (q : Q (isNone x)) : Val (cmpop .is_ x .none) Q := ⟨_, rfl, q⟩
theorem v_isnN {Q : Bool → Prop} (q : Q (!isNone x)) : Val (cmpop .isn x .none) Q := ⟨_, rfl, q⟩
theorem v_isB {c e : Bool} {Q : Bool → Prop} (q : Q (c == e)) : Val (cmpop .is_ (.bool c) (.bool e)) Q := ⟨_, rfl, q⟩
theorem v_isnB {c e : Bool} {Q : Bool → Prop} (q : Q (!(c == e))) : Val (cmpop .isn (.bool c) (.bool e)) Q := ⟨_, rfl, q⟩
theorem v_cmpD {op : Cop} {Q : D → Prop} (q : Val (cmpop op x y) fun b => Q (.bool b)) : Val (cmpD op x y) Q := by
  obtain ⟨c, e, h⟩ := q
  exact ⟨_, by unfold cmpD; rw [e]; rfl, h⟩
theorem v_trub {c : Bool} {Q : Bool → Prop} (q : Q c) : Val (IR.truthy (.bool c)) Q := ⟨_, rfl, q⟩
theorem v_truN {Q : Bool → Prop} (q : Q false) : Val (IR.truthy .none) Q := ⟨_, rfl, q⟩
theorem v_trui {Q : Bool → Prop} (q : Q (i != 0)) : Val (IR.truthy (.int i)) Q := ⟨_, rfl, q⟩
theorem v_trul {Q : Bool → Prop} (q : Q (!ds.isEmpty)) : Val (IR.truthy (.list ds)) Q := ⟨_, rfl, q⟩
theorem v_trut {Q : Bool → Prop} (q : Q (!ds.isEmpty)) : Val (IR.truthy (.tuple ds)) Q := ⟨_, rfl, q⟩
theorem v_t0 {Q : D → Prop} (q : Q x) : Val (idxD (.tuple (x :: ds)) (.int 0)) Q := ⟨x, (by show L2.atI (x :: ds) ((0 : Nat) : Int) = _; rw [at_nat]; rfl), q⟩
theorem v_l0 {Q : D → Prop} (q : Q x) : Val (idxD (.list (x :: ds)) (.int 0)) Q := ⟨x, (by show L2.atI (x :: ds) ((0 : Nat) : Int) = _; rw [at_nat]; rfl), q⟩
theorem v_t1 {Q : D → Prop} (q : Q y) : Val (idxD (.tuple (x :: y :: ds)) (.int 1)) Q := ⟨y, (by show L2.atI (x :: y :: ds) ((1 : Nat) : Int) = _; rw [at_nat]; rfl), q⟩
theorem v_l1 {Q : D → Prop} (q : Q y) : Val (idxD (.list (x :: y :: ds)) (.int 1)) Q := ⟨y, (by show L2.atI (x :: y :: ds) ((1 : Nat) : Int) = _; rw [at_nat]; rfl), q⟩
theorem v_t2 {z : D} {Q : D → Prop} (q : Q z) : Val (idxD (.tuple (x :: y :: z :: ds)) (.int 2)) Q := ⟨z, (by show L2.atI (x :: y :: z :: ds) ((2 : Nat) : Int) = _; rw [at_nat]; rfl), q⟩
theorem v_l2 {z : D} {Q : D → Prop} (q : Q z) : Val (idxD (.list (x :: y :: z :: ds)) (.int 2)) Q := ⟨z, (by show L2.atI (x :: y :: z :: ds) ((2 : Nat) : Int) = _; rw [at_nat]; rfl), q⟩
theorem v_seql {Q : List Item → Prop} (q : Q (ones ds)) : Val (seqItems (.list ds)) Q := ⟨_, rfl, q⟩
theorem v_seqt {Q : List Item → Prop} (q : Q (ones ds)) : Val (seqItems (.tuple ds)) Q := ⟨_, rfl, q⟩
theorem v_sll {lo hi : Option Int} {Q : D → Prop} (q : Q (.list (cut ds lo hi))) : Val (sliceD (.list ds) lo hi) Q := ⟨_, rfl, q⟩
theorem v_slt {lo hi : Option Int} {Q : D → Prop} (q : Q (.tuple (cut ds lo hi))) : Val (sliceD (.tuple ds) lo hi) Q := ⟨_, rfl, q⟩
theorem v_tul {Q : D → Prop} (q : Q (.tuple ds)) : Val (tupleD (.list ds)) Q := ⟨_, rfl, q⟩
theorem v_tut {Q : D → Prop} (q : Q (.tuple ds)) : Val (tupleD (.tuple ds)) Q := ⟨_, rfl, q⟩
theorem v_lil {Q : List D → Prop} (q : Q ds) : Val (listL (.list ds)) Q := ⟨_, rfl, q⟩
theorem v_lit {Q : List D → Prop} (q : Q ds) : Val (listL (.tuple ds)) Q := ⟨_, rfl, q⟩
theorem v_inti {Q : D → Prop} (q : Q (.int i)) : Val (intD (.int i)) Q := ⟨_, rfl, q⟩
theorem v_intb {c : Bool} {Q : D → Prop} (q : Q (.int (if c then 1 else 0))) : Val (intD (.bool c)) Q := ⟨_, rfl, q⟩
theorem v_max {Q : D → Prop} (q : Q (.int (if j > i then j else i))) : Val (maxD (.int i) (.int j)) Q := ⟨_, rfl, q⟩
theorem v_min {Q : D → Prop} (q : Q (.int (if j < i then j else i))) : Val (minD (.int i) (.int j)) Q := ⟨_, rfl, q⟩
theorem v_bvl {Q : D → Prop} (q : Q (.list ds.reverse)) : Val (revD (.list ds)) Q := ⟨_, rfl, q⟩
theorem v_bvt {Q : D → Prop} (q : Q (.tuple ds.reverse)) : Val (revD (.tuple ds)) Q := ⟨_, rfl, q⟩
theorem v_enum {Q : List Item → Prop} (q : Q (numbered ds)) : Val (enumItems [.list ds]) Q := ⟨_, rfl, q⟩
theorem rng1_nat {k : Nat} (h : k < 2 ^ 62) : rng1 [.int (k : Int)] = some (rangeItems 0 k) := by
  have e : small62 (k : Int) = true := by
    unfold small62
    simp only [Bool.and_eq_true, decide_eq_true_eq]
    constructor <;> omega
  show (if small62 (k : Int) then some (rangeItems 0 (k : Int).toNat) else Option.none) = _
  rw [if_pos e, Int.toNat_natCast]
theorem v_rng {Q : List Item → Prop} (h : n < 2 ^ 62) (q : Q (rangeItems 0 n)) : Val (rng1 [.int (n : Int)]) Q := ⟨_, rng1_nat h, q⟩
theorem v_pow {Q : D → Prop} (q : Q (.int (10 ^ n))) (h : n ≤ 1000) : Val (binop .pow (.int 10) (.int n)) Q := ⟨_, (by
  show (if 0 ≤ (n : Int) ∧ (bitsOf 10 : Int) * n ≤ 2 ^ 27 then some (PyData.int (10 ^ (n : Int).toNat)) else Option.none) = _
  have : bitsOf 10 = 4 := by decide
  rw [if_pos ⟨by omega, by rw [this]; omega⟩, Int.toNat_natCast]), q⟩
end
section
variable {α β : Type} {Q : α → State → Prop} {s : State}
theorem ok_of {f : State → Option (α × State)} {a : α} {s' : State} (h : f s = some (a, s')) (q : Q a s') : Ok f s Q := ⟨a, s', h, q⟩
theorem Ok.mono {f : State → Option (α × State)} {R : α → State → Prop} (h : Ok f s Q) (m : ∀ a s', Q a s' → R a s') : Ok f s R := by
  obtain ⟨a, s', e, q⟩ := h
  exact ⟨a, s', e, m a s' q⟩
theorem ok_bind {f : State → Option (α × State)} {g : α → State → Option (β × State)} {h : State → Option (β × State)} {R : β → State → Prop} (e : ∀ s, h s = (f s).bind fun p => g p.1 p.2) (q : Ok f s fun a s1 => Ok (g a) s1 R) : Ok h s R := by
  obtain ⟨a, s1, e1, b, s2, e2, r⟩ := q
  refine ⟨b, s2, ?_, r⟩
  rw [e, e1]
  exact e2
/-! values -/
theorem ok_pre {i : Nat} {p : Pre} {Q : Pre → State → Prop} (h : preVar i s = some (p, s)) (q : Q p s) : Ok (preVar i) s Q := ok_of h q
theorem ok_lk {i : Nat} {d : D} {s' : State} {Q : D → State → Prop} (h : lkSlot s i = some (d, s')) (q : Q d s') : Ok (lkF i) s Q := ok_of h q
theorem ok_con {d : D} {Q : D → State → Prop} (q : Q d s) : Ok (conF d) s Q := ok_of rfl q
theorem ok_now {f : State → Option (D × State)} {Q : Pre → State → Prop} (q : Ok f s fun d s1 => Q (.now d) s1) : Ok (nowF f) s Q := by
  obtain ⟨a, s1, e1, r⟩ := q
  exact ⟨_, _, by unfold nowF; rw [e1]; rfl, r⟩
theorem ok_frz {f : State → Option (List D × State)} {Q : D → State → Prop} (q : Ok f s fun d s1 => Q (.list d) s1) : Ok (frzF f) s Q := by
  obtain ⟨a, s1, e1, r⟩ := q
  exact ⟨_, _, by unfold frzF; rw [e1]; rfl, r⟩
theorem ok_dfz {f : State → Option (List (D × D) × State)} {Q : D → State → Prop} (q : Ok f s fun d s1 => Q (.dict d) s1) : Ok (dfzF f) s Q := by
  obtain ⟨a, s1, e1, r⟩ := q
  exact ⟨_, _, by unfold dfzF; rw [e1]; rfl, r⟩
theorem ok_bl {f : State → Option (Bool × State)} {Q : D → State → Prop} (q : Ok f s fun d s1 => Q (.bool d) s1) : Ok (blF f) s Q := by
  obtain ⟨a, s1, e1, r⟩ := q
  exact ⟨_, _, by unfold blF; rw [e1]; rfl, r⟩
theorem ok_notT {f : State → Option (Bool × State)} {Q : Bool → State → Prop} (q : Ok f s fun d s1 => Q (!d) s1) : Ok (notT f) s Q := by
  obtain ⟨a, s1, e1, r⟩ := q
  exact ⟨_, _, by unfold notT; rw [e1]; rfl, r⟩
theorem ok_boolF {f : State → Option (D × State)} {Q : Bool → State → Prop} (q : Ok f s fun d s1 => ∃ b, d = .bool b ∧ Q b s1) : Ok (boolF f) s Q := by
  obtain ⟨a, s1, e1, b, rfl, r⟩ := q
  exact ⟨_, _, by unfold boolF; rw [e1]; rfl, r⟩
theorem ok_notV {f : State → Option (D × State)} {Q : D → State → Prop} (q : Ok f s fun d s1 => ∃ b, d = .bool b ∧ Q (.bool !b) s1) : Ok (notV f) s Q := by
  obtain ⟨a, s1, e1, b, rfl, r⟩ := q
  exact ⟨_, _, by unfold notV boolF; rw [e1]; rfl, r⟩
theorem ok_bin2 {f : D → D → Option α} {fa fb : State → Option (Pre × State)} (q : Ok fa s fun p s1 => Ok fb s1 fun r s2 => Val (post s2 p) fun x => Val (post s2 r) fun y => Val (f x y) fun a => Q a s2) : Ok (bin2 f fa fb) s Q := by
  obtain ⟨p, s1, e1, r, s2, e2, x, e3, y, e4, a, e5, h⟩ := q
  refine ⟨a, s2, ?_, h⟩
  unfold bin2
  rw [e1, Option.bind_some, e2, Option.bind_some, e3, Option.bind_some, e4, Option.bind_some, e5]
  rfl
theorem ok_un1 {f : D → Option α} {fa : State → Option (Pre × State)} (q : Ok fa s fun p s1 => Val (post s1 p) fun x => Val (f x) fun a => Q a s1) : Ok (un1 f fa) s Q := by
  obtain ⟨p, s1, e1, x, e3, a, e5, h⟩ := q
  refine ⟨a, s1, ?_, h⟩
  unfold un1
  rw [e1, Option.bind_some, e3, Option.bind_some, e5]
  rfl
theorem ok_isi {T : Ty} {fa : State → Option (Pre × State)} {Q : D → State → Prop} (q : Ok fa s fun p s1 => Val (post s1 p) fun x => Q (.bool (isTy x T)) s1) : Ok (isiF T fa) s Q := by
  obtain ⟨p, s1, e1, x, e3, h⟩ := q
  exact ok_un1 ⟨p, s1, e1, x, e3, _, rfl, h⟩
theorem ok_neg {fa : State → Option (Pre × State)} {Q : D → State → Prop} (q : Ok fa s fun p s1 => Val (post s1 p) fun x => ∃ i, x = .int i ∧ Q (.int (-i)) s1) : Ok (negF fa) s Q := by
  obtain ⟨p, s1, e1, x, e3, i, rfl, h⟩ := q
  exact ok_un1 ⟨p, s1, e1, _, e3, _, rfl, h⟩
theorem ok_tst1 {fa : State → Option (Pre × State)} {Q : Bool → State → Prop} (q : Ok fa s fun p s1 => Val (post s1 p) fun x => Val (IR.truthy x) fun b => Q b s1) : Ok (tst1 fa) s Q := by
  obtain ⟨p, s1, e1, x, e3, a, e5, h⟩ := q
  refine ⟨a, s1, ?_, h⟩
  unfold tst1
  rw [e1, Option.bind_some, e3, Option.bind_some, e5]
  rfl
theorem ok_nonP {Q : Option Int → State → Prop} (q : Q none s) : Ok nonP s Q := ok_of rfl q
theorem ok_part {fa : State → Option (Pre × State)} {Q : Option Int → State → Prop} (q : Ok fa s fun p s1 => Val (post s1 p) fun x => ∃ i, x = .int i ∧ Q (some i) s1) : Ok (partF fa) s Q := by
  obtain ⟨p, s1, e1, x, e3, i, rfl, h⟩ := q
  refine ⟨_, s1, ?_, h⟩
  unfold partF
  rw [e1, Option.bind_some, e3, Option.bind_some]
  rfl
theorem ok_slice3 {f : D → Option Int → Option Int → Option α} {fa : State → Option (Pre × State)} {fl fh : State → Option (Option Int × State)} (q : Ok fa s fun p s1 => Ok fl s1 fun lo s2 => Ok fh s2 fun hi s3 => Val (post s3 p) fun x => Val (f x lo hi) fun a => Q a s3) : Ok (slice3 f fa fl fh) s Q := by
  obtain ⟨p, s1, e1, lo, s2, e2, hi, s3, e3, x, e4, a, e5, h⟩ := q
  refine ⟨a, s3, ?_, h⟩
  unfold slice3
  rw [e1, Option.bind_some, e2, Option.bind_some, e3, Option.bind_some, e4, Option.bind_some, e5]
  rfl
/-! tests -/
theorem ok_both {f g : State → Option (Bool × State)} {Q : Bool → State → Prop} (q : Ok f s fun b s1 => if b = true then Ok g s1 Q else Q false s1) : Ok (both f g) s Q := by
  obtain ⟨b, s1, e1, h⟩ := q
  cases b with
  | true =>
    obtain ⟨c, s2, e2, r⟩ := h
    exact ⟨c, s2, by unfold both; rw [e1]; exact e2, r⟩
  | false => exact ⟨false, s1, by unfold both; rw [e1]; rfl, h⟩
theorem ok_either {f g : State → Option (Bool × State)} {Q : Bool → State → Prop} (q : Ok f s fun b s1 => if b = true then Q true s1 else Ok g s1 Q) : Ok (either f g) s Q := by
  obtain ⟨b, s1, e1, h⟩ := q
  cases b with
  | false =>
    obtain ⟨c, s2, e2, r⟩ := h
    exact ⟨c, s2, by unfold either; rw [e1]; exact e2, r⟩
  | true => exact ⟨true, s1, by unfold either; rw [e1]; rfl, h⟩
theorem ok_bothV {f g : State → Option (D × State)} {Q : D → State → Prop} (q : Ok f s fun d s1 => ∃ b, d = .bool b ∧ if b = true then Ok g s1 Q else Q (.bool false) s1) : Ok (bothV f g) s Q := by
  obtain ⟨d, s1, e1, b, rfl, h⟩ := q
  cases b with
  | true =>
    obtain ⟨c, s2, e2, r⟩ := h
    exact ⟨c, s2, by unfold bothV boolF; rw [e1]; exact e2, r⟩
  | false => exact ⟨_, s1, by unfold bothV boolF; rw [e1]; rfl, h⟩
theorem ok_eitherV {f g : State → Option (D × State)} {Q : D → State → Prop} (q : Ok f s fun d s1 => ∃ b, d = .bool b ∧ if b = true then Q (.bool true) s1 else Ok g s1 Q) : Ok (eitherV f g) s Q := by
  obtain ⟨d, s1, e1, b, rfl, h⟩ := q
  cases b with
  | false =>
    obtain ⟨c, s2, e2, r⟩ := h
    exact ⟨c, s2, by unfold eitherV boolF; rw [e1]; exact e2, r⟩
  | true => exact ⟨_, s1, by unfold eitherV boolF; rw [e1]; rfl, h⟩
theorem ok_ife {c : State → Option (Bool × State)} {f g : State → Option (α × State)} (q : Ok c s fun b s1 => if b = true then Ok f s1 Q else Ok g s1 Q) : Ok (ifF c f g) s Q := by
  obtain ⟨b, s1, e1, h⟩ := q
  cases b with
  | false =>
    obtain ⟨c, s2, e2, r⟩ := h
    exact ⟨c, s2, by unfold ifF; rw [e1]; exact e2, r⟩
  | true =>
    obtain ⟨c, s2, e2, r⟩ := h
    exact ⟨c, s2, by unfold ifF; rw [e1]; exact e2, r⟩
theorem ok_chain3 {o1 o2 : Cop} {fa fb fc : State → Option (Pre × State)} {Q : Bool → State → Prop} (q : Ok fa s fun p s1 => Ok fb s1 fun r s2 => Val (post s2 p) fun x => Val (post s2 r) fun y => Val (cmpop o1 x y) fun b => if b = true then Ok fc s2 (fun t s3 => Val (post s3 r) fun y' => Val (post s3 t) fun z => Val (cmpop o2 y' z) fun b2 => Q b2 s3) else Q false s2) : Ok (chain3 o1 o2 fa fb fc) s Q := by
  obtain ⟨p, s1, e1, r, s2, e2, x, e3, y, e4, b, e5, h⟩ := q
  cases b with
  | true =>
    obtain ⟨t, s3, e6, y', e7, z, e8, b2, e9, h⟩ := h
    refine ⟨b2, s3, ?_, h⟩
    unfold chain3
    simp only [e1, e2, e3, e4, e5, Option.bind_some, if_true, e6, e7, e8, e9, Option.map_some]
  | false =>
    refine ⟨false, s2, ?_, h⟩
    unfold chain3
    simp only [e1, e2, e3, e4, e5, Option.bind_some, Bool.false_eq_true, if_false]
theorem br_t {b : Bool} {A B : Prop} (h : b = true) (q : A) : if b = true then A else B := by rw [if_pos h]; exact q
theorem br_f {b : Bool} {A B : Prop} (h : b = false) (q : B) : if b = true then A else B := by rw [if_neg (by rw [h]; exact Bool.false_ne_true)]; exact q
theorem br {b : Bool} {A B : Prop} (t : b = true → A) (f : b = false → B) : if b = true then A else B := by
  cases b with
  | true => exact t rfl
  | false => exact f rfl
theorem br_d {p : Prop} [Decidable p] {A B : Prop} (t : p → A) (f : ¬ p → B) : if decide p = true then A else B := by
  by_cases h : p
  · rw [if_pos (decide_eq_true h)]; exact t h
  · rw [if_neg (by simpa using h)]; exact f h
/-! lists -/
theorem ok_nilL {Q : List D → State → Prop} (q : Q [] s) : Ok nilL s Q := ok_of rfl q
theorem ok_newD {Q : List (D × D) → State → Prop} (q : Q [] s) : Ok newD s Q := ok_of rfl q
theorem ok_nilP {Q : List Pre → State → Prop} (q : Q [] s) : Ok nilP s Q := ok_of rfl q
theorem ok_nilM {Q : List Mk → State → Prop} (q : Q [] s) : Ok nilM s Q := ok_of rfl q
theorem ok_consF {f : State → Option (D × State)} {g : State → Option (List D × State)} {Q : List D → State → Prop} (q : Ok f s fun d s1 => Ok g s1 fun ds s2 => Q (d :: ds) s2) : Ok (consF f g) s Q := by
  obtain ⟨a, s1, e1, b, s2, e2, h⟩ := q
  refine ⟨_, s2, ?_, h⟩
  unfold consF
  rw [e1, Option.bind_some, e2]
  rfl
theorem ok_consP {f : State → Option (Pre × State)} {g : State → Option (List Pre × State)} {Q : List Pre → State → Prop} (q : Ok f s fun d s1 => Ok g s1 fun ds s2 => Q (d :: ds) s2) : Ok (consP f g) s Q := by
  obtain ⟨a, s1, e1, b, s2, e2, h⟩ := q
  refine ⟨_, s2, ?_, h⟩
  unfold consP
  rw [e1, Option.bind_some, e2]
  rfl
theorem ok_consM {f : State → Option (Mk × State)} {g : State → Option (List Mk × State)} {Q : List Mk → State → Prop} (q : Ok f (subS [] s) fun d s1 => Ok g ⟨s.env, s1.cs⟩ fun ds s2 => Q (d :: ds) s2) : Ok (consM f g) s Q := by
  obtain ⟨a, s1, e1, b, s2, e2, h⟩ := q
  refine ⟨_, s2, ?_, h⟩
  unfold consM
  rw [e1, Option.bind_some, e2]
  rfl
theorem ok_mkV {f : State → Option (D × State)} {Q : Mk → State → Prop} (q : Ok f s fun d s1 => Q (.v d) s1) : Ok (mkV f) s Q := by
  obtain ⟨a, s1, e1, r⟩ := q
  exact ⟨_, _, by unfold mkV; rw [e1]; rfl, r⟩
theorem ok_mkL {f : State → Option (List D × State)} {Q : Mk → State → Prop} (q : Ok f s fun d s1 => Q (.l d) s1) : Ok (mkL' f) s Q := by
  obtain ⟨a, s1, e1, r⟩ := q
  exact ⟨_, _, by unfold mkL'; rw [e1]; rfl, r⟩
theorem ok_mkD {f : State → Option (List (D × D) × State)} {Q : Mk → State → Prop} (q : Ok f s fun d s1 => Q (.d d) s1) : Ok (mkD f) s Q := by
  obtain ⟨a, s1, e1, r⟩ := q
  exact ⟨_, _, by unfold mkD; rw [e1]; rfl, r⟩
theorem mkT_le {ds : List D} (h : ds.length ≤ 1000000) : mkT ds = some (.tuple ds) := by
  unfold mkT IR.sizeOk
  rw [if_pos (decide_eq_true h)]
theorem mkL_le {ds : List D} (h : ds.length ≤ 1000000) : mkL ds = some (.list ds) := by
  unfold mkL IR.sizeOk
  rw [if_pos (decide_eq_true h)]
theorem ok_tup {g : State → Option (List D × State)} {Q : D → State → Prop} (q : Ok g s fun ds s1 => Also (ds.length ≤ 1000000) (Q (.tuple ds) s1)) : Ok (tupF g) s Q := by
  obtain ⟨a, s1, e1, l, r⟩ := q
  refine ⟨_, s1, ?_, r⟩
  unfold tupF
  rw [e1, Option.bind_some, mkT_le l]
  rfl
theorem ok_lst {g : State → Option (List D × State)} {Q : List D → State → Prop} (q : Ok g s fun ds s1 => Also (ds.length ≤ 1000000) (Q ds s1)) : Ok (lstF g) s Q := by
  obtain ⟨a, s1, e1, l, r⟩ := q
  refine ⟨_, s1, ?_, r⟩
  unfold lstF
  rw [e1, Option.bind_some]
  unfold IR.sizeOk
  rw [if_pos (decide_eq_true l)]
/-! calls -/
theorem ok_callF {fs : FSem} {np : Nat} {fa : State → Option (List Pre × State)} {Q : D → State → Prop} (q : Ok fa s fun ps s1 => Val (finArgs s1 ps) fun args => Also (args.length = np) (OkC fs args s1.cs fun d cs' => Q d ⟨s1.env, cs'⟩)) : Ok (callF fs np fa) s Q := by
  obtain ⟨ps, s1, e1, args, e2, e3, d, cs', e4, h⟩ := q
  refine ⟨d, _, ?_, h⟩
  unfold callF
  rw [e1, Option.bind_some, e2, Option.bind_some, if_pos e3, e4]
  rfl
theorem ok_callK {fs : FSem} {np : Nat} {q0 : KwPat} {fa : State → Option (List Pre × State)} {Q : D → State → Prop} (q : Ok fa s fun ps s1 => Val (finArgs s1 ps) fun args => Also (args.length = q0.ks.length ∧ (IR.perm q0.idx args).length = np) (OkC fs (IR.perm q0.idx args) s1.cs fun d cs' => Q d ⟨s1.env, cs'⟩)) : Ok (callK fs np q0 fa) s Q := by
  obtain ⟨ps, s1, e1, args, e2, e3, d, cs', e4, h⟩ := q
  refine ⟨d, _, ?_, h⟩
  unfold callK
  rw [e1, Option.bind_some, e2, Option.bind_some, if_pos e3, e4]
  rfl
theorem okC_eq {fs : FSem} {args : List IR.Arg} {cs cs' : Cells} {d : D} {Q : D → Cells → Prop} (h : fs args cs = some (d, cs')) (q : Q d cs') : OkC fs args cs Q := ⟨d, cs', h, q⟩
/-- how a def ends -/
def endQ (cs : Cells) (Q : D → Cells → Prop) : Out → State → Prop
  | .ret d, s => Q d (s.cs.take cs.length)
  | .next, s => Q .none (s.cs.take cs.length)
  | _, _ => False
theorem okC_run {np n : Nat} {body : State → Option (Out × State)} {args : List IR.Arg} {cs : Cells} {Q : D → Cells → Prop} (hl : args.length = np) (h : Ok body ⟨args.map argSlot ++ List.replicate (n - np) .emp, cs⟩ (endQ cs Q)) : OkC (runDef np n body) args cs Q := by
  obtain ⟨o, s', e, q⟩ := h
  cases o with
  | ret d => exact ⟨d, _, by unfold runDef; rw [if_pos hl, e]; rfl, q⟩
  | next => exact ⟨_, _, by unfold runDef; rw [if_pos hl, e]; rfl, q⟩
  | brk => exact absurd q id
  | cont => exact absurd q id
theorem end_ret {cs : Cells} {Q : D → Cells → Prop} {d : D} {s : State} (hc : s.cs.length = cs.length) (q : Q d s.cs) : endQ cs Q (.ret d) s := by
  show Q d (s.cs.take cs.length)
  rw [← hc, List.take_length]
  exact q
theorem end_next {cs : Cells} {Q : D → Cells → Prop} {s : State} (hc : s.cs.length = cs.length) (q : Q .none s.cs) : endQ cs Q .next s := by
  show Q .none (s.cs.take cs.length)
  rw [← hc, List.take_length]
  exact q
/-- a def that neither draws nor writes -/
theorem okC_pure {fs : FSem} {args : List IR.Arg} {d : D} {cs : Cells} (h : OkC fs args cs fun d' cs' => d' = d ∧ cs' = cs) : fs args cs = some (d, cs) := by
  obtain ⟨d', cs', e, rfl, rfl⟩ := h
  exact e
/-! statements -/
section
variable {Q : Out → State → Prop} {g : State → Option (Out × State)}
theorem ok_cons {f : State → Option (Out × State)} (q : Ok f s fun o s1 => match o with
    | .next => Ok g s1 Q
    | o => Q o s1) : Ok (bCons f g) s Q := by
  obtain ⟨o, s1, e1, h⟩ := q
  cases o with
  | next =>
    obtain ⟨c, s2, e2, r⟩ := h
    exact ⟨c, s2, by unfold bCons; rw [e1]; exact e2, r⟩
  | ret d => exact ⟨_, s1, by unfold bCons; rw [e1]; rfl, h⟩
  | brk => exact ⟨_, s1, by unfold bCons; rw [e1]; rfl, h⟩
  | cont => exact ⟨_, s1, by unfold bCons; rw [e1]; rfl, h⟩
theorem ok_nil (q : Q .next s) : Ok bNil s Q := ok_of rfl q
theorem k_nil (q : Ok g s Q) : Ok (bCons bNil g) s Q := q
theorem k_asc {a b : State → Option (Out × State)} (q : Ok (bCons a (bCons b g)) s Q) : Ok (bCons (bCons a b) g) s Q := by
  obtain ⟨o, s1, e1, h⟩ := q
  refine ⟨o, s1, ?_, h⟩
  rw [← e1]
  unfold bCons
  cases a s with
  | none => rfl
  | some p =>
    obtain ⟨o, s1⟩ := p
    cases o <;> rfl
theorem k_ret {f : State → Option (D × State)} (q : Ok f s fun d s1 => Q (.ret d) s1) : Ok (bCons (retF f) g) s Q := by
  obtain ⟨d, s1, e1, h⟩ := q
  exact ok_cons ⟨.ret d, s1, by unfold retF; rw [e1]; rfl, h⟩
theorem k_retN (q : Q (.ret .none) s) : Ok (bCons retN g) s Q := ok_cons ⟨_, _, rfl, q⟩
theorem k_brk (q : Q .brk s) : Ok (bCons brkF g) s Q := ok_cons ⟨_, _, rfl, q⟩
theorem k_cont (q : Q .cont s) : Ok (bCons contF g) s Q := ok_cons ⟨_, _, rfl, q⟩
theorem k_drop {f : State → Option (D × State)} (q : Ok f s fun d s1 => Ok g s1 Q) : Ok (bCons (dropF f) g) s Q := by
  obtain ⟨d, s1, e1, h⟩ := q
  exact ok_cons ⟨.next, s1, by unfold dropF; rw [e1]; rfl, h⟩
theorem k_asgV {i : Nat} {f : State → Option (D × State)} (q : Ok f s fun d s1 => Ok g (setV i d s1) Q) : Ok (bCons (asgV i f) g) s Q := by
  obtain ⟨d, s1, e1, h⟩ := q
  exact ok_cons ⟨.next, _, by unfold asgV; rw [e1]; rfl, h⟩
theorem k_asgB {i : Nat} {f : State → Option (List D × State)} (q : Ok f s fun d s1 => Ok g (setB i d s1) Q) : Ok (bCons (asgB i f) g) s Q := by
  obtain ⟨d, s1, e1, h⟩ := q
  exact ok_cons ⟨.next, _, by unfold asgB; rw [e1]; rfl, h⟩
theorem k_asgD {i : Nat} {f : State → Option (List (D × D) × State)} (q : Ok f s fun d s1 => Ok g (setDB i d s1) Q) : Ok (bCons (asgD i f) g) s Q := by
  obtain ⟨d, s1, e1, h⟩ := q
  exact ok_cons ⟨.next, _, by unfold asgD; rw [e1]; rfl, h⟩
theorem k_asgT {tg : Item → State → Option State} {f : State → Option (D × State)} (q : Ok f s fun d s1 => Val (tg (.one d) s1) fun s2 => Ok g s2 Q) : Ok (bCons (asgT tg f) g) s Q := by
  obtain ⟨d, s1, e1, s2, e2, h⟩ := q
  exact ok_cons ⟨.next, s2, by unfold asgT; rw [e1, Option.bind_some, e2]; rfl, h⟩
theorem k_par {is : List Nat} {f : State → Option (List Mk × State)} (q : Ok f s fun ms s1 => Also (is.length = ms.length) (Ok g (setMks is ms s1) Q)) : Ok (bCons (parF is f) g) s Q := by
  obtain ⟨d, s1, e1, l, h⟩ := q
  exact ok_cons ⟨.next, _, by unfold parF; rw [e1, Option.bind_some, if_pos l], h⟩
theorem k_if {c : State → Option (Bool × State)} {a b : State → Option (Out × State)} (q : Ok c s fun x s1 => if x = true then Ok (bCons a g) s1 Q else Ok (bCons b g) s1 Q) : Ok (bCons (sIf c a b) g) s Q := by
  obtain ⟨x, s1, e1, h⟩ := q
  cases x with
  | true =>
    obtain ⟨o, s2, e2, r⟩ := h
    refine ⟨o, s2, ?_, r⟩
    rw [← e2]
    unfold bCons sIf
    rw [e1]
    rfl
  | false =>
    obtain ⟨o, s2, e2, r⟩ := h
    refine ⟨o, s2, ?_, r⟩
    rw [← e2]
    unfold bCons sIf
    rw [e1]
    rfl
theorem k_app {i : Nat} {fe : State → Option (D × State)} {ds0 : List D} (h0 : atBox i s = some ds0) (q : Ok fe s fun d s1 => Val (atBox i s1) fun ds => Also (ds.length ≤ 1000000) (Ok g (putB i (ds ++ [d]) s1) Q)) : Ok (bCons (appF i fe) g) s Q := by
  obtain ⟨d, s1, e1, ds, e2, l, h⟩ := q
  refine ok_cons ⟨.next, _, ?_, h⟩
  unfold appF
  rw [h0, Option.bind_some, e1, Option.bind_some, e2, Option.bind_some]
  unfold IR.sizeOk
  rw [if_pos (decide_eq_true l)]
theorem k_ext {i : Nat} {fe : State → Option (D × State)} {ds0 : List D} (h0 : atBox i s = some ds0) (q : Ok fe s fun d s1 => Val (atBox i s1) fun ds => ∃ es, d = .list es ∧ Also (ds.length + es.length ≤ 1000000) (Ok g (putB i (ds ++ es) s1) Q)) : Ok (bCons (extF i fe) g) s Q := by
  obtain ⟨d, s1, e1, ds, e2, es, rfl, l, h⟩ := q
  refine ok_cons ⟨.next, _, ?_, h⟩
  unfold extF
  rw [h0, Option.bind_some, e1, Option.bind_some, e2, Option.bind_some]
  unfold IR.sizeOk
  simp only [if_pos (decide_eq_true l)]
theorem k_setDF {i : Nat} {fe : State → Option (D × State)} {fk : State → Option (Pre × State)} (q : Ok fe s fun d s1 => Ok fk s1 fun r s2 => Val (post s2 r) fun kd => Val (atDbox i s1) fun _ => Val (atDbox i s2) fun ds => Also (isKey kd = true ∧ ds.length ≤ 1000000) (Ok g { s2 with env := s2.env.set i (.dbox (put kd d ds)) } Q)) : Ok (bCons (setDF i fe fk) g) s Q := by
  obtain ⟨d, s1, e1, r, s2, e2, kd, e3, _, e4, ds, e5, l, h⟩ := q
  refine ok_cons ⟨.next, _, ?_, h⟩
  unfold setDF
  rw [e1, Option.bind_some, e2, Option.bind_some, e3, Option.bind_some, e4, Option.bind_some, e5, Option.bind_some]
  unfold IR.sizeOk
  rw [if_pos ⟨l.1, decide_eq_true l.2⟩]
theorem k_setF {i : Nat} {fe : State → Option (D × State)} {fk : State → Option (Pre × State)} (q : Ok fe s fun d s1 => Ok fk s1 fun r s2 => Val (post s2 r) fun kd => Val (atBox i s1) fun _ => Val (atBox i s2) fun ds => ∃ j, kd = .int j ∧ Val (L2.ixN ds.length j) fun m => Ok g (putB i (ds.set m d) s2) Q) : Ok (bCons (setF i fe fk) g) s Q := by
  obtain ⟨d, s1, e1, r, s2, e2, kd, e3, _, e4, ds, e5, j, rfl, m, e6, h⟩ := q
  refine ok_cons ⟨.next, _, ?_, h⟩
  unfold setF
  rw [e1, Option.bind_some, e2, Option.bind_some, e3, Option.bind_some, e4, Option.bind_some, e5, Option.bind_some]
  simp only [e6, Option.map_some]
theorem ok_pop {i : Nat} {fe : State → Option (Pre × State)} {Q : D → State → Prop} {ds0 : List D} (h0 : atBox i s = some ds0) (q : Ok fe s fun p s1 => Val (post s1 p) fun kd => Val (atBox i s1) fun ds => ∃ j : Nat, kd = .int j ∧ (j : Int) < 2 ^ 62 ∧ Val (ds[j]?) fun d => Q d (putB i (ds.eraseIdx j) s1)) : Ok (popF i fe) s Q := by
  obtain ⟨p, s1, e1, kd, e2, ds, e3, j, rfl, l, d, e4, h⟩ := q
  refine ⟨d, _, ?_, h⟩
  unfold popF
  rw [h0, Option.bind_some, e1, Option.bind_some, e2, Option.bind_some, e3, Option.bind_some]
  have lt : j < ds.length := by
    by_cases c : j < ds.length
    · exact c
    · rw [List.getElem?_eq_none (by omega)] at e4; cases e4
  have sx : seqIndex? (j : Int) ds.length = some j := by
    unfold seqIndex?
    simp
    omega
  have c : -(2 : Int) ^ 63 ≤ (j : Int) ∧ (j : Int) < 2 ^ 63 := by constructor <;> omega
  simp only [if_pos c, sx, Option.bind_some, e4, Option.map_some]
/-! loops -/
def OkFor (tg : Item → State → Option State) (fb : State → Option (Out × State)) (its : List Item) (s : State) (Q : Out → State → Prop) : Prop := Ok (forGo tg fb its) s Q
theorem k_for {fi : State → Option (List Item × State)} {tg : Item → State → Option State} {fb : State → Option (Out × State)} (q : Ok fi s fun its s1 => OkFor tg fb its s1 fun o s2 => match o with
    | .next => Ok g s2 Q
    | o => Q o s2) : Ok (bCons (forF fi tg fb) g) s Q := by
  obtain ⟨its, s1, e1, o, s2, e2, h⟩ := q
  exact ok_cons ⟨o, s2, by unfold forF; rw [e1]; exact e2, h⟩
/-- what a turn leaves -/
def turnQ (N : State → Prop) (Q : Out → State → Prop) : Out → State → Prop
  | .next, s => N s
  | .cont, s => N s
  | .brk, s => Q .next s
  | .ret d, s => Q (.ret d) s
theorem turn_next {N : State → Prop} {s : State} (q : N s) : turnQ N Q .next s := q
theorem turn_cont {N : State → Prop} {s : State} (q : N s) : turnQ N Q .cont s := q
theorem turn_brk {N : State → Prop} {s : State} (q : Q .next s) : turnQ N Q .brk s := q
theorem turn_ret {N : State → Prop} {d : D} {s : State} (q : Q (.ret d) s) : turnQ N Q (.ret d) s := q
theorem for_nil {tg : Item → State → Option State} {fb : State → Option (Out × State)} (q : Q .next s) : OkFor tg fb [] s Q := ⟨_, _, rfl, q⟩
theorem for_cons {tg : Item → State → Option State} {fb : State → Option (Out × State)} {it : Item} {its : List Item} (q : Val (tg it s) fun s1 => Ok fb s1 (turnQ (fun s2 => OkFor tg fb its s2 Q) Q)) : OkFor tg fb (it :: its) s Q := by
  obtain ⟨s1, e1, o, s2, e2, h⟩ := q
  cases o with
  | next =>
    obtain ⟨o, s3, e3, h⟩ := h
    refine ⟨o, s3, ?_, h⟩
    unfold forGo
    rw [e1, Option.bind_some, e2, Option.bind_some]
    exact e3
  | cont =>
    obtain ⟨o, s3, e3, h⟩ := h
    refine ⟨o, s3, ?_, h⟩
    unfold forGo
    rw [e1, Option.bind_some, e2, Option.bind_some]
    exact e3
  | brk =>
    refine ⟨.next, s2, ?_, h⟩
    unfold forGo
    rw [e1, Option.bind_some, e2, Option.bind_some]
  | ret d =>
    refine ⟨.ret d, s2, ?_, h⟩
    unfold forGo
    rw [e1, Option.bind_some, e2, Option.bind_some]
/-- a loop over the things of a list: I of what is left, and the state -/
theorem for_left {β : Type} (c : β → Item) (I : List β → State → Prop) {tg : Item → State → Option State} {fb : State → Option (Out × State)} : ∀ {l : List β} {s : State}, I l s →
    (∀ b r s, (∃ p, l = p ++ b :: r) → I (b :: r) s → Val (tg (c b) s) fun s1 => Ok fb s1 (turnQ (I r) Q)) → (∀ s, I [] s → Q .next s) → OkFor tg fb (l.map c) s Q
  | [], s, h, _, he => for_nil (he s h)
  | b :: r, s, h, hs, he => by
    refine for_cons ?_
    obtain ⟨s1, e1, o, s2, e2, t⟩ := hs b r s ⟨[], rfl⟩ h
    refine ⟨s1, e1, o, s2, e2, ?_⟩
    have go : ∀ s2, I r s2 → OkFor tg fb (r.map c) s2 Q := fun s2 t => for_left c I t (fun b' r' s' ⟨p, e⟩ => hs b' r' s' ⟨b :: p, by rw [e]; rfl⟩) he
    cases o with
    | next => exact go _ t
    | cont => exact go _ t
    | brk => exact t
    | ret d => exact t
/-- the same, I of what is done -/
theorem for_done {β : Type} (c : β → Item) (I : List β → State → Prop) {tg : Item → State → Option State} {fb : State → Option (Out × State)} {l : List β} {s : State} (h : I [] s)
    (hs : ∀ p b s, (∃ r, l = p ++ b :: r) → I p s → Val (tg (c b) s) fun s1 => Ok fb s1 (turnQ (I (p ++ [b])) Q)) (he : ∀ s, I l s → Q .next s) : OkFor tg fb (l.map c) s Q := by
  refine for_left c (fun r s => ∃ p, l = p ++ r ∧ I p s) ⟨[], rfl, h⟩ (fun b r s _ hi => ?_) fun s hi => ?_
  · obtain ⟨p, e, hi⟩ := hi
    obtain ⟨s1, e1, o, s2, e2, t⟩ := hs p b s ⟨r, e⟩ hi
    refine ⟨s1, e1, o, s2, e2, ?_⟩
    cases o with
    | next => exact ⟨p ++ [b], by rw [e, List.append_assoc]; rfl, t⟩
    | cont => exact ⟨p ++ [b], by rw [e, List.append_assoc]; rfl, t⟩
    | brk => exact t
    | ret d => exact t
  · obtain ⟨p, e, hi⟩ := hi
    rw [List.append_nil] at e
    subst e
    exact he s hi
/-- a loop over anything: I of how many turns are left -/
theorem for_count (I : Nat → State → Prop) {tg : Item → State → Option State} {fb : State → Option (Out × State)} {its : List Item} {s : State} (h : I its.length s)
    (hs : ∀ it n s, it ∈ its → I (n + 1) s → Val (tg it s) fun s1 => Ok fb s1 (turnQ (I n) Q)) (he : ∀ s, I 0 s → Q .next s) : OkFor tg fb its s Q := by
  have := for_left (fun x : Item => x) (fun r => I r.length) (tg := tg) (fb := fb) (l := its) (s := s) (Q := Q) h (fun b r s ⟨p, e⟩ hi => hs b r.length s (by rw [e]; simp) hi) fun s hi => he s hi
  rwa [List.map_id'] at this
end
theorem for_range (I : Nat → State → Prop) {tg : Item → State → Option State} {fb : State → Option (Out × State)} {n : Nat} {s : State} {Q : Out → State → Prop} (h : I 0 s)
    (hs : ∀ i s, i < n → I i s → Val (tg (.one (.int (i : Nat))) s) fun s1 => Ok fb s1 (turnQ (I (i + 1)) Q)) (he : ∀ s, I n s → Q .next s) : OkFor tg fb (rangeItems 0 n) s Q := by
  refine for_done (fun i : Nat => Item.one (.int (0 + (i : Int)))) (fun p s => I p.length s) h (fun p b s e hi => ?_) fun s hi => he s (by rwa [List.length_range] at hi)
  obtain ⟨r, e⟩ := e
  have hb : b = p.length := by
    have := congrArg (fun l => l[p.length]?) e
    have hl := congrArg List.length e
    simp only [List.length_range, List.length_append, List.length_cons] at hl
    simp [List.getElem?_range (show p.length < n by omega)] at this
    exact this.symm
  have hl := congrArg List.length e
  simp only [List.length_range, List.length_append, List.length_cons] at hl
  subst hb
  have := hs p.length s (by omega) hi
  simp only [Int.zero_add, List.length_append, List.length_cons, List.length_nil]
  exact this
theorem k_if_any {c : State → Option (Bool × State)} {a b g : State → Option (Out × State)} {Q : Out → State → Prop} (E : Cells → Prop) (h : Ok c s fun _ s1 => s1.env = s.env ∧ E s1.cs) (ta : ∀ cs, E cs → Ok (bCons a g) ⟨s.env, cs⟩ Q) (tb : ∀ cs, E cs → Ok (bCons b g) ⟨s.env, cs⟩ Q) : Ok (bCons (sIf c a b) g) s Q := by
  refine k_if (h.mono fun x s1 hx => ?_)
  obtain ⟨env, cs⟩ := s1
  obtain ⟨e, h1⟩ := hx
  simp only at e h1
  subst e
  exact br (fun _ => ta _ h1) fun _ => tb _ h1
theorem k_if_fact {c : State → Option (Bool × State)} {a b g : State → Option (Out × State)} {Q : Out → State → Prop} (P : Prop) (h : Ok c s fun x s1 => s1 = s ∧ (x = true → P)) (ta : P → Ok (bCons a g) s Q) (tb : Ok (bCons b g) s Q) : Ok (bCons (sIf c a b) g) s Q := by
  refine k_if (h.mono fun x s1 hx => ?_)
  obtain ⟨e, h1⟩ := hx
  subst e
  exact br (fun e => ta (h1 e)) fun _ => tb
theorem k_asgV_any {i : Nat} {f : State → Option (D × State)} {g : State → Option (Out × State)} {Q : Out → State → Prop} (P : D → Prop) (E : Cells → Prop) (h : Ok f s fun d s1 => s1.env = s.env ∧ P d ∧ E s1.cs) (q : ∀ d cs, P d → E cs → Ok g (setV i d ⟨s.env, cs⟩) Q) : Ok (bCons (asgV i f) g) s Q := by
  refine k_asgV (h.mono fun d s1 hx => ?_)
  obtain ⟨env, cs⟩ := s1
  obtain ⟨e, h1, h2⟩ := hx
  simp only at e h1 h2
  subst e
  exact q _ _ h1 h2
/-- the same inside an expression -/
theorem ok_any {f : State → Option (α × State)} {Q : α → State → Prop} (P : α → Prop) (E : Cells → Prop) (h : Ok f s fun d s1 => s1.env = s.env ∧ P d ∧ E s1.cs) (q : ∀ d cs, P d → E cs → Q d ⟨s.env, cs⟩) : Ok f s Q := by
  refine h.mono fun d s1 hx => ?_
  obtain ⟨env, cs⟩ := s1
  obtain ⟨e, h1, h2⟩ := hx
  simp only at e h1 h2
  subst e
  exact q _ _ h1 h2
theorem ok_yes {Q : Bool → State → Prop} (q : Q true s) : Ok yesF s Q := ok_of rfl q
theorem ok_itF {fa : State → Option (D × State)} {Q : List Item → State → Prop} (q : Ok fa s fun d s1 => Val (seqItems d) fun its => Q its s1) : Ok (itF fa) s Q := by
  obtain ⟨d, s1, e1, its, e2, h⟩ := q
  exact ⟨its, s1, by unfold itF; rw [e1, Option.bind_some, e2]; rfl, h⟩
theorem ok_itR {r : List D → Option (List Item)} {f : State → Option (List D × State)} {Q : List Item → State → Prop} (q : Ok f s fun d s1 => Val (r d) fun its => Q its s1) : Ok (itR r f) s Q := by
  obtain ⟨d, s1, e1, its, e2, h⟩ := q
  exact ⟨its, s1, by unfold itR; rw [e1, Option.bind_some, e2]; rfl, h⟩
theorem ok_itVar {i : Nat} {its : List Item} {s' : State} {Q : List Item → State → Prop} (h : itVar i s = some (its, s')) (q : Q its s') : Ok (itVar i) s Q := ok_of h q
theorem ok_idxM {fo : State → Option (D × State)} {fe : State → Option (Pre × State)} {Q : D → State → Prop} (q : Ok fo s fun d s1 => Ok fe s1 fun r s2 => Val (post s2 r) fun y => Val (indexD d y) fun z => Q z s2) : Ok (idxM fo fe) s Q := by
  obtain ⟨d, s1, e1, r, s2, e2, y, e3, z, e4, h⟩ := q
  exact ⟨z, s2, by unfold idxM; rw [e1, Option.bind_some, e2, Option.bind_some, e3, Option.bind_some, e4]; rfl, h⟩
theorem ok_back {f : State → Option (D × State)} {Q : D → State → Prop} (q : Ok f s fun d s1 => Val (revD d) fun z => Q z s1) : Ok (backF f) s Q := by
  obtain ⟨d, s1, e1, z, e4, h⟩ := q
  exact ⟨z, s1, by unfold backF; rw [e1, Option.bind_some, e4]; rfl, h⟩
theorem k_setCF {i : Nat} {fe : State → Option (D × State)} {fk : State → Option (Pre × State)} {g : State → Option (Out × State)} {Q : Out → State → Prop} (q : Ok fe s fun d s1 => Ok fk s1 fun r s2 => Val (post s2 r) fun kd => Val (atCell i s1) fun _ => Val (atCell i s2) fun n => Val (s2.cs[n]?) fun ns => ∃ v, d = .int v ∧ ∃ j, kd = .int j ∧ Val (L2.ixN ns.length j) fun m => Ok g { s2 with cs := s2.cs.set n (ns.set m v) } Q) : Ok (bCons (setCF i fe fk) g) s Q := by
  obtain ⟨d, s1, e1, r, s2, e2, kd, e3, _, e4, n, e5, ns, e6, v, rfl, j, rfl, m, e7, h⟩ := q
  refine ok_cons ⟨.next, _, ?_, h⟩
  unfold setCF
  rw [e1, Option.bind_some, e2, Option.bind_some, e3, Option.bind_some, e4, Option.bind_some, e5, Option.bind_some, e6, Option.bind_some]
  simp only [e7, Option.map_some]
/-! comprehensions -/
def OkLc (vs : List Nat) (tg : Item → State → Option State) (ft : State → Option (Bool × State)) (fe : State → Option (D × State)) (its : List Item) (s : State) (Q : List D → State → Prop) : Prop := Ok (lcGo vs tg ft fe its) s Q
theorem ok_lc {vs : List Nat} {fi : State → Option (List Item × State)} {tg : Item → State → Option State} {ft : State → Option (Bool × State)} {fe : State → Option (D × State)} {Q : List D → State → Prop} (q : Ok fi s fun its s1 => OkLc vs tg ft fe its s1 fun ds s2 => Also (ds.length ≤ 1000000) (Q ds s2)) : Ok (lcF vs fi tg ft fe) s Q := by
  obtain ⟨its, s1, e1, ds, s2, e2, l, h⟩ := q
  refine ⟨ds, s2, ?_, h⟩
  unfold lcF
  rw [e1, Option.bind_some, e2, Option.bind_some]
  unfold IR.sizeOk
  rw [if_pos (decide_eq_true l)]
/-- a turn: what it gives, and the cells behind it -/
def OkT (vs : List Nat) (tg : Item → State → Option State) (ft : State → Option (Bool × State)) (fe : State → Option (D × State)) (it : Item) (s : State) (R : Option D → Cells → Prop) : Prop := Val (tg it (subS vs s)) fun s1 => Ok ft s1 fun b s2 => if b = true then Ok fe s2 (fun d s3 => R (some d) s3.cs) else R none s2.cs
theorem ok_t {vs : List Nat} {tg : Item → State → Option State} {ft : State → Option (Bool × State)} {fe : State → Option (D × State)} {it : Item} {R : Option D → Cells → Prop} (q : Val (tg it (subS vs s)) fun s1 => Ok ft s1 fun b s2 => if b = true then Ok fe s2 (fun d s3 => R (some d) s3.cs) else R none s2.cs) : OkT vs tg ft fe it s R := q
theorem okT_turn {vs : List Nat} {tg : Item → State → Option State} {ft : State → Option (Bool × State)} {fe : State → Option (D × State)} {it : Item} {R : Option D → Cells → Prop} (q : OkT vs tg ft fe it s R) : ∃ o cs, lcTurn vs tg ft fe it s = some (o, ⟨s.env, cs⟩) ∧ R o cs := by
  obtain ⟨s1, e1, b, s2, e2, h⟩ := q
  unfold lcTurn
  cases b with
  | true =>
    obtain ⟨d, s3, e3, h⟩ := h
    exact ⟨_, _, by rw [e1, Option.bind_some, e2, Option.bind_some]; simp only [if_true, e3, Option.map_some], h⟩
  | false => exact ⟨_, _, by rw [e1, Option.bind_some, e2, Option.bind_some]; rfl, h⟩
theorem wl_nil {vs : List Nat} {tg : Item → State → Option State} {ft : State → Option (Bool × State)} {fe : State → Option (D × State)} {Q : List D → State → Prop} (q : Q [] s) : OkLc vs tg ft fe [] s Q := ⟨_, _, rfl, q⟩
theorem wl_cons {vs : List Nat} {tg : Item → State → Option State} {ft : State → Option (Bool × State)} {fe : State → Option (D × State)} {it : Item} {its : List Item} {Q : List D → State → Prop} (q : OkT vs tg ft fe it s fun o cs => OkLc vs tg ft fe its ⟨s.env, cs⟩ fun ds s2 => Q (o.toList ++ ds) s2) : OkLc vs tg ft fe (it :: its) s Q := by
  obtain ⟨o, cs, e1, ds, s2, e2, h⟩ := okT_turn q
  refine ⟨_, s2, ?_, h⟩
  unfold lcGo
  rw [e1, Option.bind_some, e2]
  cases o <;> rfl
/-- turns that change nothing -/
theorem wl_map {β : Type} (c : β → Item) (f : β → Option D) {vs : List Nat} {tg : Item → State → Option State} {ft : State → Option (Bool × State)} {fe : State → Option (D × State)} {Q : List D → State → Prop} : ∀ {l : List β}, (∀ b ∈ l, OkT vs tg ft fe (c b) s fun o cs => o = f b ∧ cs = s.cs) → Q (l.filterMap f) s → OkLc vs tg ft fe (l.map c) s Q
  | [], _, q => wl_nil q
  | b :: l, h, q => by
    refine wl_cons ?_
    obtain ⟨s1, e1, x, s2, e2, r⟩ := h b (by simp)
    have go : OkLc vs tg ft fe (l.map c) s fun ds s3 => Q ((f b).toList ++ ds) s3 := by
      refine wl_map c f (fun b hb => h b (by simp [hb])) ?_
      rw [List.filterMap_cons] at q
      cases hf : f b <;> rw [hf] at q <;> exact q
    refine ⟨s1, e1, x, s2, e2, ?_⟩
    cases x with
    | true =>
      obtain ⟨d, s3, e3, ho, hc⟩ := r
      refine ⟨d, s3, e3, ?_⟩
      show OkLc vs tg ft fe (l.map c) ⟨s.env, s3.cs⟩ fun ds s2 => Q ((some d).toList ++ ds) s2
      rw [ho, hc]
      exact go
    | false =>
      obtain ⟨ho, hc⟩ := r
      show OkLc vs tg ft fe (l.map c) ⟨s.env, s2.cs⟩ fun ds s2 => Q ((none : Option D).toList ++ ds) s2
      rw [ho, hc]
      exact go
theorem wl_each {β : Type} (c : β → Item) (f : β → D) {vs : List Nat} {tg : Item → State → Option State} {ft : State → Option (Bool × State)} {fe : State → Option (D × State)} {Q : List D → State → Prop} {l : List β} (h : ∀ b ∈ l, OkT vs tg ft fe (c b) s fun o cs => o = some (f b) ∧ cs = s.cs) (q : Q (l.map f) s) : OkLc vs tg ft fe (l.map c) s Q := by
  refine wl_map c (fun b => some (f b)) h ?_
  have : l.filterMap (fun b => some (f b)) = l.map f := by
    rw [← List.filterMap_eq_map]
    rfl
  rw [this]
  exact q
theorem fm_if {β γ : Type} (p : β → Bool) (f : β → γ) : ∀ l : List β, l.filterMap (fun b => if p b = true then some (f b) else none) = (l.filter p).map f
  | [] => rfl
  | b :: l => by
    rw [List.filterMap_cons, List.filter_cons, fm_if p f l]
    cases p b <;> rfl
theorem wl_some {β : Type} (c : β → Item) (p : β → Bool) (f : β → D) {vs : List Nat} {tg : Item → State → Option State} {ft : State → Option (Bool × State)} {fe : State → Option (D × State)} {Q : List D → State → Prop} {l : List β} (h : ∀ b ∈ l, OkT vs tg ft fe (c b) s fun o cs => o = (if p b = true then some (f b) else none) ∧ cs = s.cs) (q : Q ((l.filter p).map f) s) : OkLc vs tg ft fe (l.map c) s Q := by
  refine wl_map c (fun b => if p b = true then some (f b) else none) h ?_
  rw [fm_if]
  exact q
/-- turns that draw: J of how many turns are left, and the cells -/
theorem wl_draw (J : Nat → Cells → Prop) (P : D → Prop) {vs : List Nat} {tg : Item → State → Option State} {ft : State → Option (Bool × State)} {fe : State → Option (D × State)} {Q : List D → State → Prop} : ∀ {its : List Item} {s : State}, J its.length s.cs →
    (∀ it n cs, it ∈ its → J (n + 1) cs → OkT vs tg ft fe it ⟨s.env, cs⟩ fun o cs' => ∃ d, o = some d ∧ P d ∧ J n cs') → (∀ ds cs, ds.length = its.length → (∀ d ∈ ds, P d) → J 0 cs → Q ds ⟨s.env, cs⟩) → OkLc vs tg ft fe its s Q
  | [], s, h0, _, q => wl_nil (q [] s.cs rfl (by simp) h0)
  | it :: its, s, h0, hs, q => by
    refine wl_cons ?_
    obtain ⟨s1, e1, x, s2, e2, r⟩ := hs it its.length s.cs (by simp) h0
    refine ⟨s1, e1, x, s2, e2, ?_⟩
    have go : ∀ d cs, P d → J its.length cs → OkLc vs tg ft fe its ⟨s.env, cs⟩ fun ds s3 => Q ([d] ++ ds) s3 := fun d cs pd jc => wl_draw J P (s := ⟨s.env, cs⟩) jc (fun it n cs hi hj => hs it n cs (by simp [hi]) hj) fun ds cs hl hd hj => q (d :: ds) cs (by simp [hl]) (by simpa using ⟨pd, hd⟩) hj
    cases x with
    | true =>
      obtain ⟨d, s3, e3, d', ho, pd, hj⟩ := r
      cases ho
      exact ⟨d, s3, e3, go d s3.cs pd hj⟩
    | false =>
      obtain ⟨d', ho, _⟩ := r
      cases ho
end
end IRP

end
section
/-! Wp2: more backward rules. -/
namespace IRP
open PySem IR
open PyData (strOk)
theorem v_enumA {ds : List D} {Q : List Item → Prop} (q : Q (numbered ds)) : Val (enumA [.list ds]) Q := ⟨_, rfl, q⟩
theorem v_enumT {ds : List D} {Q : List Item → Prop} (q : Q (numbered ds)) : Val (enumA [.tuple ds]) Q := ⟨_, rfl, q⟩
theorem numbered_eq (ds : List D) : numbered ds = ds.zipIdx.map fun p => Item.two (.int (p.2 : Nat)) p.1 := rfl
theorem ok_callL {fs : FSem} {np : Nat} {fa : State → Option (List Pre × State)} {s : State} {Q : List D → State → Prop} (q : Ok fa s fun ps s1 => Val (finArgs s1 ps) fun args => Also (args.length = np ∧ args.all lfArg = true) (OkC fs args s1.cs fun d cs' => ∃ ds, d = .list ds ∧ Also (lfAll ds = true) (Q ds ⟨s1.env, cs'⟩))) : Ok (callL fs np fa) s Q := by
  obtain ⟨ps, s1, e1, args, e2, e3, d, cs', e4, ds, rfl, e5, h⟩ := q
  refine ⟨ds, _, ?_, h⟩
  unfold callL
  rw [e1, Option.bind_some, e2, Option.bind_some, if_pos e3, e4]
  simp only [Option.bind_some, e5, if_true]
theorem k_join {f g : State → Option (Out × State)} {s : State} {Q : Out → State → Prop} (J : State → Prop) (h : Ok f s fun o s1 => o = .next ∧ J s1) (q : ∀ s1, J s1 → Ok g s1 Q) : Ok (bCons f g) s Q := by
  refine ok_cons (h.mono fun o s1 hx => ?_)
  obtain ⟨rfl, hj⟩ := hx
  exact q s1 hj
theorem ok_sIf {c : State → Option (Bool × State)} {a b : State → Option (Out × State)} {s : State} {Q : Out → State → Prop} (q : Ok c s fun x s1 => if x = true then Ok a s1 Q else Ok b s1 Q) : Ok (sIf c a b) s Q := by
  obtain ⟨x, s1, e1, h⟩ := q
  cases x with
  | true =>
    obtain ⟨o, s2, e2, r⟩ := h
    exact ⟨o, s2, by unfold sIf; rw [e1]; exact e2, r⟩
  | false =>
    obtain ⟨o, s2, e2, r⟩ := h
    exact ⟨o, s2, by unfold sIf; rw [e1]; exact e2, r⟩
theorem rng2_nat {a n : Nat} (h : a + n < 2 ^ 62) : rng2 [.int (a : Int), .int ((a + n : Nat) : Int)] = some (rangeItems a n) := by
  have e1 : small62 (a : Int) = true := by
    unfold small62
    simp only [Bool.and_eq_true, decide_eq_true_eq]
    constructor <;> omega
  have e2 : small62 ((a + n : Nat) : Int) = true := by
    unfold small62
    simp only [Bool.and_eq_true, decide_eq_true_eq]
    constructor <;> omega
  show (if (small62 (a : Int) && small62 ((a + n : Nat) : Int)) = true then some (rangeItems a (((a + n : Nat) : Int) - (a : Int)).toNat) else Option.none) = _
  rw [e1, e2]
  have e3 : (((a + n : Nat) : Int) - (a : Int)).toNat = n := by omega
  rw [e3]
  rfl
theorem k_asgC {i : Nat} {f : State → Option (List D × State)} {g : State → Option (Out × State)} {s : State} {Q : Out → State → Prop} (q : Ok f s fun ds s1 => Val (allInts ds) fun ns => Ok g ⟨s1.env.set i (.cell s1.cs.length), s1.cs ++ [ns]⟩ Q) : Ok (bCons (asgC i f) g) s Q := by
  obtain ⟨ds, s1, e1, ns, e2, h⟩ := q
  exact ok_cons ⟨.next, _, by unfold asgC; rw [e1, Option.bind_some, e2]; rfl, h⟩
theorem OkC.mono {fs : FSem} {args : List IR.Arg} {cs : Cells} {Q R : D → Cells → Prop} (h : OkC fs args cs Q) (m : ∀ d cs', Q d cs' → R d cs') : OkC fs args cs R := by
  obtain ⟨d, cs', e, q⟩ := h
  exact ⟨d, cs', e, m d cs' q⟩
/-! dict comprehensions -/
def OkDc (vs : List Nat) (tg : Item → State → Option State) (ft : State → Option (Bool × State)) (fk fe : State → Option (D × State)) (its : List Item) (s : State) (acc : List (D × D)) (Q : List (D × D) → State → Prop) : Prop := ∃ kvs s', dcGo vs tg ft fk fe its s acc = some (kvs, s') ∧ Q kvs s'
theorem ok_dc {vs : List Nat} {fi : State → Option (List Item × State)} {tg : Item → State → Option State} {ft : State → Option (Bool × State)} {fk fe : State → Option (D × State)} {s : State} {Q : List (D × D) → State → Prop} (q : Ok fi s fun its s1 => OkDc vs tg ft fk fe its s1 [] Q) : Ok (dcF vs fi tg ft fk fe) s Q := by
  obtain ⟨its, s1, e1, kvs, s2, e2, h⟩ := q
  refine ⟨kvs, s2, ?_, h⟩
  unfold dcF
  rw [e1, Option.bind_some, e2]
def OkDT (vs : List Nat) (tg : Item → State → Option State) (ft : State → Option (Bool × State)) (fk fe : State → Option (D × State)) (it : Item) (s : State) (R : Option (D × D) → Cells → Prop) : Prop := Val (tg it (subS vs s)) fun s1 => Ok ft s1 fun b s2 => if b = true then Ok fk s2 (fun k s3 => Also (isKey k = true) (Ok fe s3 fun d s4 => R (some (k, d)) s4.cs)) else R none s2.cs
theorem ok_dt {vs : List Nat} {tg : Item → State → Option State} {ft : State → Option (Bool × State)} {fk fe : State → Option (D × State)} {it : Item} {s : State} {R : Option (D × D) → Cells → Prop} (q : Val (tg it (subS vs s)) fun s1 => Ok ft s1 fun b s2 => if b = true then Ok fk s2 (fun k s3 => Also (isKey k = true) (Ok fe s3 fun d s4 => R (some (k, d)) s4.cs)) else R none s2.cs) : OkDT vs tg ft fk fe it s R := q
theorem okDT_turn {vs : List Nat} {tg : Item → State → Option State} {ft : State → Option (Bool × State)} {fk fe : State → Option (D × State)} {it : Item} {s : State} {R : Option (D × D) → Cells → Prop} (q : OkDT vs tg ft fk fe it s R) : ∃ o cs, dcTurn vs tg ft fk fe it s = some (o, ⟨s.env, cs⟩) ∧ R o cs := by
  obtain ⟨s1, e1, b, s2, e2, h⟩ := q
  unfold dcTurn
  cases b with
  | true =>
    obtain ⟨k, s3, e3, hk, d, s4, e4, h⟩ := h
    exact ⟨_, _, by rw [e1, Option.bind_some, e2, Option.bind_some]; simp only [if_true, e3, Option.bind_some, hk, e4, Option.map_some], h⟩
  | false => exact ⟨_, _, by rw [e1, Option.bind_some, e2, Option.bind_some]; rfl, h⟩
theorem put_len1 (k v : D) (kvs : List (D × D)) : (put k v kvs).length ≤ kvs.length + 1 := put_len k v kvs
theorem wd_each {β : Type} (c : β → Item) (k v : β → D) {vs : List Nat} {tg : Item → State → Option State} {ft : State → Option (Bool × State)} {fk fe : State → Option (D × State)} {s : State} {Q : List (D × D) → State → Prop} : ∀ {l : List β} {acc : List (D × D)}, (∀ b ∈ l, OkDT vs tg ft fk fe (c b) s fun o cs => o = some (k b, v b) ∧ cs = s.cs) → acc.length + l.length ≤ 1000000 → Q (l.foldl (fun acc b => put (k b) (v b) acc) acc) s → OkDc vs tg ft fk fe (l.map c) s acc Q
  | [], acc, _, _, q => ⟨acc, s, rfl, q⟩
  | b :: l, acc, h, hl, q => by
    obtain ⟨o, cs, e1, rfl, e3⟩ := okDT_turn (h b (by simp))
    subst e3
    rw [List.length_cons] at hl
    have := put_len (k b) (v b) acc
    obtain ⟨kvs, s2, e4, h4⟩ := wd_each c k v (l := l) (acc := put (k b) (v b) acc) (fun b' hb => h b' (by simp [hb])) (by omega) q
    refine ⟨kvs, s2, ?_, h4⟩
    have es : IR.sizeOk acc.length = true := by
      unfold IR.sizeOk
      rw [decide_eq_true_eq]
      omega
    rw [List.map_cons]
    unfold dcGo
    rw [e1, Option.bind_some]
    simp only [es, if_true]
    exact e4
theorem put_fresh {k v : D} {kvs : List (D × D)} (h : inKeys k kvs = false) : put k v kvs = kvs ++ [(k, v)] := by
  unfold put
  rw [h]
  rfl
/-- keys that are unlike texts -/
theorem put_texts {β : Type} (k : β → Str) (v : β → D) : ∀ (l : List β) (acc : List (D × D)), (l.map k).Nodup → (∀ b ∈ l, inKeys (.str (k b)) acc = false) → l.foldl (fun acc b => put (.str (k b)) (v b) acc) acc = acc ++ l.map fun b => (.str (k b), v b)
  | [], acc, _, _ => by simp
  | b :: l, acc, nd, h => by
    rw [List.map_cons, List.nodup_cons] at nd
    rw [List.foldl_cons, put_fresh (h b (by simp)), put_texts k v l _ nd.2, List.append_assoc]
    · rfl
    · intro b' hb
      have h1 := h b' (by simp [hb])
      have ne : ¬ k b = k b' := fun e => nd.1 (e ▸ List.mem_map_of_mem hb)
      unfold inKeys at h1 ⊢
      rw [List.any_append, h1]
      simp [keyEq, ne]
/-- a loop over numbered things -/
theorem for_enum (I : Nat → State → Prop) {tg : Item → State → Option State} {fb : State → Option (Out × State)} {ds : List D} {s : State} {Q : Out → State → Prop} (h : I 0 s)
    (hs : ∀ (i : Nat) (d : D) s, ds[i]? = some d → I i s → Val (tg (.two (.int (i : Nat)) d) s) fun s1 => Ok fb s1 (turnQ (I (i + 1)) Q)) (he : ∀ s, I ds.length s → Q .next s) : OkFor tg fb (numbered ds) s Q := by
  rw [numbered_eq]
  refine for_done (fun p : D × Nat => Item.two (.int (p.2 : Nat)) p.1) (fun p s => I p.length s) h (fun p b s e hi => ?_) fun s hi => he s (by rwa [List.length_zipIdx] at hi)
  obtain ⟨r, e⟩ := e
  have hb : ds.zipIdx[p.length]? = some b := by
    rw [e, List.getElem?_append_right (Nat.le_refl _), Nat.sub_self]
    rfl
  rw [List.getElem?_zipIdx] at hb
  obtain ⟨d, hd, e2⟩ := Option.map_eq_some_iff.mp hb
  subst e2
  have := hs p.length d s hd hi
  simp only [List.length_append, List.length_cons, List.length_nil, Nat.zero_add]
  exact this
end IRP

end
section
/-! Web: places, roads, names, the form of a web. -/
namespace W10
open PySem IR IRP
open PyData (strOk)
theorem e_is_row_of (ds : List D) (lo hi : Int) (cs : Cells) : sem_is_row_of [.val (.tuple ds), .val (.int lo), .val (.int hi)] cs = some (.bool (decide (lo ≤ ds.length) && decide ((ds.length : Int) ≤ hi)), cs) := by
  unfold sem_is_row_of body_is_row_of
  simp [runDef, bCons, bNil, sIf, bin2, un1, preVar, post, rdSlot, nowF, conF, callF, callK, consP, nilP, finArgs, finArg, argSlot, retF, dropF, bothV, eitherV, boolF, blF, notV, notT, tst1, both, either, isiF, isTy, chain3, cmpop, cmpD, IR.truthy, lkF, lkSlot, ifF, frzF, dfzF, lstF, consF, nilL, tupF, newD, idxD, lenD, b_add_i, b_sub_i, b_add_l, b_add_t, b_add_s, b_mod, b_mul_l, IR.sizeOk, mkL, mkT, partF, nonP, partOf, slice3, sliceD, eqD, asgV, asgB, asgD, setV, setB, setDB, gName1, gNil1, gCons1, gTup1, asgT, parF, consM, nilM, mkV, mkL', setMks, subS, wipeE, subSlot, itVar, itF, itR, seqItems, yesF, negF, intD, strD, appF, atBox, putB, setCF, atCell, isD, isNone]
  by_cases h : lo ≤ ds.length <;> simp [h]
theorem e_is_place {ns : List Str} (rs : List (Str × Str)) {x : Str} (hn : OkS ns) (hx : strOk x = true) (cs : Cells) : sem_is_place [.val (webD ns rs), .val (.str x)] cs = some (.bool (decide (x ∈ ns)), cs) := by
  unfold sem_is_place body_is_place
  simp [runDef, bCons, bNil, sIf, bin2, un1, preVar, post, rdSlot, nowF, conF, callF, callK, consP, nilP, finArgs, finArg, argSlot, retF, dropF, bothV, eitherV, boolF, blF, notV, notT, tst1, both, either, isiF, isTy, chain3, cmpop, cmpD, IR.truthy, lkF, lkSlot, ifF, frzF, dfzF, lstF, consF, nilL, tupF, newD, idxD, lenD, b_add_i, b_sub_i, b_add_l, b_add_t, b_add_s, b_mod, b_mul_l, IR.sizeOk, mkL, mkT, partF, nonP, partOf, slice3, sliceD, eqD, asgV, asgB, asgD, setV, setB, setDB, gName1, gNil1, gCons1, gTup1, asgT, parF, consM, nilM, mkV, mkL', setMks, subS, wipeE, subSlot, itVar, itF, itR, seqItems, yesF, negF, intD, strD, appF, atBox, putB, setCF, atCell, isD, isNone, at0, inD, sh_str hx, sh_S hn, any_S]
theorem e_have_road {ns : List Str} {rs : List (Str × Str)} {x y : Str} (hr : OkR rs) (hx : strOk x = true) (hy : strOk y = true) (cs : Cells) : sem_have_road [.val (webD ns rs), .val (.str x), .val (.str y)] cs = some (.bool (decide ((x, y) ∈ rs ∨ (y, x) ∈ rs)), cs) := by
  unfold sem_have_road body_have_road
  simp [runDef, bCons, bNil, sIf, bin2, un1, preVar, post, rdSlot, nowF, conF, callF, callK, consP, nilP, finArgs, finArg, argSlot, retF, dropF, bothV, eitherV, boolF, blF, notV, notT, tst1, both, either, isiF, isTy, chain3, cmpop, cmpD, IR.truthy, lkF, lkSlot, ifF, frzF, dfzF, lstF, consF, nilL, tupF, newD, idxD, lenD, b_add_i, b_sub_i, b_add_l, b_add_t, b_add_s, b_mod, b_mul_l, IR.sizeOk, mkL, mkT, partF, nonP, partOf, slice3, sliceD, eqD, asgV, asgB, asgD, setV, setB, setDB, gName1, gNil1, gCons1, gTup1, asgT, parF, consM, nilM, mkV, mkL', setMks, subS, wipeE, subSlot, itVar, itF, itR, seqItems, yesF, negF, intD, strD, appF, atBox, putB, setCF, atCell, isD, isNone, at1, inD, lf, sh_R hr, sh_two hx hy, sh_two hy hx, any_R]
  by_cases h : (x, y) ∈ rs <;> simp [h]
def adj (rs : List (Str × Str)) (x y : Str) : Bool := decide ((x, y) ∈ rs ∨ (y, x) ∈ rs)
def nearS (ns : List Str) (rs : List (Str × Str)) (x : Str) : List Str := ns.filter (adj rs x)
theorem e_neighbours_of {ns : List Str} {rs : List (Str × Str)} {x : Str} (hn : OkS ns) (hr : OkR rs) (hx : strOk x = true) (hl : ns.length ≤ 8) (cs : Cells) : sem_neighbours_of [.val (webD ns rs), .val (.str x)] cs = some (.tuple (S (nearS ns rs x)), cs) := by
  unfold sem_neighbours_of body_neighbours_of
  simp [runDef, bCons, bNil, sIf, bin2, un1, preVar, post, rdSlot, nowF, conF, callF, callK, consP, nilP, finArgs, finArg, argSlot, retF, dropF, bothV, eitherV, boolF, blF, notV, notT, tst1, both, either, isiF, isTy, chain3, cmpop, cmpD, IR.truthy, lkF, lkSlot, ifF, frzF, dfzF, lstF, consF, nilL, tupF, newD, idxD, lenD, b_add_i, b_sub_i, b_add_l, b_add_t, b_add_s, b_mod, b_mul_l, IR.sizeOk, mkL, mkT, partF, nonP, partOf, slice3, sliceD, eqD, asgV, asgB, asgD, setV, setB, setDB, gName1, gNil1, gCons1, gTup1, asgT, parF, consM, nilM, mkV, mkL', setMks, subS, wipeE, subSlot, itVar, itF, itR, seqItems, yesF, negF, intD, strD, appF, atBox, putB, setCF, atCell, isD, isNone]
  rw [lcF_filter PyData.str (adj rs x) PyData.str (l := ns)]
  · simp [runDef, bCons, bNil, sIf, bin2, un1, preVar, post, rdSlot, nowF, conF, callF, callK, consP, nilP, finArgs, finArg, argSlot, retF, dropF, bothV, eitherV, boolF, blF, notV, notT, tst1, both, either, isiF, isTy, chain3, cmpop, cmpD, IR.truthy, lkF, lkSlot, ifF, frzF, dfzF, lstF, consF, nilL, tupF, newD, idxD, lenD, b_add_i, b_sub_i, b_add_l, b_add_t, b_add_s, b_mod, b_mul_l, IR.sizeOk, mkL, mkT, partF, nonP, partOf, slice3, sliceD, eqD, asgV, asgB, asgD, setV, setB, setDB, gName1, gNil1, gCons1, gTup1, asgT, parF, consM, nilM, mkV, mkL', setMks, subS, wipeE, subSlot, itVar, itF, itR, seqItems, yesF, negF, intD, strD, appF, atBox, putB, setCF, atCell, isD, isNone, tupleD, S, nearS]
  · simp [runDef, bCons, bNil, sIf, bin2, un1, preVar, post, rdSlot, nowF, conF, callF, callK, consP, nilP, finArgs, finArg, argSlot, retF, dropF, bothV, eitherV, boolF, blF, notV, notT, tst1, both, either, isiF, isTy, chain3, cmpop, cmpD, IR.truthy, lkF, lkSlot, ifF, frzF, dfzF, lstF, consF, nilL, tupF, newD, idxD, lenD, b_add_i, b_sub_i, b_add_l, b_add_t, b_add_s, b_mod, b_mul_l, IR.sizeOk, mkL, mkT, partF, nonP, partOf, slice3, sliceD, eqD, asgV, asgB, asgD, setV, setB, setDB, gName1, gNil1, gCons1, gTup1, asgT, parF, consM, nilM, mkV, mkL', setMks, subS, wipeE, subSlot, itVar, itF, itR, seqItems, yesF, negF, intD, strD, appF, atBox, putB, setCF, atCell, isD, isNone, at0, S]
  · omega
  · intro y hy
    simp [runDef, bCons, bNil, sIf, bin2, un1, preVar, post, rdSlot, nowF, conF, callF, callK, consP, nilP, finArgs, finArg, argSlot, retF, dropF, bothV, eitherV, boolF, blF, notV, notT, tst1, both, either, isiF, isTy, chain3, cmpop, cmpD, IR.truthy, lkF, lkSlot, ifF, frzF, dfzF, lstF, consF, nilL, tupF, newD, idxD, lenD, b_add_i, b_sub_i, b_add_l, b_add_t, b_add_s, b_mod, b_mul_l, IR.sizeOk, mkL, mkT, partF, nonP, partOf, slice3, sliceD, eqD, asgV, asgB, asgD, setV, setB, setDB, gName1, gNil1, gCons1, gTup1, asgT, parF, consM, nilM, mkV, mkL', setMks, subS, wipeE, subSlot, itVar, itF, itR, seqItems, yesF, negF, intD, strD, appF, atBox, putB, setCF, atCell, isD, isNone, lcTurn, e_have_road hr hx (hn y hy), lf, adj]
    split <;> rfl
theorem keys_S : ∀ ns : List Str, keysOf (S ns) = some (ns.map Sum.inr)
  | [] => rfl
  | x :: ns => by
    simp only [S_cons, keysOf, keyOfD, keys_S ns, Option.bind_some, Option.map_some, List.map_cons]
theorem uniq_len {α : Type} [DecidableEq α] (l acc : List α) (h : (acc ++ l).Nodup) : l.foldl (fun acc x => if x ∈ acc then acc else acc ++ [x]) acc = acc ++ l := by
  induction l generalizing acc with
  | nil => simp
  | cons x l ih =>
    have hx : x ∉ acc := by
      intro hx
      have := (List.nodup_append.mp h).2.2 x hx x (by simp)
      exact this rfl
    rw [List.foldl_cons, if_neg hx, ih]
    · simp
    · simpa using h
theorem uniq_nodup {α : Type} [DecidableEq α] {l : List α} (h : l.Nodup) : uniq l = l := by
  unfold uniq
  rw [uniq_len l [] (by simpa using h)]
  rfl
theorem e_are_unlike_S {ns : List Str} (h : ns.Nodup) (hl : ns.length < 64) (cs : Cells) : sem_are_unlike [.val (.tuple (S ns))] cs = some (.bool true, cs) := by
  have hd : (ns.map (Sum.inr : Str → L2.Key)).Nodup := List.Pairwise.map _ (fun a b n e => n (Sum.inr.inj e)) h
  have e : lenSetD (.tuple (S ns)) = some (.int (ns.length : Nat)) := by
    show lenSetL (S ns) = _
    unfold lenSetL
    rw [S_len, if_pos hl, keys_S]
    simp only [uniq_nodup hd, List.length_map]
  unfold sem_are_unlike body_are_unlike
  simp [runDef, bCons, bNil, sIf, bin2, un1, preVar, post, rdSlot, nowF, conF, callF, callK, consP, nilP, finArgs, finArg, argSlot, retF, dropF, bothV, eitherV, boolF, blF, notV, notT, tst1, both, either, isiF, isTy, chain3, cmpop, cmpD, IR.truthy, lkF, lkSlot, ifF, frzF, dfzF, lstF, consF, nilL, tupF, newD, idxD, lenD, b_add_i, b_sub_i, b_add_l, b_add_t, b_add_s, b_mod, b_mul_l, IR.sizeOk, mkL, mkT, partF, nonP, partOf, slice3, sliceD, eqD, asgV, asgB, asgD, setV, setB, setDB, gName1, gNil1, gCons1, gTup1, asgT, parF, consM, nilM, mkV, mkL', setMks, subS, wipeE, subSlot, itVar, itF, itR, seqItems, yesF, negF, intD, strD, appF, atBox, putB, setCF, atCell, isD, isNone, e, S_len]
theorem e_are_places {ns : List Str} {xs : List Str} (hn : OkS ns) (hx : ∀ x ∈ xs, x ∈ ns) (hd : xs.Nodup) (hl : xs.length < 64) (cs : Cells) : sem_are_places [.val (.tuple (S ns)), .val (.tuple (S xs))] cs = some (.bool true, cs) := by
  unfold sem_are_places body_are_places
  simp [runDef, bCons, bNil, sIf, bin2, un1, preVar, post, rdSlot, nowF, conF, callF, callK, consP, nilP, finArgs, finArg, argSlot, retF, dropF, bothV, eitherV, boolF, blF, notV, notT, tst1, both, either, isiF, isTy, chain3, cmpop, cmpD, IR.truthy, lkF, lkSlot, ifF, frzF, dfzF, lstF, consF, nilL, tupF, newD, idxD, lenD, b_add_i, b_sub_i, b_add_l, b_add_t, b_add_s, b_mod, b_mul_l, IR.sizeOk, mkL, mkT, partF, nonP, partOf, slice3, sliceD, eqD, asgV, asgB, asgD, setV, setB, setDB, gName1, gNil1, gCons1, gTup1, asgT, parF, consM, nilM, mkV, mkL', setMks, subS, wipeE, subSlot, itVar, itF, itR, seqItems, yesF, negF, intD, strD, appF, atBox, putB, setCF, atCell, isD, isNone]
  rw [lcF_all PyData.str (fun y => PyData.bool (decide (y ∈ ns))) (l := xs)]
  · simp [runDef, bCons, bNil, sIf, bin2, un1, preVar, post, rdSlot, nowF, conF, callF, callK, consP, nilP, finArgs, finArg, argSlot, retF, dropF, bothV, eitherV, boolF, blF, notV, notT, tst1, both, either, isiF, isTy, chain3, cmpop, cmpD, IR.truthy, lkF, lkSlot, ifF, frzF, dfzF, lstF, consF, nilL, tupF, newD, idxD, lenD, b_add_i, b_sub_i, b_add_l, b_add_t, b_add_s, b_mod, b_mul_l, IR.sizeOk, mkL, mkT, partF, nonP, partOf, slice3, sliceD, eqD, asgV, asgB, asgD, setV, setB, setDB, gName1, gNil1, gCons1, gTup1, asgT, parF, consM, nilM, mkV, mkL', setMks, subS, wipeE, subSlot, itVar, itF, itR, seqItems, yesF, negF, intD, strD, appF, atBox, putB, setCF, atCell, isD, isNone, allD, allBools_map, e_are_unlike_S hd hl]
    simp [eq_true hx]
  · simp [runDef, bCons, bNil, sIf, bin2, un1, preVar, post, rdSlot, nowF, conF, callF, callK, consP, nilP, finArgs, finArg, argSlot, retF, dropF, bothV, eitherV, boolF, blF, notV, notT, tst1, both, either, isiF, isTy, chain3, cmpop, cmpD, IR.truthy, lkF, lkSlot, ifF, frzF, dfzF, lstF, consF, nilL, tupF, newD, idxD, lenD, b_add_i, b_sub_i, b_add_l, b_add_t, b_add_s, b_mod, b_mul_l, IR.sizeOk, mkL, mkT, partF, nonP, partOf, slice3, sliceD, eqD, asgV, asgB, asgD, setV, setB, setDB, gName1, gNil1, gCons1, gTup1, asgT, parF, consM, nilM, mkV, mkL', setMks, subS, wipeE, subSlot, itVar, itF, itR, seqItems, yesF, negF, intD, strD, appF, atBox, putB, setCF, atCell, isD, isNone, S, lf, lfAll_S]
  · omega
  · intro y hy
    simp [runDef, bCons, bNil, sIf, bin2, un1, preVar, post, rdSlot, nowF, conF, callF, callK, consP, nilP, finArgs, finArg, argSlot, retF, dropF, bothV, eitherV, boolF, blF, notV, notT, tst1, both, either, isiF, isTy, chain3, cmpop, cmpD, IR.truthy, lkF, lkSlot, ifF, frzF, dfzF, lstF, consF, nilL, tupF, newD, idxD, lenD, b_add_i, b_sub_i, b_add_l, b_add_t, b_add_s, b_mod, b_mul_l, IR.sizeOk, mkL, mkT, partF, nonP, partOf, slice3, sliceD, eqD, asgV, asgB, asgD, setV, setB, setDB, gName1, gNil1, gCons1, gTup1, asgT, parF, consM, nilM, mkV, mkL', setMks, subS, wipeE, subSlot, itVar, itF, itR, seqItems, yesF, negF, intD, strD, appF, atBox, putB, setCF, atCell, isD, isNone, lcTurn, inD, sh_S hn, sh_str (hn y (hx y hy)), any_S]
theorem e_is_road {ns : List Str} {x y : Str} (hn : OkS ns) (hx : x ∈ ns) (hy : y ∈ ns) (hd : x ≠ y) (cs : Cells) : sem_is_road [.val (.tuple (S ns)), .val (rd (x, y))] cs = some (.bool true, cs) := by
  have e := fun cs => e_are_places (xs := [x, y]) hn (by simp [hx, hy]) (by simp [hd]) (by simp) cs
  have e2 : PyData.tuple (S [x, y]) = rd (x, y) := rfl
  rw [e2] at e
  have e3 := fun cs => e_is_row_of (S [x, y]) 2 2 cs
  rw [e2] at e3
  unfold sem_is_road body_is_road
  simp [runDef, bCons, bNil, sIf, bin2, un1, preVar, post, rdSlot, nowF, conF, callF, callK, consP, nilP, finArgs, finArg, argSlot, retF, dropF, bothV, eitherV, boolF, blF, notV, notT, tst1, both, either, isiF, isTy, chain3, cmpop, cmpD, IR.truthy, lkF, lkSlot, ifF, frzF, dfzF, lstF, consF, nilL, tupF, newD, idxD, lenD, b_add_i, b_sub_i, b_add_l, b_add_t, b_add_s, b_mod, b_mul_l, IR.sizeOk, mkL, mkT, partF, nonP, partOf, slice3, sliceD, eqD, asgV, asgB, asgD, setV, setB, setDB, gName1, gNil1, gCons1, gTup1, asgT, parF, consM, nilM, mkV, mkL', setMks, subS, wipeE, subSlot, itVar, itF, itR, seqItems, yesF, negF, intD, strD, appF, atBox, putB, setCF, atCell, isD, isNone, e, e3, S_len]
abbrev LET : Str := "abcdefghijklmnopqrstuvwxyz"
abbrev DIG : Str := "0123456789"
def OkName (x : Str) : Prop := ∃ c r, x = ⟨(c :: r).toArray⟩ ∧ r.length ≤ 7 ∧ c ∈ LET.cps ∧ ∀ d ∈ c :: r, d ∈ LET.cps ∨ d ∈ DIG.cps
theorem sl8 : 8 ≤ sizeLine := by decide
theorem in_one (c : Nat) (z : Str) : inD (.str ⟨#[c]⟩) (.str z) = some (decide (c ∈ z.cps)) := by
  show some (decide (c ∈ z.cps.toList)) = _
  by_cases h : c ∈ z.cps <;> simp [h]
theorem e_is_name {x : Str} (h : OkName x) (cs : Cells) : sem_is_name [.val (.str x)] cs = some (.bool true, cs) := by
  obtain ⟨c, r, rfl, h1, h2, h3⟩ := h
  have hl : (⟨(c :: r).toArray⟩ : Str).length = r.length + 1 := by simp [Str.length]
  have sl : (⟨(c :: r).toArray⟩ : Str).length ≤ sizeLine := by rw [hl]; exact Nat.le_trans (by omega) sl8
  unfold sem_is_name body_is_name
  refine run_p (env' := [.val (.str ⟨(c :: r).toArray⟩), .emp]) rfl ?_
  show bCons _ _ (⟨[.val (.str ⟨(c :: r).toArray⟩), .emp], cs⟩ : State) = _
  have i0 : idxD (.str ⟨(c :: r).toArray⟩) (.int 0) = some (.str ⟨#[c]⟩) := by
    unfold idxD
    simp only [sl, if_true, at0]
    rfl
  have l0 : lenD (.str ⟨(c :: r).toArray⟩) = some (.int (r.length + 1 : Nat)) := by
    show (if (⟨(c :: r).toArray⟩ : Str).length ≤ sizeLine then some (PyData.int ((⟨(c :: r).toArray⟩ : Str).length : Nat)) else Option.none) = _
    rw [if_pos sl, hl]
  have n0 : inD (.str ⟨#[c]⟩) (.str LET) = some true := by rw [in_one, decide_eq_true h2]
  have e1 : decide ((1 : Int) ≤ ((r.length + 1 : Nat) : Int)) = true := by simp; omega
  have e2 : decide (((r.length + 1 : Nat) : Int) ≤ 8) = true := by simp; omega
  refine (st_f ?_).trans ?_
  · simp only [either, notT, tst1, nowF, isiF, un1, preVar, post, rdSlot, lf, isTy, conF, chain3, bin2, cmpop, IR.truthy, List.getElem?_cons_zero, Option.bind_some, Option.map_some, i0, l0, n0, e1, e2, Bool.not_true, if_true, Bool.false_eq_true, if_false]
  rw [st_nil]
  refine st_ret (s' := ⟨[.val (.str ⟨(c :: r).toArray⟩), .emp], cs⟩) ?_
  have key : lcF [1] (itVar 0) (gName1 1) yesF (eitherV (bin2 (cmpD .in_) (preVar 1) (nowF (conF (.str LET)))) (bin2 (cmpD .in_) (preVar 1) (nowF (conF (.str DIG))))) ⟨[.val (.str ⟨(c :: r).toArray⟩), .emp], cs⟩ = some ((c :: r).map fun _ => PyData.bool true, ⟨[.val (.str ⟨(c :: r).toArray⟩), .emp], cs⟩) := by
    refine lcF_all (fun c => PyData.str ⟨#[c]⟩) (fun d => PyData.bool true) (l := c :: r) ?_ ?_ ?_
    · simp only [itVar, List.getElem?_cons_zero, lkSlot, lf, if_true, Option.bind_some, seqItems, strItems, Option.map_some, ones, List.map_map]
      rfl
    · simp
      omega
    · intro d hd
      rcases h3 d hd with hd | hd
      · have n1 : inD (.str ⟨#[d]⟩) (.str LET) = some true := by rw [in_one, decide_eq_true hd]
        simp [lcTurn, gName1, setV, subS, wipeE, subSlot, yesF, eitherV, boolF, bin2, preVar, nowF, conF, post, rdSlot, cmpD, cmpop, n1]
      · have n2 : inD (.str ⟨#[d]⟩) (.str DIG) = some true := by rw [in_one, decide_eq_true hd]
        obtain ⟨b, n1⟩ : ∃ b, inD (.str ⟨#[d]⟩) (.str LET) = some b := ⟨_, in_one d LET⟩
        cases b <;> simp [lcTurn, gName1, setV, subS, wipeE, subSlot, yesF, eitherV, boolF, bin2, preVar, nowF, conF, post, rdSlot, cmpD, cmpop, n1, n2]
  have a0 : allD (.list ((c :: r).map fun _ => PyData.bool true)) = some (.bool true) := by
    show (allBools ((c :: r).map fun _ => PyData.bool true)).map _ = _
    rw [allBools_map (fun _ => true)]
    simp
  simp only [un1, nowF, frzF, List.map_cons, List.map_nil]
  rw [key]
  simp only [Option.map_some, Option.bind_some, post, a0]
theorem tupKeys_S : ∀ kss : List (List Str), tupKeysOf (kss.map fun k => PyData.tuple (S k)) = some (kss.map fun k => k.map Sum.inr)
  | [] => rfl
  | x :: ns => by
    simp only [List.map_cons, tupKeysOf, keys_S, tupKeys_S ns, Option.bind_some, Option.map_some]
theorem e_are_unlike_T {kss : List (List Str)} (h : kss.Nodup) (hl : kss.length < 64) (cs : Cells) : sem_are_unlike [.val (.list (kss.map fun k => .tuple (S k)))] cs = some (.bool true, cs) := by
  have inj : ∀ a b : List Str, a.map (Sum.inr : Str → L2.Key) = b.map Sum.inr → a = b := fun a b e => (List.map_inj_right (fun (x y : Str) (e : (Sum.inr x : L2.Key) = Sum.inr y) => Sum.inr.inj e)).mp e
  have hd : (kss.map fun k => k.map (Sum.inr : Str → L2.Key)).Nodup := List.Pairwise.map _ (fun a b n e => n (inj a b e)) h
  have e : lenSetD (.list (kss.map fun k => .tuple (S k))) = some (.int (kss.length : Nat)) := by
    show lenSetL (kss.map fun k => .tuple (S k)) = _
    unfold lenSetL
    rw [List.length_map, if_pos hl]
    cases kss with
    | nil => rfl
    | cons k r =>
      have e1 : keysOf ((k :: r).map fun k => PyData.tuple (S k)) = none := rfl
      rw [e1, tupKeys_S]
      simp only [Option.map_some, uniq_nodup hd, List.length_map]
  unfold sem_are_unlike body_are_unlike
  simp [runDef, bCons, bNil, sIf, bin2, un1, preVar, post, rdSlot, nowF, conF, callF, callK, consP, nilP, finArgs, finArg, argSlot, retF, dropF, bothV, eitherV, boolF, blF, notV, notT, tst1, both, either, isiF, isTy, chain3, cmpop, cmpD, IR.truthy, lkF, lkSlot, ifF, frzF, dfzF, lstF, consF, nilL, tupF, newD, idxD, lenD, b_add_i, b_sub_i, b_add_l, b_add_t, b_add_s, b_mod, b_mul_l, IR.sizeOk, mkL, mkT, partF, nonP, partOf, slice3, sliceD, eqD, asgV, asgB, asgD, setV, setB, setDB, gName1, gNil1, gCons1, gTup1, asgT, parF, consM, nilM, mkV, mkL', setMks, subS, wipeE, subSlot, itVar, itF, itR, seqItems, yesF, negF, intD, strD, appF, atBox, putB, setCF, atCell, isD, isNone, e]
structure OkWeb (ns : List Str) (rs : List (Str × Str)) : Prop where
  nm : ∀ x ∈ ns, OkName x
  nd : ns.Nodup
  l1 : 1 ≤ ns.length
  l8 : ns.length ≤ 8
  rd : ∀ r ∈ rs, r.1 ∈ ns ∧ r.2 ∈ ns ∧ r.1 ≠ r.2
  l14 : rs.length ≤ 14
  rnd : (rs.map fun r => sortS [r.1, r.2]).Nodup
theorem ok_name {x : Str} (h : OkName x) : strOk x = true := by
  obtain ⟨c, r, rfl, h1, h2, h3⟩ := h
  have a1 : ∀ d ∈ LET.cps.toList, d < 0x110000 := by decide +kernel
  have a2 : ∀ d ∈ DIG.cps.toList, d < 0x110000 := by decide +kernel
  have a3 : ∀ d ∈ c :: r, decide (d < 0x110000) = true := fun d hd => decide_eq_true ((h3 d hd).elim (fun q => a1 d (Array.mem_def.mp q)) fun q => a2 d (Array.mem_def.mp q))
  unfold PyData.strOk
  rw [List.all_toArray]
  exact List.all_eq_true.mpr a3
theorem OkWeb.n {ns : List Str} {rs : List (Str × Str)} (h : OkWeb ns rs) : OkS ns := fun x hx => ok_name (h.nm x hx)
theorem OkWeb.r {ns : List Str} {rs : List (Str × Str)} (h : OkWeb ns rs) : OkR rs := fun r hr => ⟨h.n _ (h.rd r hr).1, h.n _ (h.rd r hr).2.1⟩
theorem e_is_web_form {ns : List Str} {rs : List (Str × Str)} (h : OkWeb ns rs) (cs : Cells) : sem_is_web_form [.val (webD ns rs)] cs = some (.bool true, cs) := by
  unfold sem_is_web_form body_is_web_form
  refine run_p (env' := [.val (webD ns rs), .val (.tuple (S ns)), .val (.tuple (R rs)), .emp, .emp]) rfl ?_
  show bCons _ _ (⟨[.val (webD ns rs), .emp, .emp, .emp, .emp], cs⟩ : State) = _
  have l1 := h.l1
  have l8 := h.l8
  have l14 := h.l14
  have d1 : decide ((1 : Int) ≤ (ns.length : Int)) = true := by simp; omega
  have d2 : decide ((ns.length : Int) ≤ 8) = true := by simp; omega
  have d3 : decide ((rs.length : Int) ≤ 14) = true := by simp; omega
  refine (st_f ?_).trans ?_
  · simp [runDef, bCons, bNil, sIf, bin2, un1, preVar, post, rdSlot, nowF, conF, callF, callK, consP, nilP, finArgs, finArg, argSlot, retF, dropF, bothV, eitherV, boolF, blF, notV, notT, tst1, both, either, isiF, isTy, chain3, cmpop, cmpD, IR.truthy, lkF, lkSlot, ifF, frzF, dfzF, lstF, consF, nilL, tupF, newD, idxD, lenD, b_add_i, b_sub_i, b_add_l, b_add_t, b_add_s, b_mod, b_mul_l, IR.sizeOk, mkL, mkT, partF, nonP, partOf, slice3, sliceD, eqD, asgV, asgB, asgD, setV, setB, setDB, gName1, gNil1, gCons1, gTup1, asgT, parF, consM, nilM, mkV, mkL', setMks, subS, wipeE, subSlot, itVar, itF, itR, seqItems, yesF, negF, intD, strD, appF, atBox, putB, setCF, atCell, isD, isNone, e_is_row_of, at0, S_len, d1, d2]
  rw [st_nil]
  refine (st_go (s1 := ⟨[.val (webD ns rs), .val (.tuple (S ns)), .val (.tuple (R rs)), .emp, .emp], cs⟩) ?_).trans ?_
  · simp [runDef, bCons, bNil, sIf, bin2, un1, preVar, post, rdSlot, nowF, conF, callF, callK, consP, nilP, finArgs, finArg, argSlot, retF, dropF, bothV, eitherV, boolF, blF, notV, notT, tst1, both, either, isiF, isTy, chain3, cmpop, cmpD, IR.truthy, lkF, lkSlot, ifF, frzF, dfzF, lstF, consF, nilL, tupF, newD, idxD, lenD, b_add_i, b_sub_i, b_add_l, b_add_t, b_add_s, b_mod, b_mul_l, IR.sizeOk, mkL, mkT, partF, nonP, partOf, slice3, sliceD, eqD, asgV, asgB, asgD, setV, setB, setDB, gName1, gNil1, gCons1, gTup1, asgT, parF, consM, nilM, mkV, mkL', setMks, subS, wipeE, subSlot, itVar, itF, itR, seqItems, yesF, negF, intD, strD, appF, atBox, putB, setCF, atCell, isD, isNone, lf, lfAll, lfAll_S]
  refine (st_f ?_).trans ?_
  · simp [runDef, bCons, bNil, sIf, bin2, un1, preVar, post, rdSlot, nowF, conF, callF, callK, consP, nilP, finArgs, finArg, argSlot, retF, dropF, bothV, eitherV, boolF, blF, notV, notT, tst1, both, either, isiF, isTy, chain3, cmpop, cmpD, IR.truthy, lkF, lkSlot, ifF, frzF, dfzF, lstF, consF, nilL, tupF, newD, idxD, lenD, b_add_i, b_sub_i, b_add_l, b_add_t, b_add_s, b_mod, b_mul_l, IR.sizeOk, mkL, mkT, partF, nonP, partOf, slice3, sliceD, eqD, asgV, asgB, asgD, setV, setB, setDB, gName1, gNil1, gCons1, gTup1, asgT, parF, consM, nilM, mkV, mkL', setMks, subS, wipeE, subSlot, itVar, itF, itR, seqItems, yesF, negF, intD, strD, appF, atBox, putB, setCF, atCell, isD, isNone]
    rw [lcF_all PyData.str (fun y => PyData.bool true) (l := ns)]
    · simp [runDef, bCons, bNil, sIf, bin2, un1, preVar, post, rdSlot, nowF, conF, callF, callK, consP, nilP, finArgs, finArg, argSlot, retF, dropF, bothV, eitherV, boolF, blF, notV, notT, tst1, both, either, isiF, isTy, chain3, cmpop, cmpD, IR.truthy, lkF, lkSlot, ifF, frzF, dfzF, lstF, consF, nilL, tupF, newD, idxD, lenD, b_add_i, b_sub_i, b_add_l, b_add_t, b_add_s, b_mod, b_mul_l, IR.sizeOk, mkL, mkT, partF, nonP, partOf, slice3, sliceD, eqD, asgV, asgB, asgD, setV, setB, setDB, gName1, gNil1, gCons1, gTup1, asgT, parF, consM, nilM, mkV, mkL', setMks, subS, wipeE, subSlot, itVar, itF, itR, seqItems, yesF, negF, intD, strD, appF, atBox, putB, setCF, atCell, isD, isNone, allD, allBools_map (fun _ => true), e_are_unlike_S h.nd (by omega : ns.length < 64)]
    · simp [runDef, bCons, bNil, sIf, bin2, un1, preVar, post, rdSlot, nowF, conF, callF, callK, consP, nilP, finArgs, finArg, argSlot, retF, dropF, bothV, eitherV, boolF, blF, notV, notT, tst1, both, either, isiF, isTy, chain3, cmpop, cmpD, IR.truthy, lkF, lkSlot, ifF, frzF, dfzF, lstF, consF, nilL, tupF, newD, idxD, lenD, b_add_i, b_sub_i, b_add_l, b_add_t, b_add_s, b_mod, b_mul_l, IR.sizeOk, mkL, mkT, partF, nonP, partOf, slice3, sliceD, eqD, asgV, asgB, asgD, setV, setB, setDB, gName1, gNil1, gCons1, gTup1, asgT, parF, consM, nilM, mkV, mkL', setMks, subS, wipeE, subSlot, itVar, itF, itR, seqItems, yesF, negF, intD, strD, appF, atBox, putB, setCF, atCell, isD, isNone, S, lf, lfAll_S]
    · omega
    · intro y hy
      simp [runDef, bCons, bNil, sIf, bin2, un1, preVar, post, rdSlot, nowF, conF, callF, callK, consP, nilP, finArgs, finArg, argSlot, retF, dropF, bothV, eitherV, boolF, blF, notV, notT, tst1, both, either, isiF, isTy, chain3, cmpop, cmpD, IR.truthy, lkF, lkSlot, ifF, frzF, dfzF, lstF, consF, nilL, tupF, newD, idxD, lenD, b_add_i, b_sub_i, b_add_l, b_add_t, b_add_s, b_mod, b_mul_l, IR.sizeOk, mkL, mkT, partF, nonP, partOf, slice3, sliceD, eqD, asgV, asgB, asgD, setV, setB, setDB, gName1, gNil1, gCons1, gTup1, asgT, parF, consM, nilM, mkV, mkL', setMks, subS, wipeE, subSlot, itVar, itF, itR, seqItems, yesF, negF, intD, strD, appF, atBox, putB, setCF, atCell, isD, isNone, lcTurn, e_is_name (h.nm y hy)]
  rw [st_nil]
  refine (st_f ?_).trans ?_
  · simp [runDef, bCons, bNil, sIf, bin2, un1, preVar, post, rdSlot, nowF, conF, callF, callK, consP, nilP, finArgs, finArg, argSlot, retF, dropF, bothV, eitherV, boolF, blF, notV, notT, tst1, both, either, isiF, isTy, chain3, cmpop, cmpD, IR.truthy, lkF, lkSlot, ifF, frzF, dfzF, lstF, consF, nilL, tupF, newD, idxD, lenD, b_add_i, b_sub_i, b_add_l, b_add_t, b_add_s, b_mod, b_mul_l, IR.sizeOk, mkL, mkT, partF, nonP, partOf, slice3, sliceD, eqD, asgV, asgB, asgD, setV, setB, setDB, gName1, gNil1, gCons1, gTup1, asgT, parF, consM, nilM, mkV, mkL', setMks, subS, wipeE, subSlot, itVar, itF, itR, seqItems, yesF, negF, intD, strD, appF, atBox, putB, setCF, atCell, isD, isNone, e_is_row_of, R_len, d3]
    rw [lcF_all rd (fun y => PyData.bool true) (l := rs)]
    · simp [runDef, bCons, bNil, sIf, bin2, un1, preVar, post, rdSlot, nowF, conF, callF, callK, consP, nilP, finArgs, finArg, argSlot, retF, dropF, bothV, eitherV, boolF, blF, notV, notT, tst1, both, either, isiF, isTy, chain3, cmpop, cmpD, IR.truthy, lkF, lkSlot, ifF, frzF, dfzF, lstF, consF, nilL, tupF, newD, idxD, lenD, b_add_i, b_sub_i, b_add_l, b_add_t, b_add_s, b_mod, b_mul_l, IR.sizeOk, mkL, mkT, partF, nonP, partOf, slice3, sliceD, eqD, asgV, asgB, asgD, setV, setB, setDB, gName1, gNil1, gCons1, gTup1, asgT, parF, consM, nilM, mkV, mkL', setMks, subS, wipeE, subSlot, itVar, itF, itR, seqItems, yesF, negF, intD, strD, appF, atBox, putB, setCF, atCell, isD, isNone, allD, allBools_map (fun _ => true)]
    · simp [runDef, bCons, bNil, sIf, bin2, un1, preVar, post, rdSlot, nowF, conF, callF, callK, consP, nilP, finArgs, finArg, argSlot, retF, dropF, bothV, eitherV, boolF, blF, notV, notT, tst1, both, either, isiF, isTy, chain3, cmpop, cmpD, IR.truthy, lkF, lkSlot, ifF, frzF, dfzF, lstF, consF, nilL, tupF, newD, idxD, lenD, b_add_i, b_sub_i, b_add_l, b_add_t, b_add_s, b_mod, b_mul_l, IR.sizeOk, mkL, mkT, partF, nonP, partOf, slice3, sliceD, eqD, asgV, asgB, asgD, setV, setB, setDB, gName1, gNil1, gCons1, gTup1, asgT, parF, consM, nilM, mkV, mkL', setMks, subS, wipeE, subSlot, itVar, itF, itR, seqItems, yesF, negF, intD, strD, appF, atBox, putB, setCF, atCell, isD, isNone, R, lf, lfAll_S]
    · omega
    · intro y hy
      have := h.rd y hy
      have e := fun cs => e_is_road h.n this.1 this.2.1 this.2.2 cs
      simp [runDef, bCons, bNil, sIf, bin2, un1, preVar, post, rdSlot, nowF, conF, callF, callK, consP, nilP, finArgs, finArg, argSlot, retF, dropF, bothV, eitherV, boolF, blF, notV, notT, tst1, both, either, isiF, isTy, chain3, cmpop, cmpD, IR.truthy, lkF, lkSlot, ifF, frzF, dfzF, lstF, consF, nilL, tupF, newD, idxD, lenD, b_add_i, b_sub_i, b_add_l, b_add_t, b_add_s, b_mod, b_mul_l, IR.sizeOk, mkL, mkT, partF, nonP, partOf, slice3, sliceD, eqD, asgV, asgB, asgD, setV, setB, setDB, gName1, gNil1, gCons1, gTup1, asgT, parF, consM, nilM, mkV, mkL', setMks, subS, wipeE, subSlot, itVar, itF, itR, seqItems, yesF, negF, intD, strD, appF, atBox, putB, setCF, atCell, isD, isNone, lcTurn, e]
  rw [st_nil]
  refine st_ret ?_
  simp [runDef, bCons, bNil, sIf, bin2, un1, preVar, post, rdSlot, nowF, conF, callF, callK, consP, nilP, finArgs, finArg, argSlot, retF, dropF, bothV, eitherV, boolF, blF, notV, notT, tst1, both, either, isiF, isTy, chain3, cmpop, cmpD, IR.truthy, lkF, lkSlot, ifF, frzF, dfzF, lstF, consF, nilL, tupF, newD, idxD, lenD, b_add_i, b_sub_i, b_add_l, b_add_t, b_add_s, b_mod, b_mul_l, IR.sizeOk, mkL, mkT, partF, nonP, partOf, slice3, sliceD, eqD, asgV, asgB, asgD, setV, setB, setDB, gName1, gNil1, gCons1, gTup1, asgT, parF, consM, nilM, mkV, mkL', setMks, subS, wipeE, subSlot, itVar, itF, itR, seqItems, yesF, negF, intD, strD, appF, atBox, putB, setCF, atCell, isD, isNone]
  rw [lcF_all rd (fun r => PyData.tuple (S (sortS [r.1, r.2]))) (l := rs)]
  · have := fun cs => e_are_unlike_T h.rnd (by rw [List.length_map]; omega) cs
    rw [List.map_map] at this
    simp [runDef, bCons, bNil, sIf, bin2, un1, preVar, post, rdSlot, nowF, conF, callF, callK, consP, nilP, finArgs, finArg, argSlot, retF, dropF, bothV, eitherV, boolF, blF, notV, notT, tst1, both, either, isiF, isTy, chain3, cmpop, cmpD, IR.truthy, lkF, lkSlot, ifF, frzF, dfzF, lstF, consF, nilL, tupF, newD, idxD, lenD, b_add_i, b_sub_i, b_add_l, b_add_t, b_add_s, b_mod, b_mul_l, IR.sizeOk, mkL, mkT, partF, nonP, partOf, slice3, sliceD, eqD, asgV, asgB, asgD, setV, setB, setDB, gName1, gNil1, gCons1, gTup1, asgT, parF, consM, nilM, mkV, mkL', setMks, subS, wipeE, subSlot, itVar, itF, itR, seqItems, yesF, negF, intD, strD, appF, atBox, putB, setCF, atCell, isD, isNone]
    exact this cs
  · simp [runDef, bCons, bNil, sIf, bin2, un1, preVar, post, rdSlot, nowF, conF, callF, callK, consP, nilP, finArgs, finArg, argSlot, retF, dropF, bothV, eitherV, boolF, blF, notV, notT, tst1, both, either, isiF, isTy, chain3, cmpop, cmpD, IR.truthy, lkF, lkSlot, ifF, frzF, dfzF, lstF, consF, nilL, tupF, newD, idxD, lenD, b_add_i, b_sub_i, b_add_l, b_add_t, b_add_s, b_mod, b_mul_l, IR.sizeOk, mkL, mkT, partF, nonP, partOf, slice3, sliceD, eqD, asgV, asgB, asgD, setV, setB, setDB, gName1, gNil1, gCons1, gTup1, asgT, parF, consM, nilM, mkV, mkL', setMks, subS, wipeE, subSlot, itVar, itF, itR, seqItems, yesF, negF, intD, strD, appF, atBox, putB, setCF, atCell, isD, isNone, R, lf]
  · omega
  · intro y hy
    simp [runDef, bCons, bNil, sIf, bin2, un1, preVar, post, rdSlot, nowF, conF, callF, callK, consP, nilP, finArgs, finArg, argSlot, retF, dropF, bothV, eitherV, boolF, blF, notV, notT, tst1, both, either, isiF, isTy, chain3, cmpop, cmpD, IR.truthy, lkF, lkSlot, ifF, frzF, dfzF, lstF, consF, nilL, tupF, newD, idxD, lenD, b_add_i, b_sub_i, b_add_l, b_add_t, b_add_s, b_mod, b_mul_l, IR.sizeOk, mkL, mkT, partF, nonP, partOf, slice3, sliceD, eqD, asgV, asgB, asgD, setV, setB, setDB, gName1, gNil1, gCons1, gTup1, asgT, parF, consM, nilM, mkV, mkL', setMks, subS, wipeE, subSlot, itVar, itF, itR, seqItems, yesF, negF, intD, strD, appF, atBox, putB, setCF, atCell, isD, isNone, lcTurn, rd, sortedL, allStrs, tupleD, S]
theorem e_need_web {ns : List Str} {rs : List (Str × Str)} (h : OkWeb ns rs) (cs : Cells) : sem_need_web [.val (webD ns rs)] cs = some (.none, cs) := by
  unfold sem_need_web body_need_web
  simp [runDef, bCons, bNil, sIf, bin2, un1, preVar, post, rdSlot, nowF, conF, callF, callK, consP, nilP, finArgs, finArg, argSlot, retF, dropF, bothV, eitherV, boolF, blF, notV, notT, tst1, both, either, isiF, isTy, chain3, cmpop, cmpD, IR.truthy, lkF, lkSlot, ifF, frzF, dfzF, lstF, consF, nilL, tupF, newD, idxD, lenD, b_add_i, b_sub_i, b_add_l, b_add_t, b_add_s, b_mod, b_mul_l, IR.sizeOk, mkL, mkT, partF, nonP, partOf, slice3, sliceD, eqD, asgV, asgB, asgD, setV, setB, setDB, gName1, gNil1, gCons1, gTup1, asgT, parF, consM, nilM, mkV, mkL', setMks, subS, wipeE, subSlot, itVar, itF, itR, seqItems, yesF, negF, intD, strD, appF, atBox, putB, setCF, atCell, isD, isNone, e_is_web_form h]
end W10

end
section
/-! D1: budgets of draws. -/
namespace W10
open PySem IR IRP
open PyData (strOk)
theorem b_fdiv {i j : Int} (h : 0 < j ∧ j.natAbs.log2 < 9000) : binop .fdiv (.int i) (.int j) = some (.int (i / j)) := by
  show (if 0 < j ∧ j.natAbs.log2 < 9000 then some (PyData.int (i / j)) else Option.none) = _
  rw [if_pos h]
theorem b_mul {i j : Int} (h : mulOk i j = true) : binop .mul (.int i) (.int j) = some (.int (i * j)) := by
  show (if mulOk i j then some (PyData.int (i * j)) else Option.none) = _
  rw [if_pos h]
theorem b_pow {i j : Int} (h : 0 ≤ j ∧ (bitsOf i : Int) * j ≤ 2 ^ 27) : binop .pow (.int i) (.int j) = some (.int (i ^ j.toNat)) := by
  show (if 0 ≤ j ∧ (bitsOf i : Int) * j ≤ 2 ^ 27 then some (PyData.int (i ^ j.toNat)) else Option.none) = _
  rw [if_pos h]
theorem log_le {i : Int} {k : Nat} (h0 : 0 ≤ i) (h : i < 2 ^ k) (hk : 0 < k) : i.natAbs.log2 < k := by
  by_cases e : i.natAbs = 0
  · rw [e]
    simpa using hk
  · rw [Nat.log2_lt e]
    have : (i.natAbs : Int) < ((2 ^ k : Nat) : Int) := by
      rw [Int.natAbs_of_nonneg h0]
      push_cast
      exact h
    exact_mod_cast this
section
variable {X : Cells}
theorem rdc {a b c : Int} : rdSlot (X ++ [[a, b, c]]) (.cell X.length) = some (.list [.int a, .int b, .int c]) := by
  show ((X ++ [[a, b, c]])[X.length]?).map (fun ns => PyData.list (ns.map .int)) = _
  rw [List.getElem?_append_right (Nat.le_refl _), Nat.sub_self]
  rfl
theorem gtc {l : List Int} : (X ++ [l])[X.length]? = some l := by
  rw [List.getElem?_append_right (Nat.le_refl _), Nat.sub_self]
  rfl
theorem stc {l m : List Int} : (X ++ [l]).set X.length m = X ++ [m] := by
  rw [List.set_append_right _ _ (Nat.le_refl _), Nat.sub_self]
  rfl
theorem ix0 : L2.ixN 3 0 = some 0 := rfl
theorem ix2 : L2.ixN 3 2 = some 2 := rfl
end
def Bud (X : Cells) (k : Nat) (cs : Cells) : Prop := ∃ a b c : Int, cs = X ++ [[a, b, c]] ∧ 0 ≤ b ∧ b < 10 ^ 40 ∧ 0 ≤ c ∧ c + k ≤ 1000000
section
variable {X : Cells}
theorem Bud.mono {j k : Nat} {cs : Cells} (h : Bud X k cs) (l : j ≤ k) : Bud X j cs := by
  obtain ⟨a, b, c, e, h1, h2, h3, h4⟩ := h
  exact ⟨a, b, c, e, h1, h2, h3, by omega⟩
theorem Bud.len {j : Nat} {cs : Cells} (h : Bud X j cs) : cs.length = X.length + 1 := by
  obtain ⟨a, b, c, rfl, _⟩ := h
  simp
theorem Bud.lens {j k : Nat} {cs cs' : Cells} (h : Bud X j cs) (h' : Bud X k cs') : cs.length = cs'.length := by rw [h.len, h'.len]
/-- a def that draws at most m times, and gives a thing of R -/
def Dr (X : Cells) (fs : FSem) (args : List IR.Arg) (m : Nat) (R : D → Prop) : Prop := ∀ k cs, Bud X (k + m) cs → ∃ d cs', fs args cs = some (d, cs') ∧ R d ∧ Bud X k cs'
theorem dr_at {fs : FSem} {args : List IR.Arg} {m k : Nat} {R : D → Prop} {cs : Cells} {Q : D → Cells → Prop} (h : Dr X fs args m R) (hb : Bud X (k + m) cs) (q : ∀ d cs', R d → Bud X k cs' → Q d cs') : OkC fs args cs Q := by
  obtain ⟨d, cs', e, r, b⟩ := h k cs hb
  exact ⟨d, cs', e, q d cs' r b⟩
theorem dr_in {fs : FSem} {args : List IR.Arg} {m : Nat} {R : D → Prop} (h : ∀ k cs, Bud X (k + m) cs → OkC fs args cs fun d cs' => R d ∧ Bud X k cs') : Dr X fs args m R := fun k cs hb => by
  obtain ⟨d, cs', e, r, b⟩ := h k cs hb
  exact ⟨d, cs', e, r, b⟩
theorem Dr.mono {fs : FSem} {args : List IR.Arg} {m m' : Nat} {R R' : D → Prop} (h : Dr X fs args m R) (l : m ≤ m') (r : ∀ d, R d → R' d) : Dr X fs args m' R' := fun k cs hb => by
  obtain ⟨d, cs', e, q, b⟩ := h k cs (hb.mono (by omega))
  exact ⟨d, cs', e, r d q, b⟩
end
end W10

end
section
/-! Gen: texts, roads, rows as data; repr. -/
namespace W10
open PySem IR IRP
open PyData (strOk)
theorem sort2 (a b : Str) : sortS [a, b] = if decide (a.cps.toList < b.cps.toList) then [a, b] else [b, a] := by
  show insS a (insS b []) = _
  unfold insS insS
  rfl
theorem sort2_perm (a b : Str) : (sortS [a, b]).Perm [a, b] := by
  rw [sort2]
  split
  · exact List.Perm.refl _
  · exact List.Perm.swap _ _ _
def keyR (r : Str × Str) : List Str := sortS [r.1, r.2]
theorem key_sub {r q : Str × Str} (h : keyR r = keyR q) : (r.1 = q.1 ∨ r.1 = q.2) ∧ (r.2 = q.1 ∨ r.2 = q.2) ∧ (q.1 = r.1 ∨ q.1 = r.2) ∧ (q.2 = r.1 ∨ q.2 = r.2) := by
  have p : [r.1, r.2].Perm [q.1, q.2] := (sort2_perm r.1 r.2).symm.trans (by unfold keyR at h; rw [h]; exact sort2_perm q.1 q.2)
  have m1 := p.mem_iff (a := r.1)
  have m2 := p.mem_iff (a := r.2)
  have m3 := p.mem_iff (a := q.1)
  have m4 := p.mem_iff (a := q.2)
  simp only [List.mem_cons, List.not_mem_nil, or_false, true_or, or_true, true_iff, iff_true] at m1 m2 m3 m4
  exact ⟨m1, m2, m3, m4⟩
theorem get_inj {ns : List Str} (hd : ns.Nodup) {i j : Nat} {x : Str} (hi : ns[i]? = some x) (hj : ns[j]? = some x) : i = j := by
  obtain ⟨h1, e1⟩ := List.getElem?_eq_some_iff.mp hi
  exact (List.getElem?_inj h1 hd).mp (hi.trans hj.symm)
theorem nin_S {ns : List Str} {x : Str} (h : OkS ns) (hx : strOk x = true) : cmpop .nin (.str x) (.list (S ns)) = some (!decide (x ∈ ns)) := by
  show (if (SeqAt.shaped (.str x) && SeqAt.shaped (.list (S ns))) = true then some ((S ns).any fun z => PyData.eqv z (.str x)) else Option.none).map (!·) = _
  rw [sh_str hx, sh_Sl h, any_S]
  rfl
theorem idx_S {ns : List Str} {i : Nat} {x : Str} (h : ns[i]? = some x) : idxD (.list (S ns)) (.int i) = some (.str x) := by
  show L2.atI (S ns) (i : Int) = _
  rw [at_nat]
  unfold S
  rw [List.getElem?_map, h]
  rfl
theorem S_snoc (ns : List Str) (x : Str) : S (ns ++ [x]) = S ns ++ [.str x] := by simp [S]
theorem R_snoc (rs : List (Str × Str)) (r : Str × Str) : R (rs ++ [r]) = R rs ++ [.tuple [.str r.1, .str r.2]] := by simp [R, rd]
theorem lfAll_R : ∀ rs : List (Str × Str), lfAll (R rs) = true
  | [] => by simp [R_nil, lfAll]
  | r :: rs => by simp [R_cons, lfAll, lf, lfAll_R rs]
theorem perm_map_inv {α β : Type} (f : α → β) {l : List β} {l' : List β} (h : l.Perm l') : ∀ {m : List α}, l' = m.map f → ∃ n : List α, l = n.map f ∧ n.Perm m := by
  induction h with
  | nil => intro m e; exact ⟨m, by rw [← e], List.Perm.refl _⟩
  | cons x _ ih =>
    intro m e
    cases m with
    | nil => cases e
    | cons a m =>
      rw [List.map_cons] at e
      injection e with e1 e2
      obtain ⟨n, h1, h2⟩ := ih e2
      exact ⟨a :: n, by rw [e1, h1]; rfl, h2.cons a⟩
  | swap x y l =>
    intro m e
    match m, e with
    | a :: b :: m, e =>
      simp only [List.map_cons] at e
      injection e with e1 e2
      injection e2 with e2 e3
      exact ⟨b :: a :: m, by rw [e1, e2, e3]; rfl, List.Perm.swap _ _ _⟩
  | trans _ _ ih1 ih2 =>
    intro m e
    obtain ⟨n, h1, h2⟩ := ih2 e
    obtain ⟨n', h3, h4⟩ := ih1 h1
    exact ⟨n', h3, h4.trans h2⟩
theorem in_ints (k : Int) (l : List Int) : ∃ b, cmpop .in_ (.int k) (.tuple (I l)) = some b := by
  have h : SeqAt.shaped (.tuple (I l)) = true := by simp [SeqAt.shaped, PyData.canLay0, PyData.depth, depth_I, lay_I]
  have h2 : SeqAt.shaped (.int k) = true := by simp [SeqAt.shaped, PyData.canLay0, PyData.depth]
  refine ⟨(I l).any fun z => PyData.eqv z (.int k), ?_⟩
  show (if (SeqAt.shaped (.int k) && SeqAt.shaped (.tuple (I l))) = true then some ((I l).any fun z => PyData.eqv z (.int k)) else Option.none) = _
  rw [h, h2]
  rfl
theorem ones_S (ns : List Str) : ones (S ns) = ns.map fun x => Item.one (.str x) := by
  unfold ones S
  rw [List.map_map]
  rfl
theorem ones_R (rs : List (Str × Str)) : ones (R rs) = rs.map fun r => Item.one (rd r) := by
  unfold ones R
  rw [List.map_map]
  rfl
theorem in_Sl {ns : List Str} {x : Str} (h : OkS ns) (hx : strOk x = true) : cmpop .in_ (.str x) (.list (S ns)) = some (decide (x ∈ ns)) := by
  show (if (SeqAt.shaped (.str x) && SeqAt.shaped (.list (S ns))) = true then some ((S ns).any fun z => PyData.eqv z (.str x)) else Option.none) = _
  rw [sh_str hx, sh_Sl h, any_S]
  rfl
theorem in_St {ns : List Str} {x : Str} (h : OkS ns) (hx : strOk x = true) : cmpop .in_ (.str x) (.tuple (S ns)) = some (decide (x ∈ ns)) := by
  show (if (SeqAt.shaped (.str x) && SeqAt.shaped (.tuple (S ns))) = true then some ((S ns).any fun z => PyData.eqv z (.str x)) else Option.none) = _
  rw [sh_str hx, sh_S h, any_S]
  rfl
theorem put_new {x : Str} {v : D} {kvs : List (D × D)} (h : inKeys (.str x) kvs = false) : put (.str x) v kvs = kvs ++ [(.str x, v)] := by
  unfold put
  rw [h]
  rfl
theorem eqv_St (a b : List Str) : PyData.eqv (.tuple (S a)) (.tuple (S b)) = decide (a = b) := by
  simp only [PyData.eqv, eqvAll_S]
theorem eq_St {a b : List Str} (ha : OkS a) (hb : OkS b) : cmpop .eq (.tuple (S a)) (.tuple (S b)) = some (decide (a = b)) := by
  show (if (SeqAt.shaped (.tuple (S a)) && SeqAt.shaped (.tuple (S b))) = true then some (PyData.eqv (.tuple (S a)) (.tuple (S b))) else Option.none) = _
  rw [sh_S ha, sh_S hb, eqv_St]
  rfl
theorem ne_St {a b : List Str} (ha : OkS a) (hb : OkS b) : cmpop .ne (.tuple (S a)) (.tuple (S b)) = some (!decide (a = b)) := by
  have := eq_St ha hb
  show (eqD (.tuple (S a)) (.tuple (S b))).map (!·) = _
  rw [show eqD (.tuple (S a)) (.tuple (S b)) = some (decide (a = b)) from this]
  rfl
theorem ok0 : OkS [] := fun x h => by cases h
theorem idx_St {ns : List Str} {i : Nat} (h : i < ns.length) : idxD (.tuple (S ns)) (.int i) = some (.str (ns.getD i "")) := by
  show L2.atI (S ns) (i : Int) = _
  rw [at_nat]
  unfold S
  rw [List.getElem?_map, List.getD_eq_getElem?_getD, List.getElem?_eq_getElem h]
  rfl
theorem getD_in {ns row : List Str} (hr : ∀ x ∈ row, x ∈ ns) {i : Nat} (h : i < row.length) : row.getD i "" ∈ ns := by
  rw [List.getD_eq_getElem?_getD, List.getElem?_eq_getElem h]
  exact hr _ (List.getElem_mem h)
theorem ix_get {ns : List Str} {x : Str} (h : x ∈ ns) : ns[ix ns x]? = some x := by
  unfold ix
  rw [List.getElem?_eq_getElem (List.idxOf_lt_length_of_mem h), List.getElem_idxOf]
theorem repr_ok {d : D} (h1 : d.canLay0 = true) (h2 : d.showable = true) (h3 : d.intsShort 13 = true) (h4 : d.weight ≤ 2 ^ 20) (h5 : d.depth ≤ 60) : reprD d = some (.str d.shown) := by
  unfold reprD
  rw [if_pos ⟨h1, h2, PyData.hasDict_of_canLay d h1, PyData.shown_fits (B := 13) (by omega) (by omega) (PyData.leavesShort_of_canLay0 13 d h1 h3) h4, h5⟩]
theorem showable_S : ∀ ns : List Str, PyData.showableAll (S ns) = true
  | [] => by simp [S_nil, PyData.showableAll]
  | x :: ns => by simp [S_cons, PyData.showableAll, PyData.showable, showable_S ns]
theorem showable_R : ∀ rs : List (Str × Str), PyData.showableAll (R rs) = true
  | [] => by simp [R_nil, PyData.showableAll]
  | x :: rs => by simp [R_cons, PyData.showableAll, PyData.showable, showable_R rs]
theorem short_S : ∀ ns : List Str, PyData.intsShortAll 13 (S ns) = true
  | [] => by simp [S_nil, PyData.intsShortAll]
  | x :: ns => by simp [S_cons, PyData.intsShortAll, PyData.intsShort, short_S ns]
theorem short_R : ∀ rs : List (Str × Str), PyData.intsShortAll 13 (R rs) = true
  | [] => by simp [R_nil, PyData.intsShortAll]
  | x :: rs => by simp [R_cons, PyData.intsShortAll, PyData.intsShort, short_R rs]
theorem OkName.len {x : Str} (h : OkName x) : x.cps.size ≤ 8 := by
  obtain ⟨c, r, rfl, h1, _⟩ := h
  simp
  omega
theorem weight_S : ∀ {ns : List Str}, (∀ x ∈ ns, OkName x) → PyData.weightAll (S ns) ≤ 9 * ns.length
  | [], _ => by simp [S_nil, PyData.weightAll]
  | x :: ns, h => by
    have := weight_S fun y hy => h y (List.mem_cons_of_mem x hy)
    have := (h x (by simp)).len
    simp only [S_cons, PyData.weightAll, PyData.weight, List.length_cons]
    omega
theorem weight_R : ∀ {rs : List (Str × Str)}, (∀ r ∈ rs, OkName r.1 ∧ OkName r.2) → PyData.weightAll (R rs) ≤ 19 * rs.length
  | [], _ => by simp [R_nil, PyData.weightAll]
  | x :: rs, h => by
    have := weight_R fun y hy => h y (List.mem_cons_of_mem x hy)
    have := (h x (by simp)).1.len
    have := (h x (by simp)).2.len
    simp only [R_cons, PyData.weightAll, PyData.weight, List.length_cons]
    omega
theorem repr_bool (b : Bool) : reprD (.bool b) = some (.str (PyData.bool b).shown) := repr_ok rfl rfl rfl (by simp [PyData.weight]) (by simp [PyData.depth])
end W10

end
local macro_rules | `(tactic| walk_at "ws") => `(tactic| first | with_reducible refine IRP.ok_now ?_ | ((with_reducible apply IRP.ok_pre); exact rfl) | with_reducible refine IRP.ok_con ?_ | with_reducible refine IRP.ok_consP ?_ | with_reducible refine IRP.ok_nilP ?_ | with_reducible refine IRP.ok_bin2 ?_ | with_reducible refine IRP.ok_un1 ?_ | with_reducible refine IRP.ok_consF ?_ | with_reducible refine IRP.ok_nilL ?_ | ((with_reducible apply IRP.ok_lk); exact rfl) | with_reducible refine IRP.ok_frz ?_ | with_reducible refine IRP.ok_isi ?_ | with_reducible refine IRP.ok_tup ?_ | with_reducible refine IRP.ok_lst ?_ | with_reducible refine IRP.ok_callF ?_ | with_reducible refine IRP.ok_callL ?_ | with_reducible refine IRP.ok_callK ?_ | with_reducible refine IRP.ok_bl ?_ | with_reducible refine IRP.ok_notT ?_ | with_reducible refine IRP.ok_notV ?_ | with_reducible refine IRP.ok_neg ?_ | with_reducible refine IRP.ok_tst1 ?_ | with_reducible refine IRP.ok_nonP ?_ | with_reducible refine IRP.ok_part ?_ | with_reducible refine IRP.ok_slice3 ?_ | with_reducible refine IRP.ok_both ?_ | with_reducible refine IRP.ok_either ?_ | with_reducible refine IRP.ok_bothV ?_ | with_reducible refine IRP.ok_eitherV ?_ | with_reducible refine IRP.ok_boolF ?_ | with_reducible refine IRP.ok_ife ?_ | with_reducible refine IRP.ok_chain3 ?_ | with_reducible refine IRP.ok_newD ?_ | with_reducible refine IRP.ok_dfz ?_ | with_reducible refine IRP.ok_nilM ?_ | with_reducible refine IRP.ok_consM ?_ | with_reducible refine IRP.ok_mkV ?_ | with_reducible refine IRP.ok_mkL ?_ | with_reducible refine IRP.ok_mkD ?_ | with_reducible refine IRP.ok_yes ?_ | ((with_reducible apply IRP.ok_pop); exact rfl) | with_reducible refine IRP.ok_itF ?_ | with_reducible refine IRP.ok_itR ?_ | ((with_reducible apply IRP.ok_itVar); exact rfl) | with_reducible refine IRP.ok_idxM ?_ | with_reducible refine IRP.ok_back ?_ | with_reducible refine IRP.ok_lc ?_ | with_reducible refine IRP.ok_t ?_ | with_reducible refine IRP.ok_dc ?_ | with_reducible refine IRP.ok_dt ?_ | with_reducible refine IRP.k_nil ?_ | with_reducible refine IRP.k_asgV ?_ | with_reducible refine IRP.k_asgB ?_ | with_reducible refine IRP.k_asgD ?_ | with_reducible refine IRP.k_ret ?_ | with_reducible refine IRP.k_if ?_ | with_reducible refine IRP.k_drop ?_ | with_reducible refine IRP.k_asgT ?_ | with_reducible refine IRP.k_par ?_ | ((with_reducible apply IRP.k_app); exact rfl) | ((with_reducible apply IRP.k_ext); exact rfl) | with_reducible refine IRP.k_setDF ?_ | with_reducible refine IRP.k_setF ?_ | with_reducible refine IRP.k_setCF ?_ | with_reducible refine IRP.k_asgC ?_ | with_reducible refine IRP.k_retN ?_ | with_reducible refine IRP.k_brk ?_ | with_reducible refine IRP.k_cont ?_ | with_reducible refine IRP.k_asc ?_ | with_reducible refine IRP.ok_nil ?_ | with_reducible refine IRP.ok_sIf ?_)
local macro_rules | `(tactic| walk_at "wv") => `(tactic| first | with_reducible refine IRP.turn_next ?_ | with_reducible refine IRP.turn_cont ?_ | with_reducible refine IRP.turn_brk ?_ | with_reducible refine IRP.turn_ret ?_ | ((with_reducible apply IRP.v_post); exact rfl) | ((with_reducible apply IRP.v_fin); exact rfl) | ((with_reducible apply IRP.v_box); exact rfl) | ((with_reducible apply IRP.v_dbox); exact rfl) | ((with_reducible apply IRP.v_cell); exact rfl) | with_reducible refine IRP.v_name ?_ | with_reducible refine IRP.v_tup2 ?_ | with_reducible refine IRP.v_tup2l ?_ | with_reducible refine IRP.v_two ?_ | with_reducible refine IRP.v_tup3 ?_ | with_reducible refine IRP.v_len ?_ | with_reducible refine IRP.v_lent ?_ | with_reducible refine IRP.v_add ?_ | with_reducible refine IRP.v_sub ?_ | with_reducible refine IRP.v_lt ?_ | with_reducible refine IRP.v_le ?_ | with_reducible refine IRP.v_gt ?_ | with_reducible refine IRP.v_ge ?_ | with_reducible refine IRP.v_eq ?_ | with_reducible refine IRP.v_ne ?_ | with_reducible refine IRP.v_eqs ?_ | with_reducible refine IRP.v_nes ?_ | with_reducible refine IRP.v_isN ?_ | with_reducible refine IRP.v_isnN ?_ | with_reducible refine IRP.v_isB ?_ | with_reducible refine IRP.v_isnB ?_ | with_reducible refine IRP.v_cmpD ?_ | with_reducible refine IRP.v_trub ?_ | with_reducible refine IRP.v_truN ?_ | with_reducible refine IRP.v_trui ?_ | with_reducible refine IRP.v_trul ?_ | with_reducible refine IRP.v_trut ?_ | with_reducible refine IRP.v_t0 ?_ | with_reducible refine IRP.v_l0 ?_ | with_reducible refine IRP.v_t1 ?_ | with_reducible refine IRP.v_l1 ?_ | with_reducible refine IRP.v_t2 ?_ | with_reducible refine IRP.v_l2 ?_ | with_reducible refine IRP.v_seql ?_ | with_reducible refine IRP.v_seqt ?_ | with_reducible refine IRP.v_sll ?_ | with_reducible refine IRP.v_slt ?_ | with_reducible refine IRP.v_tul ?_ | with_reducible refine IRP.v_tut ?_ | with_reducible refine IRP.v_lil ?_ | with_reducible refine IRP.v_lit ?_ | with_reducible refine IRP.v_inti ?_ | with_reducible refine IRP.v_intb ?_ | with_reducible refine IRP.v_max ?_ | with_reducible refine IRP.v_min ?_ | with_reducible refine IRP.v_bvl ?_ | with_reducible refine IRP.v_bvt ?_ | with_reducible refine IRP.v_enum ?_ | with_reducible refine IRP.v_enumA ?_ | with_reducible refine IRP.v_enumT ?_ | (with_reducible refine ⟨_, Eq.refl (PySem.PyData.bool _), ?_⟩) | (with_reducible refine ⟨_, Eq.refl (PySem.PyData.int _), ?_⟩) | (with_reducible refine ⟨_, Eq.refl (PySem.PyData.list _), ?_⟩) | (with_reducible refine IRP.also rfl ?_) | (with_reducible refine IRP.also (Nat.le_of_ble_eq_true rfl) ?_) | (with_reducible refine IRP.also ⟨rfl, rfl⟩ ?_) | (with_reducible refine IRP.also ⟨rfl, Nat.le_of_ble_eq_true rfl⟩ ?_) | ((with_reducible refine IRP.br_t ?_ ?_); exact rfl) | ((with_reducible refine IRP.br_f ?_ ?_); exact rfl))
local macro_rules | `(tactic| walk_at "nf") => `(tactic| try dsimp only [IR.setV, IR.setB, IR.setDB, IR.putB, IR.setMks, IR.subS, IR.wipeE, IR.subSlot, List.map_cons, List.map_nil, List.set_cons_succ, List.set_cons_zero])
local macro_rules | `(tactic| walk_at "w1") => `(tactic| first | walk_at "ws" | walk_at "wv" | with_reducible refine IRP.k_for ?_)
local macro_rules | `(tactic| walk_at "wn") => `(tactic| ((repeat (first | walk_at "ws" | walk_at "wv")); walk_at "nf"))
local macro_rules | `(tactic| walk_at "w") => `(tactic| ((repeat walk_at "w1"); walk_at "nf"))
local macro_rules | `(tactic| walk_at "run") => `(tactic| (refine IRP.okC_run rfl ?_; simp only [List.map_cons, List.map_nil, List.cons_append, List.nil_append, IR.argSlot, Nat.reduceSub, List.replicate_succ, List.replicate_zero]))
local macro_rules | `(tactic| walk_at "wb") => `(tactic| repeat' (first | walk_at "w1" | (refine IRP.br ?_ ?_ <;> intro _)))
local macro_rules | `(tactic| walk_at "wk") => `(tactic| repeat (first | walk_at "w1" | (refine IRP.val_of (a := true) (by decide +kernel) ?_) | (refine IRP.val_of (a := false) (by decide +kernel) ?_) | (refine IRP.br_t (by decide +kernel) ?_) | (refine IRP.br_f (by decide +kernel) ?_)))
section
/-! N1: the other family's draws: next, pick, shuffled. -/
namespace W10
open PySem IR IRP
open PyData (strOk)
def mxA (b t : Int) : Int := ((b + 982451653 * t) * (b + 982451653 * t) + 57885161 * t * t * t + 13) % (10 ^ 43 + 73)
def mxB (m t : Int) : Int := (m * m + 433494437 * m + 7 * t) % (10 ^ 40 + 91)
def nextOf (b t many : Int) : Int := mxB (mxA b t) t / 10 ^ 9 % many
section
variable {X : Cells}
theorem next_pos {a b c many : Int} (ha : 0 < a) (hm : 0 < many) (hl : many.natAbs.log2 < 9000) : sem__law_next [.cell X.length, .val (.int many)] (X ++ [[a, b, c]]) = some (.int (a % many), X ++ [[a / many, b, c]]) := by
  suffices h : OkC sem__law_next [.cell X.length, .val (.int many)] (X ++ [[a, b, c]]) fun d cs => d = .int (a % many) ∧ cs = X ++ [[a / many, b, c]] by
    obtain ⟨d, cs, e, rfl, rfl⟩ := h
    exact e
  walk_at "run"
  unfold body__law_next
  walk_at "w"
  refine v_post rdc ?_
  walk_at "w"
  refine br_t (decide_eq_true ha) ?_
  walk_at "w"
  refine v_post rdc ?_
  walk_at "w"
  refine val_of (b_mod hm) ?_
  walk_at "w"
  refine v_post rdc ?_
  walk_at "w"
  refine val_of (b_fdiv ⟨hm, hl⟩) ?_
  walk_at "w"
  refine val_of gtc ?_
  refine ⟨_, rfl, _, rfl, ?_⟩
  refine val_of ix0 ?_
  rw [stc]
  walk_at "w"
  exact end_ret (by simp) ⟨rfl, rfl⟩
theorem next_neg {a b c many : Int} (ha : ¬ 0 < a) (hm : 0 < many) (hb : 0 ≤ b) (hb2 : b < 10 ^ 40) (hc : 0 ≤ c) (hc2 : c ≤ 10 ^ 9) : sem__law_next [.cell X.length, .val (.int many)] (X ++ [[a, b, c]]) = some (.int (nextOf b (c + 1) many), X ++ [[a, b, c + 1]]) := by
  have ml : ∀ i j : Int, 0 ≤ i → i < 2 ^ 400 → 0 ≤ j → j < 2 ^ 400 → mulOk i j = true := by
    intro i j h1 h2 h3 h4
    have l1 := log_le h1 h2 (by decide)
    have l2 := log_le h3 h4 (by decide)
    unfold mulOk
    simp only [Bool.or_eq_true, decide_eq_true_eq]
    right
    omega
  have mt : ∀ i : Int, mulOk i (c + 1) = true := by
    intro i
    unfold mulOk
    simp only [Bool.or_eq_true, decide_eq_true_eq]
    left
    right
    omega
  have w0 : 0 ≤ b + 982451653 * (c + 1) := by omega
  have w1 : b + 982451653 * (c + 1) < 2 ^ 400 := by
    have : (10 : Int) ^ 40 + 982451653 * (10 ^ 9 + 1) < 2 ^ 400 := by decide
    omega
  have x0 : 0 ≤ mxA b (c + 1) := Int.emod_nonneg _ (by decide)
  have x1 : mxA b (c + 1) < 2 ^ 400 := Int.lt_trans (Int.emod_lt_of_pos _ (by decide)) (by decide)
  have f1 : (0 : Int) < 10 ^ 9 ∧ ((10 : Int) ^ 9).natAbs.log2 < 9000 := ⟨by decide, Nat.lt_trans (log_le (k := 30) (by decide) (by decide) (by decide)) (by decide)⟩
  suffices h : OkC sem__law_next [.cell X.length, .val (.int many)] (X ++ [[a, b, c]]) fun d cs => d = .int (nextOf b (c + 1) many) ∧ cs = X ++ [[a, b, c + 1]] by
    obtain ⟨d, cs, e, rfl, rfl⟩ := h
    exact e
  walk_at "run"
  unfold body__law_next
  walk_at "w"
  refine v_post rdc ?_
  walk_at "w"
  refine br_f (decide_eq_false ha) ?_
  walk_at "w"
  refine v_post rdc ?_
  walk_at "w"
  refine val_of gtc ?_
  refine ⟨_, rfl, _, rfl, ?_⟩
  refine val_of ix2 ?_
  rw [stc]
  walk_at "w"
  refine v_post rdc ?_
  walk_at "w"
  refine val_of (b_mul (mt _)) ?_
  walk_at "w"
  refine val_of (b_mul (ml _ _ w0 w1 w0 w1)) ?_
  walk_at "w"
  refine val_of (b_mul (mt _)) ?_
  walk_at "w"
  refine val_of (b_mul (mt _)) ?_
  walk_at "w"
  refine val_of (b_mul (mt _)) ?_
  walk_at "w"
  refine v_pow (n := 43) ?_ (by omega)
  walk_at "w"
  refine val_of (b_mod (by decide)) ?_
  have e1 : ((b + 982451653 * (c + 1)) * (b + 982451653 * (c + 1)) + 57885161 * (c + 1) * (c + 1) * (c + 1) + 13) % (10 ^ 43 + 73) = mxA b (c + 1) := rfl
  rw [e1]
  walk_at "w"
  refine val_of (b_mul (ml _ _ x0 x1 x0 x1)) ?_
  walk_at "w"
  refine val_of (b_mul (ml _ _ (by decide) (by decide) x0 x1)) ?_
  walk_at "w"
  refine val_of (b_mul (mt _)) ?_
  walk_at "w"
  refine v_pow (n := 40) ?_ (by omega)
  walk_at "w"
  refine val_of (b_mod (by decide)) ?_
  have e2 : (mxA b (c + 1) * mxA b (c + 1) + 433494437 * mxA b (c + 1) + 7 * (c + 1)) % (10 ^ 40 + 91) = mxB (mxA b (c + 1)) (c + 1) := rfl
  rw [e2]
  walk_at "w"
  refine v_pow (n := 9) ?_ (by omega)
  walk_at "w"
  refine val_of (b_fdiv f1) ?_
  walk_at "w"
  refine val_of (b_mod hm) ?_
  walk_at "w"
  exact end_ret (by simp) ⟨rfl, rfl⟩
theorem d_next {many : Int} (hm : 0 < many) (hb : many < 2 ^ 62) : Dr X sem__law_next [.cell X.length, .val (.int many)] 1 fun d => ∃ v : Nat, d = .int v ∧ (v : Int) < many := by
  rintro k cs ⟨a, b, c, rfl, h1, h2, h3, h4⟩
  by_cases ha : 0 < a
  · have e := next_pos (X := X) (b := b) (c := c) ha hm (Nat.lt_trans (log_le (by omega) hb (by decide)) (by decide))
    have w := Int.emod_nonneg a (show many ≠ 0 by omega)
    refine ⟨_, _, e, ⟨(a % many).toNat, ?_, ?_⟩, ⟨_, _, _, rfl, h1, h2, h3, by omega⟩⟩
    · rw [Int.toNat_of_nonneg w]
    · rw [Int.toNat_of_nonneg w]
      exact Int.emod_lt_of_pos a hm
  · have e := next_neg (X := X) (c := c) ha hm h1 h2 h3 (by omega)
    have w : 0 ≤ nextOf b (c + 1) many := Int.emod_nonneg _ (show many ≠ 0 by omega)
    refine ⟨_, _, e, ⟨(nextOf b (c + 1) many).toNat, ?_, ?_⟩, ⟨_, _, _, rfl, h1, h2, by omega, by omega⟩⟩
    · rw [Int.toNat_of_nonneg w]
    · rw [Int.toNat_of_nonneg w]
      exact Int.emod_lt_of_pos _ hm
theorem d_pick {ds : List D} (h0 : 0 < ds.length) (hl : ds.length < 2 ^ 62) : Dr X sem__law_pick [.cell X.length, .val (.list ds)] 1 fun d => d ∈ ds := by
  refine dr_in fun k cs hb => ?_
  walk_at "run"
  unfold body__law_pick
  walk_at "w"
  refine dr_at (d_next ?_ ?_) hb ?_
  · omega
  · omega
  rintro _ cs' ⟨v, rfl, hv⟩ hb'
  walk_at "w"
  have hv' : v < ds.length := by omega
  have ea : idxD (.list ds) (.int v) = some ds[v] := by
    show L2.atI ds (v : Int) = _
    rw [at_nat, List.getElem?_eq_getElem hv']
  refine val_of ea ?_
  exact end_ret (hb'.lens hb) ⟨List.getElem_mem hv', hb'⟩
/-- a text of one sign of z -/
def oneOf (z : Str) (d : D) : Prop := ∃ k ∈ z.cps, d = .str ⟨#[k]⟩
theorem d_pick_s {z : Str} (h0 : 0 < z.length) (hl : z.length ≤ 100) : Dr X sem__law_pick [.cell X.length, .val (.str z)] 1 (oneOf z) := by
  refine dr_in fun k cs hb => ?_
  have sl : z.length ≤ sizeLine := Nat.le_trans hl (by decide)
  have el : lenD (.str z) = some (.int z.length) := by
    show (if z.length ≤ sizeLine then some (PyData.int z.length) else Option.none) = _
    rw [if_pos sl]
  walk_at "run"
  unfold body__law_pick
  walk_at "w"
  refine val_of el ?_
  walk_at "w"
  refine dr_at (d_next ?_ ?_) hb ?_
  · omega
  · omega
  rintro _ cs' ⟨v, rfl, hv⟩ hb'
  walk_at "w"
  have hv' : v < z.cps.toList.length := by
    have : z.length = z.cps.toList.length := by simp [Str.length]
    omega
  have ea : idxD (.str z) (.int v) = some (.str ⟨#[z.cps.toList[v]]⟩) := by
    show (if z.length ≤ sizeLine then (L2.atI z.cps.toList (v : Int)).map fun c => PyData.str ⟨#[c]⟩ else Option.none) = _
    rw [if_pos sl, at_nat, List.getElem?_eq_getElem hv']
    rfl
  refine val_of ea ?_
  exact end_ret (hb'.lens hb) ⟨⟨_, Array.mem_def.mpr (List.getElem_mem hv'), rfl⟩, hb'⟩
theorem range_one {k : Nat} {it : Item} (h : it ∈ rangeItems 0 k) : ∃ i : Nat, i < k ∧ it = .one (.int i) := by
  obtain ⟨i, hi, e⟩ := List.mem_map.mp h
  exact ⟨i, List.mem_range.mp hi, by rw [← e, Int.zero_add]⟩
theorem range_len (k : Nat) : (rangeItems 0 k).length = k := by simp [rangeItems]
theorem perm_out {α : Type} : ∀ {l : List α} {v : Nat} (h : v < l.length), (l[v] :: l.eraseIdx v).Perm l
  | a :: l, 0, _ => List.Perm.refl _
  | a :: l, v + 1, h => by
    have h' : v < l.length := by simpa using h
    exact (List.Perm.swap a l[v] (l.eraseIdx v)).trans ((perm_out h').cons a)
theorem perm_pop {α : Type} {l f ds : List α} {v : Nat} (h : v < l.length) (p : (l ++ f).Perm ds) : (l.eraseIdx v ++ (f ++ [l[v]])).Perm ds := by
  refine List.Perm.trans ?_ p
  rw [← List.append_assoc]
  refine List.perm_append_comm.trans ?_
  show (l[v] :: (l.eraseIdx v ++ f)).Perm _
  rw [← List.cons_append]
  refine List.Perm.append_right f ?_
  exact perm_out h
theorem d_shuffled {a : IR.Arg} {ds : List D} (ha : a = .val (.list ds) ∨ a = .val (.tuple ds) ∨ (a = .brw (.list ds) ∧ lfAll ds = true)) (hl : ds.length ≤ 100000) : Dr X sem__law_shuffled [.cell X.length, a] ds.length fun d => ∃ ds', d = .list ds' ∧ ds'.Perm ds := by
  refine dr_in fun k cs hb => ?_
  have key : ∀ sl g, OkFor (gName1 4) (bCons (appF 3 (popF 2 (nowF (callF sem__law_next 2 (consP (preVar 0) (consP (nowF (un1 lenD (preVar 2))) (nilP))))))) bNil) (rangeItems 0 ds.length) ⟨[.cell X.length, sl, .box ds, .box [], g], cs⟩ fun o s => o = .next ∧ ∃ f g cs', s = ⟨[.cell X.length, sl, .box [], .box f, g], cs'⟩ ∧ f.Perm ds ∧ Bud X k cs' := by
    intro sl g
    refine for_count (fun m s => ∃ l f g cs, s = ⟨[.cell X.length, sl, .box l, .box f, g], cs⟩ ∧ l.length = m ∧ (l ++ f).Perm ds ∧ Bud X (k + m) cs) ?_ ?_ ?_
    · refine ⟨_, _, _, _, rfl, (range_len _).symm, by simp, ?_⟩
      rw [range_len]
      exact hb
    · rintro it m s hi ⟨l, f, g, cs, rfl, hm, hp, hb⟩
      obtain ⟨i, _, rfl⟩ := range_one hi
      have hpl := hp.length_eq
      rw [List.length_append] at hpl
      walk_at "w"
      refine dr_at (d_next ?_ ?_) hb ?_
      · omega
      · omega
      rintro _ cs1 ⟨v, rfl, hv⟩ hb1
      have hv' : v < l.length := by omega
      walk_at "w"
      refine ⟨by omega, ?_⟩
      refine val_of (List.getElem?_eq_getElem hv') ?_
      walk_at "w"
      refine also (by omega) ?_
      walk_at "w"
      exact ⟨_, _, _, _, rfl, by rw [List.length_eraseIdx_of_lt hv']; omega, perm_pop hv' hp, hb1⟩
    · rintro s ⟨l, f, g, cs, rfl, hm, hp, hb⟩
      obtain rfl := List.eq_nil_of_length_eq_zero hm
      exact ⟨rfl, _, _, _, rfl, hp, hb⟩
  rcases ha with rfl | rfl | ⟨rfl, hf⟩
  · walk_at "run"
    unfold body__law_shuffled
    walk_at "w"
    refine v_rng (by omega) ?_
    refine (key _ _).mono ?_
    rintro _ _ ⟨rfl, f, g, cs', rfl, hp, hb'⟩
    walk_at "w"
    exact end_ret (hb'.lens hb) ⟨⟨_, rfl, hp⟩, hb'⟩
  · walk_at "run"
    unfold body__law_shuffled
    walk_at "w"
    refine v_rng (by omega) ?_
    refine (key _ _).mono ?_
    rintro _ _ ⟨rfl, f, g, cs', rfl, hp, hb'⟩
    walk_at "w"
    exact end_ret (hb'.lens hb) ⟨⟨_, rfl, hp⟩, hb'⟩
  · walk_at "run"
    unfold body__law_shuffled
    have rd : rdSlot cs (.brw (.list ds)) = some (.list ds) := if_pos hf
    walk_at "w"
    refine v_post rd ?_
    walk_at "w"
    refine v_post rd ?_
    walk_at "w"
    refine v_rng (by omega) ?_
    refine (key _ _).mono ?_
    rintro _ _ ⟨rfl, f, g, cs', rfl, hp, hb'⟩
    walk_at "w"
    exact end_ret (hb'.lens hb) ⟨⟨_, rfl, hp⟩, hb'⟩
end
end W10

end
section
/-! N2: drawn names of the other family. -/
namespace W10
open PySem IR IRP
open PyData (strOk)
abbrev FIR : Str := "abcdefghkmpxyz"
theorem fir_let : ∀ q ∈ FIR.cps, q ∈ LET.cps := by
  have : ∀ q ∈ FIR.cps.toList, q ∈ LET.cps.toList := by decide +kernel
  exact fun q h => Array.mem_def.mpr (this q (Array.mem_def.mp h))
/-- a name that has room for k signs more -/
def NameK (k : Nat) (x : Str) : Prop := ∃ c r, x = ⟨(c :: r).toArray⟩ ∧ r.length + k ≤ 7 ∧ c ∈ FIR.cps ∧ ∀ d ∈ c :: r, d ∈ LET.cps ∨ d ∈ DIG.cps
theorem NameK.ok {k : Nat} {x : Str} (h : NameK k x) : OkName x := by
  obtain ⟨c, r, e, h1, h2, h3⟩ := h
  exact ⟨c, r, e, by omega, fir_let c h2, h3⟩
theorem NameK.len {k : Nat} {x : Str} (h : NameK k x) : x.length ≤ 8 := by
  obtain ⟨c, r, rfl, h1, h2, h3⟩ := h
  simp [Str.length]
  omega
theorem NameK.add {k : Nat} {x : Str} (h : NameK (k + 1) x) {q : Nat} (hd : q ∈ ("abz019" : Str).cps) : NameK k (x ++ ⟨#[q]⟩) := by
  obtain ⟨c, r, rfl, h1, h2, h3⟩ := h
  have hs : ∀ q ∈ ("abz019" : Str).cps.toList, q ∈ LET.cps ∨ q ∈ DIG.cps := by decide +kernel
  refine ⟨c, r ++ [q], ?_, by simp; omega, h2, fun d hd' => ?_⟩
  · show (⟨(c :: r).toArray ++ #[q]⟩ : Str) = _
    simp
  · rw [← List.cons_append] at hd'
    rcases List.mem_append.mp hd' with hd' | hd'
    · exact h3 d hd'
    · rw [List.mem_singleton.mp hd']
      exact hs q (Array.mem_def.mp hd)
/-! ### names that are made up -/
def qn (n : Nat) : Str := "q" ++ ((toString (n : Int) : String) : Str)
theorem qn_eq : ∀ n : Fin 8, qn n.val = ⟨#[113, 48 + n.val]⟩ := by decide +kernel
theorem qn_at {n : Nat} (h : n < 8) : qn n = ⟨#[113, 48 + n]⟩ := qn_eq ⟨n, h⟩
theorem qn_ok {n : Nat} (h : n < 8) : OkName (qn n) := by
  have l1 : 113 ∈ LET.cps.toList := by decide +kernel
  have l2 : ∀ n : Fin 8, 48 + n.val ∈ DIG.cps.toList := by decide +kernel
  refine ⟨113, [48 + n], qn_at h, by simp, Array.mem_def.mpr l1, fun d hd => ?_⟩
  simp only [List.mem_cons, List.not_mem_nil, or_false] at hd
  rcases hd with rfl | rfl
  · exact .inl (Array.mem_def.mpr l1)
  · exact .inr (Array.mem_def.mpr (l2 ⟨n, h⟩))
theorem qn_str {n : Nat} (h : n < 8) : ∃ z : Str, strD (.int (n : Int)) = some (.str z) ∧ binop .add (.str "q") (.str z) = some (.str (qn n)) := by
  refine ⟨((toString (n : Int) : String) : Str), ?_, ?_⟩
  · show (if (n : Int).natAbs.log2 < 1920 then some (PyData.str (toString (n : Int) : String)) else Option.none) = _
    rw [if_pos]
    exact Nat.lt_trans (log_le (k := 3) (by omega) (by omega) (by decide)) (by decide)
  · refine b_add_s (Nat.le_trans (m := 8) ?_ (by decide))
    have := qn_at h
    unfold qn at this
    have e : ("q" ++ ((toString (n : Int) : String) : Str) : Str).length = 2 := by rw [this]; rfl
    have e2 : ("q" ++ ((toString (n : Int) : String) : Str) : Str).length = ("q" : Str).length + ((toString (n : Int) : String) : Str).length := by
      show (("q" : Str).cps ++ _).size = _
      rw [Array.size_append]
      rfl
    omega
/-- a name that is not made up, or made up for an earlier number -/
def NmK (n : Nat) (x : Str) : Prop := NameK 0 x ∨ ∃ i < n, x = qn i
theorem NmK.ok {n : Nat} {x : Str} (h : NmK n x) (l : n ≤ 8) : OkName x := by
  rcases h with h | ⟨i, hi, rfl⟩
  · exact h.ok
  · exact qn_ok (by omega)
theorem NmK.ne {n : Nat} {x : Str} (h : NmK n x) (l : n < 8) : x ≠ qn n := by
  rintro rfl
  rw [qn_at l] at h
  rcases h with ⟨c, r, e, _, hc, _⟩ | ⟨i, hi, e⟩
  · have : c = 113 := by
      have := congrArg (fun s : Str => s.cps.toList) e
      simp at this
      exact this.1.symm
    subst this
    have nj : ¬ 113 ∈ FIR.cps.toList := by decide +kernel
    exact nj (Array.mem_def.mp hc)
  · rw [qn_at (by omega)] at e
    have := congrArg (fun s : Str => s.cps.toList) e
    simp at this
    omega
theorem NmK.mono {n m : Nat} {x : Str} (h : NmK n x) (l : n ≤ m) : NmK m x := h.imp_right fun ⟨i, a, b⟩ => ⟨i, by omega, b⟩
section
variable {X : Cells}
theorem d_names {count : Nat} (h8 : count ≤ 8) : Dr X sem__law_names [.cell X.length, .val (.int count)] (9 * count) fun d => ∃ ns, d = .list (S ns) ∧ ns.length = count ∧ ns.Nodup ∧ ∀ x ∈ ns, OkName x := by
  refine dr_in fun k cs hb => ?_
  walk_at "run"
  unfold body__law_names
  walk_at "w"
  refine v_rng (by omega) ?_
  refine for_range (fun at_ s => ∃ ns a nm t cs, s = ⟨[.cell X.length, .val (.int count), .box (S ns), a, nm, t], cs⟩ ∧ ns.length = at_ ∧ ns.Nodup ∧ (∀ x ∈ ns, NmK at_ x) ∧ Bud X (k + 9 * (count - at_)) cs) ?_ ?_ ?_
  · exact ⟨[], _, _, _, _, rfl, rfl, List.nodup_nil, by simp, hb⟩
  · rintro at_ s hat ⟨ns, a, nm, t, cs, rfl, hl, nd, nk, hb⟩
    have hb := hb.mono (show k + 9 * (count - (at_ + 1)) + 7 + 1 + 1 ≤ _ by omega)
    generalize k + 9 * (count - (at_ + 1)) = kk at hb
    walk_at "w"
    refine dr_at (d_pick_s (by decide +kernel) (by decide +kernel)) hb ?_
    rintro _ cs1 ⟨q, hq, rfl⟩ hb1
    walk_at "w"
    refine dr_at (d_pick (by simp) (by simp)) hb1 ?_
    rintro d cs2 hd hb2
    have hk : ∃ n : Nat, n ≤ 7 ∧ d = .int (n : Int) := by
      simp only [List.mem_cons, List.not_mem_nil, or_false] at hd
      rcases hd with rfl | rfl | rfl | rfl | rfl
      · exact ⟨0, by omega, rfl⟩
      · exact ⟨0, by omega, rfl⟩
      · exact ⟨1, by omega, rfl⟩
      · exact ⟨4, by omega, rfl⟩
      · exact ⟨7, by omega, rfl⟩
    obtain ⟨n, hn, rfl⟩ := hk
    walk_at "w"
    refine v_rng (by omega) ?_
    refine for_count (fun m s => ∃ x t cs, s = ⟨[.cell X.length, .val (.int count), .box (S ns), .val (.int at_), .val (.str x), t], cs⟩ ∧ NameK m x ∧ Bud X (kk + m) cs) ?_ ?_ ?_
    · refine ⟨_, _, _, rfl, ?_, hb2.mono ?_⟩
      · rw [range_len]
        exact ⟨q, [], rfl, by simp; omega, hq, fun d hd => by rw [List.mem_singleton.mp hd]; exact .inl (fir_let q hq)⟩
      · rw [range_len]
        omega
    · rintro it m s hi ⟨x, t, cs, rfl, nx, hb⟩
      obtain ⟨i, _, rfl⟩ := range_one hi
      walk_at "w"
      refine dr_at (d_pick_s (by decide +kernel) (by decide +kernel)) hb ?_
      rintro _ cs1 ⟨q, hq, rfl⟩ hb1
      walk_at "w"
      have hz : x.length + (⟨#[q]⟩ : Str).length ≤ sizeLine := Nat.le_trans (show _ ≤ 9 by have := nx.len; show x.length + 1 ≤ 9; omega) (by decide)
      refine val_of (b_add_s hz) ?_
      walk_at "w"
      exact ⟨_, _, _, rfl, nx.add hq, hb1⟩
    · rintro s ⟨x, t, cs3, rfl, nx, hb3⟩
      have ok : OkS ns := fun y hy => ok_name ((nk y hy).ok (by omega))
      walk_at "w"
      refine val_of (nin_S ok (ok_name nx.ok)) ?_
      refine br (fun hn => ?_) (fun _ => ?_)
      · have hn : x ∉ ns := by simpa using hn
        walk_at "w"
        refine also (by rw [S_len]; omega) ?_
        walk_at "w"
        refine ⟨ns ++ [x], _, _, _, _, by rw [S_snoc], by rw [List.length_append, hl]; rfl, ?_, ?_, hb3⟩
        · rw [List.nodup_append]
          exact ⟨nd, by simp, by rintro a ha b hb rfl; exact hn (List.mem_singleton.mp hb ▸ ha)⟩
        · intro y hy
          rcases List.mem_append.mp hy with hy | hy
          · exact (nk y hy).mono (by omega)
          · rw [List.mem_singleton.mp hy]
            exact .inl nx
      · have at8 : at_ < 8 := by omega
        obtain ⟨z, hz1, hz2⟩ := qn_str at8
        walk_at "w"
        refine val_of hz1 ?_
        walk_at "w"
        refine val_of hz2 ?_
        walk_at "w"
        refine also (by rw [S_len]; omega) ?_
        walk_at "w"
        refine ⟨ns ++ [qn at_], _, _, _, _, by rw [S_snoc], by rw [List.length_append, hl]; rfl, ?_, ?_, hb3⟩
        · rw [List.nodup_append]
          exact ⟨nd, by simp, by rintro a ha b hb rfl; exact (nk a ha).ne at8 (List.mem_singleton.mp hb)⟩
        · intro y hy
          rcases List.mem_append.mp hy with hy | hy
          · exact (nk y hy).mono (by omega)
          · rw [List.mem_singleton.mp hy]
            exact .inr ⟨at_, by omega, rfl⟩
  · rintro s ⟨ns, a, nm, t, cs, rfl, hl, nd, nk, hb'⟩
    walk_at "w"
    exact end_ret (hb'.lens hb) ⟨⟨ns, rfl, hl, nd, fun x hx => (nk x hx).ok (by omega)⟩, hb'.mono (by omega)⟩
end
end W10

end
section
/-! N3: drawn webs of the other family. -/
namespace W10
open PySem IR IRP
open PyData (strOk)
def All2 {α β : Type} (P : α → β → Prop) : List α → List β → Prop
  | [], [] => True
  | a :: as, b :: bs => P a b ∧ All2 P as bs
  | _, _ => False
theorem All2.len {α β : Type} {P : α → β → Prop} : ∀ {as : List α} {bs : List β}, All2 P as bs → as.length = bs.length
  | [], [], _ => rfl
  | a :: as, b :: bs, h => by simp [All2.len h.2]
  | [], b :: bs, h => absurd h id
  | a :: as, [], h => absurd h id
/-- turns that draw, each told of its thing -/
theorem wl_drawL {β : Type} (c : β → Item) (J : Nat → Cells → Prop) (P : β → D → Prop) {vs : List Nat} {tg : Item → State → Option State} {ft : State → Option (Bool × State)} {fe : State → Option (D × State)} {Q : List D → State → Prop} : ∀ {l : List β} {s : State}, J l.length s.cs →
    (∀ b n cs, b ∈ l → J (n + 1) cs → OkT vs tg ft fe (c b) ⟨s.env, cs⟩ fun o cs' => ∃ d, o = some d ∧ P b d ∧ J n cs') → (∀ ds cs, All2 P l ds → J 0 cs → Q ds ⟨s.env, cs⟩) → OkLc vs tg ft fe (l.map c) s Q
  | [], s, h0, _, q => wl_nil (q [] s.cs trivial h0)
  | b :: l, s, h0, hs, q => by
    refine wl_cons ?_
    obtain ⟨s1, e1, x, s2, e2, r⟩ := hs b l.length s.cs (by simp) h0
    refine ⟨s1, e1, x, s2, e2, ?_⟩
    have go : ∀ d cs, P b d → J l.length cs → OkLc vs tg ft fe (l.map c) ⟨s.env, cs⟩ fun ds s3 => Q ([d] ++ ds) s3 := fun d cs pd jc => wl_drawL c J P (s := ⟨s.env, cs⟩) jc (fun b n cs hi hj => hs b n cs (by simp [hi]) hj) fun ds cs hd hj => q (d :: ds) cs ⟨pd, hd⟩ hj
    cases x with
    | true =>
      obtain ⟨d, s3, e3, d', ho, pd, hj⟩ := r
      cases ho
      exact ⟨d, s3, e3, go d s3.cs pd hj⟩
    | false =>
      obtain ⟨d', ho, _⟩ := r
      cases ho
/-! ### pairs of numbers -/
abbrev pr (p : Nat × Nat) : D := .tuple [.int p.1, .int p.2]
def PR (l : List (Nat × Nat)) : List D := l.map pr
theorem PR_len (l : List (Nat × Nat)) : (PR l).length = l.length := List.length_map _
theorem lfAll_PR : ∀ l : List (Nat × Nat), lfAll (PR l) = true
  | [] => by simp [PR, lfAll]
  | p :: l => by
    have := lfAll_PR l
    unfold PR at this ⊢
    simp [pr, lfAll, lf, this]
theorem lay_PR : ∀ l : List (Nat × Nat), PyData.canLayAll0 (PR l) = true
  | [] => by simp [PR, PyData.canLayAll0]
  | p :: l => by
    have := lay_PR l
    unfold PR at this ⊢
    simp [pr, PyData.canLayAll0, PyData.canLay0, this]
theorem depth_PR : ∀ l : List (Nat × Nat), PyData.depthAll (PR l) ≤ 1
  | [] => by simp [PR, PyData.depthAll]
  | p :: l => by
    have := depth_PR l
    unfold PR at this ⊢
    simp only [List.map_cons, pr, PyData.depthAll, PyData.depth]
    omega
theorem sh_PR (l : List (Nat × Nat)) : SeqAt.shaped (.list (PR l)) = true := by
  have := depth_PR l
  have e : PyData.depth (.list (PR l)) = PyData.depthAll (PR l) + 1 := by simp only [PyData.depth]
  have e2 : PyData.canLay0 (.list (PR l)) = true := by simp only [PyData.canLay0, lay_PR]
  have e3 : PyData.depth (.list (PR l)) ≤ 64 := by omega
  unfold SeqAt.shaped
  rw [e2, decide_eq_true e3]
  rfl
theorem sh_pr (p : Nat × Nat) : SeqAt.shaped (pr p) = true := by
  simp [pr, SeqAt.shaped, PyData.canLay0, PyData.canLayAll0, PyData.depth, PyData.depthAll]
theorem eqv_pr (p q : Nat × Nat) : PyData.eqv (pr p) (pr q) = decide (p = q) := by
  have h : p = q ↔ (p.1 : Int) = (q.1 : Int) ∧ (p.2 : Int) = (q.2 : Int) := by
    constructor
    · intro e; rw [e]; exact ⟨rfl, rfl⟩
    · intro e; exact Prod.ext (Int.ofNat.inj e.1) (Int.ofNat.inj e.2)
  simp only [pr, PyData.eqv, PyData.eqvAll]
  by_cases e1 : (p.1 : Int) = (q.1 : Int) <;> by_cases e2 : (p.2 : Int) = (q.2 : Int) <;> simp [h, e1, e2]
theorem any_PR (l : List (Nat × Nat)) (p : Nat × Nat) : (PR l).any (fun z => PyData.eqv z (pr p)) = decide (p ∈ l) := by
  induction l with
  | nil => rfl
  | cons q l ih =>
    unfold PR at ih ⊢
    rw [List.map_cons, List.any_cons, ih, eqv_pr]
    by_cases e : q = p
    · simp [e]
    · have e' : ¬ p = q := fun x => e x.symm
      simp [e, e']
theorem nin_PR (l : List (Nat × Nat)) (p : Nat × Nat) : cmpop .nin (pr p) (.list (PR l)) = some (!decide (p ∈ l)) := by
  show (if (SeqAt.shaped (pr p) && SeqAt.shaped (.list (PR l))) = true then some ((PR l).any fun z => PyData.eqv z (pr p)) else Option.none).map (!·) = _
  rw [sh_pr, sh_PR, any_PR]
  rfl
theorem ones_PR (l : List (Nat × Nat)) : ones (PR l) = l.map fun p => Item.one (pr p) := by
  unfold ones PR
  rw [List.map_map]
  rfl
/-- unlike pairs of unlike numbers below n, the smaller ahead -/
structure GoodP (n : Nat) (l : List (Nat × Nat)) : Prop where
  nd : l.Nodup
  lt : ∀ p ∈ l, p.1 < p.2 ∧ p.2 < n
theorem GoodP.sub {n : Nat} {l m : List (Nat × Nat)} (h : GoodP n l) (s : m.Sublist l) : GoodP n m := ⟨h.nd.sublist s, fun p hp => h.lt p (s.mem hp)⟩
theorem GoodP.perm {n : Nat} {l m : List (Nat × Nat)} (h : GoodP n l) (s : m.Perm l) : GoodP n m := ⟨s.nodup_iff.mpr h.nd, fun p hp => h.lt p (s.mem_iff.mp hp)⟩
def rowP (at_ : Nat) : List (Nat × Nat) := (List.range at_).map fun o => (o, at_)
theorem goodP_row {n at_ : Nat} {l : List (Nat × Nat)} (h : GoodP at_ l) (hn : at_ < n) : GoodP (at_ + 1) (l ++ rowP at_) := by
  refine ⟨?_, fun p hp => ?_⟩
  · rw [List.nodup_append]
    refine ⟨h.nd, ?_, ?_⟩
    · unfold rowP
      exact List.Pairwise.map _ (fun a b ne e => ne (Prod.mk.inj e).1) List.nodup_range
    · rintro a ha b hb rfl
      obtain ⟨o, _, rfl⟩ := List.mem_map.mp hb
      have := (h.lt _ ha).2
      simp at this
  · rcases List.mem_append.mp hp with hp | hp
    · have := h.lt p hp
      omega
    · obtain ⟨o, ho, rfl⟩ := List.mem_map.mp hp
      have := List.mem_range.mp ho
      exact ⟨this, by simp⟩
/-- the road of a pair -/
def isRd (ns : List Str) (p : Nat × Nat) (r : Str × Str) : Prop := ∃ x y, ns[p.1]? = some x ∧ ns[p.2]? = some y ∧ (r = (x, y) ∨ r = (y, x))
theorem isRd.pl {ns : List Str} (hd : ns.Nodup) {p : Nat × Nat} {r : Str × Str} (h : isRd ns p r) (hp : p.1 < p.2) : r.1 ∈ ns ∧ r.2 ∈ ns ∧ r.1 ≠ r.2 := by
  obtain ⟨x, y, a, b, e⟩ := h
  have ne : x ≠ y := fun e => by
    have := get_inj hd a (e ▸ b)
    omega
  rcases e with rfl | rfl
  · exact ⟨List.mem_of_getElem? a, List.mem_of_getElem? b, ne⟩
  · exact ⟨List.mem_of_getElem? b, List.mem_of_getElem? a, ne.symm⟩
theorem isRd.inj {ns : List Str} (hd : ns.Nodup) {p q : Nat × Nat} {r s : Str × Str} (h : isRd ns p r) (h' : isRd ns q s) (hp : p.1 < p.2) (hq : q.1 < q.2) (e : keyR r = keyR s) : p = q := by
  obtain ⟨x, y, a, b, c⟩ := h
  obtain ⟨x', y', a', b', c'⟩ := h'
  have ks := key_sub e
  have h1 : (x = x' ∨ x = y') ∧ (y = x' ∨ y = y') := by
    rcases c with rfl | rfl <;> rcases c' with rfl | rfl
    · exact ⟨ks.1, ks.2.1⟩
    · exact ⟨ks.1.symm, ks.2.1.symm⟩
    · exact ⟨ks.2.1, ks.1⟩
    · exact ⟨ks.2.1.symm, ks.1.symm⟩
  have h2 : x' = x ∨ x' = y := by
    rcases c with rfl | rfl <;> rcases c' with rfl | rfl
    · exact ks.2.2.1
    · exact ks.2.2.2
    · exact ks.2.2.1.symm
    · exact ks.2.2.2.symm
  rcases h1.1 with rfl | rfl
  · have e1 := get_inj hd a a'
    rcases h1.2 with rfl | rfl
    · have := get_inj hd b a'
      omega
    · exact Prod.ext e1 (get_inj hd b b')
  · have e1 := get_inj hd a b'
    rcases h1.2 with rfl | rfl
    · have := get_inj hd b a'
      omega
    · have := get_inj hd b b'
      omega
theorem roads_of {ns : List Str} (hd : ns.Nodup) : ∀ {l : List (Nat × Nat)} {ds : List D}, GoodP ns.length l → All2 (fun p d => ∃ r, d = rd r ∧ isRd ns p r) l ds → ∃ rs, ds = R rs ∧ (rs.map keyR).Nodup ∧ (∀ r ∈ rs, r.1 ∈ ns ∧ r.2 ∈ ns ∧ r.1 ≠ r.2) ∧ rs.length = l.length ∧ ∀ r ∈ rs, ∃ p ∈ l, isRd ns p r
  | [], [], _, _ => ⟨[], rfl, by simp, by simp, rfl, by simp⟩
  | p :: l, d :: ds, h, ⟨⟨r, e, hr⟩, t⟩ => by
    have hl := List.nodup_cons.mp h.nd
    obtain ⟨rs, e2, nd, pl, ln, fr⟩ := roads_of hd ⟨hl.2, fun q hq => h.lt q (by simp [hq])⟩ t
    have hp := h.lt p (by simp)
    refine ⟨r :: rs, by rw [e, e2]; rfl, ?_, ?_, by simp [ln], ?_⟩
    · rw [List.map_cons, List.nodup_cons]
      refine ⟨fun hm => ?_, nd⟩
      obtain ⟨s, hs, ek⟩ := List.mem_map.mp hm
      obtain ⟨q, hq, hsq⟩ := fr s hs
      have := isRd.inj hd hsq hr (h.lt q (by simp [hq])).1 hp.1 ek
      exact hl.1 (this ▸ hq)
    · intro s hs
      rcases List.mem_cons.mp hs with rfl | hs
      · exact hr.pl hd hp.1
      · exact pl s hs
    · intro s hs
      rcases List.mem_cons.mp hs with rfl | hs
      · exact ⟨p, by simp, hr⟩
      · obtain ⟨q, hq, hsq⟩ := fr s hs
        exact ⟨q, by simp [hq], hsq⟩
  | [], d :: ds, _, h => absurd h id
  | p :: l, [], _, h => absurd h id
theorem chosen {n : Nat} : ∀ {l : List Nat} {ds : List D}, l.Nodup → (∀ i ∈ l, i < n) → All2 (fun i d => ∃ v, v < i + 1 ∧ d = pr (v, i + 1)) l ds → ∃ m, ds = PR m ∧ GoodP (n + 1) m ∧ m.length = l.length ∧ ∀ p ∈ m, ∃ i ∈ l, p.2 = i + 1
  | [], [], _, _, _ => ⟨[], rfl, ⟨List.nodup_nil, by simp⟩, rfl, by simp⟩
  | i :: l, d :: ds, nd, hn, ⟨⟨v, hv, e⟩, t⟩ => by
    have hl := List.nodup_cons.mp nd
    obtain ⟨m, e2, g, ln, fr⟩ := chosen hl.2 (fun j hj => hn j (by simp [hj])) t
    have hi := hn i (by simp)
    refine ⟨(v, i + 1) :: m, by rw [e, e2]; rfl, ⟨?_, ?_⟩, by simp [ln], ?_⟩
    · rw [List.nodup_cons]
      refine ⟨fun hm => ?_, g.nd⟩
      obtain ⟨j, hj, ej⟩ := fr _ hm
      simp only at ej
      have : j = i := by omega
      exact hl.1 (this ▸ hj)
    · intro p hp
      rcases List.mem_cons.mp hp with rfl | hp
      · exact ⟨hv, by simp only; omega⟩
      · exact g.lt p hp
    · intro p hp
      rcases List.mem_cons.mp hp with rfl | hp
      · exact ⟨i, by simp, rfl⟩
      · obtain ⟨j, hj, ej⟩ := fr p hp
        exact ⟨j, by simp [hj], ej⟩
  | [], d :: ds, _, _, h => absurd h id
  | i :: l, [], _, _, h => absurd h id
section
variable {X : Cells}
theorem d_web {count : Nat} (h1 : 1 ≤ count) (h8 : count ≤ 8) : Dr X sem__law_web [.cell X.length, .val (.int count)] 200 fun d => ∃ ns rs, d = webD ns rs ∧ OkWeb ns rs ∧ ns.length = count := by
  refine dr_in fun k cs hb => ?_
  walk_at "run"
  unfold body__law_web
  walk_at "w"
  have hb : Bud X (k + 110 + 1 + 9 * count) cs := hb.mono (by omega)
  refine dr_at (d_names h8) hb ?_
  rintro _ cs1 ⟨ns, rfl, hl, nd, ok⟩ hb1
  walk_at "w"
  refine dr_at (d_next ?_ ?_) hb1 ?_
  · omega
  · omega
  rintro _ cs2 ⟨way, rfl, hw⟩ hb2
  walk_at "w"
  refine v_rng (by omega) ?_
  refine for_range (fun at_ s => ∃ l a, s = ⟨[.cell X.length, .val (.int count), .val (.list (S ns)), .box (PR l), .val (.int way), a, .emp, .emp, .emp, .emp, .emp], cs2⟩ ∧ GoodP at_ l ∧ l.length ≤ 8 * at_) ?_ ?_ ?_
  · exact ⟨[], _, rfl, ⟨List.nodup_nil, by simp⟩, by simp⟩
  · rintro at_ s hat ⟨l, a, rfl, hg, hll⟩
    walk_at "w"
    refine v_rng (by omega) ?_
    refine wl_each (fun o : Nat => Item.one (.int (0 + (o : Int)))) (fun o => pr (o, at_)) (l := List.range at_) ?_ ?_
    · intro o ho
      walk_at "w"
      exact ⟨by rw [Int.zero_add], rfl⟩
    refine also (by rw [List.length_map, List.length_range]; omega) ?_
    have er : ((List.range at_).map fun o => pr (o, at_)) = PR (rowP at_) := by
      unfold PR rowP
      rw [List.map_map]
      rfl
    rw [er]
    walk_at "w"
    have rl : (rowP at_).length = at_ := by simp [rowP]
    refine also (by rw [PR_len, PR_len, rl]; omega) ?_
    walk_at "w"
    exact ⟨l ++ rowP at_, _, by unfold PR; rw [List.map_append] <;> rfl, goodP_row hg (Nat.lt_succ_self _), by rw [List.length_append, rl]; omega⟩
  rintro s ⟨l, a, rfl, hg, hll⟩
  walk_at "w"
  have hb2 : Bud X (k + 46 + (PR l).length) cs2 := hb2.mono (by rw [PR_len]; omega)
  refine dr_at (d_shuffled (.inr (.inr ⟨rfl, lfAll_PR l⟩)) (by rw [PR_len]; omega)) hb2 ?_
  rintro _ cs3 ⟨ds, rfl, hp⟩ hb3
  obtain ⟨l', el', hp'⟩ := perm_map_inv pr hp rfl
  have el' : ds = PR l' := el'
  subst el'
  have hg' := hg.perm hp'
  refine ⟨_, rfl, also (lfAll_PR l') ?_⟩
  walk_at "nf"
  refine k_asgV_any (fun d => ∃ m, d = .list (PR m) ∧ GoodP count m ∧ m.length ≤ 14) (Bud X (k + 45)) ?_ ?_
  · walk_at "w"
    refine br_d (fun _ => ?_) (fun _ => ?_)
    · walk_at "w"
      refine dr_at (d_next ?_ ?_) hb3 ?_
      · omega
      · omega
      rintro _ cs4 ⟨v, rfl, hv⟩ hb4
      walk_at "w"
      rw [cut_lo]
      refine ⟨rfl, ⟨l'.take v, by unfold PR; rw [List.map_take], hg'.sub (List.take_sublist _ _), ?_⟩, hb4⟩
      rw [List.length_take]
      omega
    · walk_at "w"
      refine ⟨rfl, ⟨l'.take 14, ?_, hg'.sub (List.take_sublist _ _), ?_⟩, hb3.mono (by omega)⟩
      · rw [show (some (14 : Int)) = some ((14 : Nat) : Int) from rfl, cut_lo]
        unfold PR
        rw [List.map_take]
      · rw [List.length_take]
        omega
  rintro _ cs4 ⟨m, rfl, hm, lm⟩ hb4
  walk_at "nf"
  refine k_join (fun s => ∃ m cs, s = ⟨[.cell X.length, .val (.int count), .val (.list (S ns)), .box (PR l'), .val (.int way), a, .val (.list (PR m)), .emp, .emp, .emp, .emp], cs⟩ ∧ GoodP count m ∧ m.length ≤ 14 ∧ Bud X (k + 37) cs) ?_ ?_
  · walk_at "w"
    refine br_d (fun _ => ?_) (fun _ => ?_)
    · walk_at "w"
      rw [show (1 : Int) = ((1 : Nat) : Int) from rfl, show (count : Int) = ((1 + (count - 1) : Nat) : Int) by omega]
      refine val_of (rng2_nat (by omega)) ?_
      refine wl_drawL (fun i : Nat => Item.one (.int ((1 : Nat) + (i : Int)))) (fun j cs => Bud X (k + 38 + j) cs) (fun i d => ∃ v, v < i + 1 ∧ d = pr (v, i + 1)) (l := List.range (count - 1)) (hb4.mono (by rw [List.length_range]; omega)) ?_ ?_
      · intro i j cs hi hb
        have hi := List.mem_range.mp hi
        walk_at "w"
        refine dr_at (d_next ?_ ?_) hb ?_
        · omega
        · omega
        rintro _ cs5 ⟨v, rfl, hv⟩ hb5
        walk_at "w"
        refine ⟨_, rfl, ⟨v, by omega, ?_⟩, hb5⟩
        show PyData.tuple [.int v, .int ((1 : Nat) + (i : Int))] = .tuple [.int v, .int ((i + 1 : Nat) : Int)]
        rw [show ((1 : Nat) : Int) + (i : Int) = ((i + 1 : Nat) : Int) by omega]
      · intro ds cs5 hds hb5
        obtain ⟨m1, rfl, g1, ln1, _⟩ := chosen (n := count - 1) List.nodup_range (fun i hi => List.mem_range.mp hi) hds
        rw [List.length_range] at ln1
        rw [show count - 1 + 1 = count by omega] at g1
        refine also (by rw [PR_len]; omega) ?_
        walk_at "w"
        have hb5 := hb5.mono (show k + 37 + 1 ≤ _ by omega)
        refine dr_at (d_next ?_ ?_) hb5 ?_
        · omega
        · omega
        rintro _ cs6 ⟨v, rfl, hv⟩ hb6
        walk_at "w"
        rw [cut_lo]
        have et : (PR l').take v = PR (l'.take v) := by unfold PR; rw [List.map_take]
        rw [et, ones_PR]
        refine wl_some (fun p => Item.one (pr p)) (fun p => !decide (p ∈ m1)) pr ?_ ?_
        · intro p hp
          walk_at "w"
          refine val_of (nin_PR m1 p) ?_
          refine br (fun hb => ?_) (fun hb => ?_)
          · walk_at "w"
            rw [hb]
            exact ⟨rfl, rfl⟩
          · rw [hb]
            exact ⟨rfl, rfl⟩
        have lf3 : ((l'.take v).filter fun p => !decide (p ∈ m1)).length ≤ 3 := by
          have := List.length_filter_le (fun p => !decide (p ∈ m1)) (l'.take v)
          rw [List.length_take] at this
          omega
        refine also (by rw [List.length_map]; omega) ?_
        walk_at "w"
        refine val_of (b_add_l (by rw [PR_len, List.length_map]; omega)) ?_
        walk_at "w"
        refine ⟨rfl, m1 ++ (l'.take v).filter (fun p => !decide (p ∈ m1)), _, by unfold PR; rw [List.map_append], ⟨?_, fun p hp => ?_⟩, by rw [List.length_append]; omega, hb6.mono (by omega)⟩
        · rw [List.nodup_append]
          refine ⟨g1.nd, (hg'.sub (List.filter_sublist.trans (List.take_sublist _ _))).nd, ?_⟩
          rintro p hp q hq rfl
          have := (List.mem_filter.mp hq).2
          simp [hp] at this
        · rcases List.mem_append.mp hp with hp | hp
          · exact g1.lt p hp
          · exact hg'.lt p (List.mem_of_mem_take (List.mem_filter.mp hp).1)
    · walk_at "w"
      exact ⟨rfl, m, _, rfl, hm, lm, hb4.mono (by omega)⟩
  rintro s ⟨m, cs5, rfl, hm, lm, hb5⟩
  refine k_join (fun s => ∃ m, s = ⟨[.cell X.length, .val (.int count), .val (.list (S ns)), .box (PR l'), .val (.int way), a, .val (.list (PR m)), .emp, .emp, .emp, .emp], cs5⟩ ∧ GoodP count m ∧ m.length ≤ 14) ?_ ?_
  · walk_at "w"
    refine br_d (fun _ => ?_) (fun _ => ?_)
    · walk_at "w"
      refine br_d (fun h2 => ?_) (fun _ => ?_)
      · walk_at "w"
        rw [show (count : Int) - 1 = ((count - 1 : Nat) : Int) by omega]
        refine v_rng (by omega) ?_
        refine wl_each (fun o : Nat => Item.one (.int (0 + (o : Int)))) (fun o => pr (o, o + 1)) (l := List.range (count - 1)) ?_ ?_
        · intro o ho
          walk_at "w"
          exact ⟨by rw [Int.zero_add] <;> rfl, rfl⟩
        refine also (by rw [List.length_map, List.length_range]; omega) ?_
        walk_at "w"
        refine val_of (b_add_l (by rw [List.length_map, List.length_range]; simp only [List.length_cons, List.length_nil]; omega)) ?_
        walk_at "w"
        refine ⟨rfl, (List.range (count - 1)).map (fun o => (o, o + 1)) ++ [(0, count - 1)], ?_, ⟨?_, fun p hp => ?_⟩, ?_⟩
        · rw [show (count : Int) - 1 = ((count - 1 : Nat) : Int) by omega]
          unfold PR
          rw [List.map_append, List.map_map]
          rfl
        · rw [List.nodup_append]
          refine ⟨List.Pairwise.map _ (fun a b ne e => ne (Prod.mk.inj e).1) List.nodup_range, by simp, ?_⟩
          rintro p hp q hq rfl
          obtain ⟨o, _, e⟩ := List.mem_map.mp hp
          have e2 := List.mem_singleton.mp hq
          rw [← e] at e2
          have := Prod.mk.inj e2
          omega
        · rcases List.mem_append.mp hp with hp | hp
          · obtain ⟨o, ho, rfl⟩ := List.mem_map.mp hp
            have := List.mem_range.mp ho
            simp only
            omega
          · rw [List.mem_singleton.mp hp]
            simp only
            omega
        · rw [List.length_append, List.length_map, List.length_range]
          simp only [List.length_cons, List.length_nil]
          omega
      · walk_at "w"
        exact ⟨rfl, m, rfl, hm, lm⟩
    · walk_at "w"
      exact ⟨rfl, m, rfl, hm, lm⟩
  clear hm lm m
  rintro s ⟨m, rfl, hm, lm⟩
  walk_at "w"
  rw [ones_PR]
  refine wl_drawL (fun p => Item.one (pr p)) (fun j cs => Bud X (k + 14 + j) cs) (fun p d => ∃ r, d = rd r ∧ isRd ns p r) (hb5.mono (by omega)) ?_ ?_
  · intro p j cs hp hb
    have hlt := hm.lt p hp
    obtain ⟨x, hx⟩ : ∃ x, ns[p.1]? = some x := ⟨_, List.getElem?_eq_getElem (by omega)⟩
    obtain ⟨y, hy⟩ : ∃ y, ns[p.2]? = some y := ⟨_, List.getElem?_eq_getElem (by omega)⟩
    walk_at "w"
    refine dr_at (d_next ?_ ?_) hb ?_
    · omega
    · omega
    rintro _ cs6 ⟨v, rfl, hv⟩ hb6
    walk_at "w"
    refine br_d (fun _ => ?_) (fun _ => ?_)
    · walk_at "w"
      refine val_of (idx_S hx) ?_
      walk_at "w"
      refine val_of (idx_S hy) ?_
      walk_at "w"
      exact ⟨_, rfl, ⟨(x, y), rfl, x, y, hx, hy, .inl rfl⟩, hb6⟩
    · walk_at "w"
      refine val_of (idx_S hy) ?_
      walk_at "w"
      refine val_of (idx_S hx) ?_
      walk_at "w"
      exact ⟨_, rfl, ⟨(y, x), rfl, x, y, hx, hy, .inr rfl⟩, hb6⟩
  intro ds cs6 hds hb6
  obtain ⟨rs, rfl, rnd, rpl, rln, _⟩ := roads_of nd (by rw [hl]; exact hm) hds
  refine also (by rw [R_len]; omega) ?_
  walk_at "w"
  have hb6 := hb6.mono (show k + (R rs).length ≤ _ by rw [R_len]; omega)
  refine dr_at (d_shuffled (.inl rfl) (by rw [R_len]; omega)) hb6 ?_
  rintro _ cs7 ⟨ds, rfl, hq⟩ hb7
  obtain ⟨rs', rfl, hq'⟩ := perm_map_inv rd hq rfl
  walk_at "w"
  refine end_ret (hb7.lens hb) ⟨⟨ns, rs', rfl, ⟨ok, nd, by omega, by omega, fun r hr => rpl r (hq'.mem_iff.mp hr), by rw [hq'.length_eq]; omega, ?_⟩, hl⟩, hb7⟩
  exact ((hq'.map keyR).nodup_iff).mpr rnd
end
end W10

end
section
/-! O1: orders, exchanges, arrows: no program here. -/
namespace W10
open PySem IR IRP
open PyData (strOk)
def swapS (o : List Str) (i : Nat) : List Str := o.take i ++ [o.getD (i + 1) "", o.getD i ""] ++ o.drop (i + 2)
/-- the order behind an exchange, told by any thing -/
def stepX (rs : List (Str × Str)) (o : List Str) : D → Option (List Str)
  | .int i => if 0 ≤ i ∧ i + 1 < o.length ∧ adj rs (o.getD i.toNat "") (o.getD (i.toNat + 1) "") = false then some (swapS o i.toNat) else none
  | _ => none
def runX (rs : List (Str × Str)) : List Str → List D → Option (List Str)
  | o, [] => some o
  | o, d :: ds => (stepX rs o d).bind fun o' => runX rs o' ds
theorem runX_app (rs : List (Str × Str)) : ∀ (a : List D) (o : List Str) (b : List D), runX rs o (a ++ b) = (runX rs o a).bind fun o' => runX rs o' b
  | [], o, b => rfl
  | d :: a, o, b => by
    show (stepX rs o d).bind (fun o' => runX rs o' (a ++ b)) = ((stepX rs o d).bind fun o' => runX rs o' a).bind fun o' => runX rs o' b
    cases stepX rs o d with
    | none => rfl
    | some o' => exact runX_app rs a o' b
theorem runX_one (rs : List (Str × Str)) (o : List Str) (d : D) : runX rs o [d] = stepX rs o d := by
  show (stepX rs o d).bind (fun o' => some o') = _
  cases stepX rs o d <;> rfl
theorem I_app (a b : List Int) : I (a ++ b) = I a ++ I b := by simp [I]
theorem split2 {o : List Str} {i : Nat} (h : i + 1 < o.length) : o = o.take i ++ o.getD i "" :: o.getD (i + 1) "" :: o.drop (i + 2) := by
  have h1 : o.drop i = o[i] :: o.drop (i + 1) := List.drop_eq_getElem_cons (by omega)
  have h2 : o.drop (i + 1) = o[i + 1] :: o.drop (i + 2) := List.drop_eq_getElem_cons h
  have g1 : o.getD i "" = o[i] := by rw [List.getD_eq_getElem?_getD, List.getElem?_eq_getElem (by omega)]; rfl
  have g2 : o.getD (i + 1) "" = o[i + 1] := by rw [List.getD_eq_getElem?_getD, List.getElem?_eq_getElem h]; rfl
  rw [g1, g2, ← h2, ← h1, List.take_append_drop]
theorem swapS_at (a b : List Str) (x y : Str) : swapS (a ++ x :: y :: b) a.length = a ++ y :: x :: b := by
  unfold swapS
  have g1 : (a ++ x :: y :: b).getD a.length "" = x := by
    rw [List.getD_eq_getElem?_getD, List.getElem?_append_right (Nat.le_refl _), Nat.sub_self]; rfl
  have g2 : (a ++ x :: y :: b).getD (a.length + 1) "" = y := by
    rw [List.getD_eq_getElem?_getD, List.getElem?_append_right (by omega)]
    rw [show a.length + 1 - a.length = 1 by omega]; rfl
  have g3 : (a ++ x :: y :: b).drop (a.length + 2) = b := by
    rw [List.drop_append, List.drop_eq_nil_of_le (by omega), show a.length + 2 - a.length = 2 by omega]; rfl
  rw [g1, g2, g3, List.take_left']
  · simp
  · rfl
theorem getD_at (a b : List Str) (x y : Str) : (a ++ x :: y :: b).getD a.length "" = x ∧ (a ++ x :: y :: b).getD (a.length + 1) "" = y := by
  constructor
  · rw [List.getD_eq_getElem?_getD, List.getElem?_append_right (Nat.le_refl _), Nat.sub_self]; rfl
  · rw [List.getD_eq_getElem?_getD, List.getElem?_append_right (by omega)]
    rw [show a.length + 1 - a.length = 1 by omega]; rfl
theorem adj_symm (rs : List (Str × Str)) (x y : Str) : adj rs x y = adj rs y x := by
  unfold adj
  exact decide_eq_decide.mpr or_comm
/-- what a step is -/
theorem step_iff {rs : List (Str × Str)} {o o' : List Str} {d : D} : stepX rs o d = some o' ↔ ∃ a b x y, d = .int (a.length : Nat) ∧ o = a ++ x :: y :: b ∧ o' = a ++ y :: x :: b ∧ adj rs x y = false := by
  constructor
  · intro h
    cases d with
    | int i =>
      simp only [stepX] at h
      split at h
      · rename_i hc
        obtain ⟨j, rfl⟩ := Int.eq_ofNat_of_zero_le hc.1
        have hj : j + 1 < o.length := by have := hc.2.1; omega
        rw [Int.toNat_natCast] at h hc
        have e := split2 hj
        have lt : (o.take j).length = j := by rw [List.length_take]; omega
        refine ⟨o.take j, o.drop (j + 2), o.getD j "", o.getD (j + 1) "", by rw [lt], e, ?_, hc.2.2⟩
        rw [← Option.some.inj h]
        unfold swapS
        simp
      · cases h
    | _ => cases h
  · rintro ⟨a, b, x, y, rfl, rfl, rfl, h⟩
    have g := getD_at a b x y
    show (if (0 : Int) ≤ (a.length : Nat) ∧ ((a.length : Nat) : Int) + 1 < ((a ++ x :: y :: b).length : Nat) ∧ adj rs ((a ++ x :: y :: b).getD ((a.length : Nat) : Int).toNat "") ((a ++ x :: y :: b).getD (((a.length : Nat) : Int).toNat + 1) "") = false then some (swapS (a ++ x :: y :: b) ((a.length : Nat) : Int).toNat) else none) = _
    rw [Int.toNat_natCast, g.1, g.2, if_pos ⟨by omega, by rw [List.length_append]; simp only [List.length_cons]; omega, h⟩, swapS_at]
theorem step_perm {rs : List (Str × Str)} {o o' : List Str} {d : D} (h : stepX rs o d = some o') : o'.Perm o := by
  obtain ⟨a, b, x, y, _, rfl, rfl, _⟩ := step_iff.mp h
  exact List.Perm.append_left a (List.Perm.swap x y b)
theorem run_perm {rs : List (Str × Str)} : ∀ {ds : List D} {o o' : List Str}, runX rs o ds = some o' → o'.Perm o
  | [], o, o', h => by cases h; exact List.Perm.refl _
  | d :: ds, o, o', h => by
    obtain ⟨o1, h1, h2⟩ := Option.bind_eq_some_iff.mp h
    exact (run_perm h2).trans (step_perm h1)
theorem step_back {rs : List (Str × Str)} {o o' : List Str} {d : D} (h : stepX rs o d = some o') : stepX rs o' d = some o := by
  obtain ⟨a, b, x, y, e1, e2, e3, e4⟩ := step_iff.mp h
  exact step_iff.mpr ⟨a, b, y, x, e1, e3, e2, by rw [adj_symm]; exact e4⟩
theorem run_back {rs : List (Str × Str)} : ∀ {ds : List D} {o o' : List Str}, runX rs o ds = some o' → runX rs o' ds.reverse = some o
  | [], o, o', h => by cases h; rfl
  | d :: ds, o, o', h => by
    obtain ⟨o1, h1, h2⟩ := Option.bind_eq_some_iff.mp h
    rw [List.reverse_cons, runX_app, run_back h2, Option.bind_some, runX_one]
    exact step_back h1
/-! ### arrows -/
def arr (o : List Str) (r : Str × Str) : Str × Str := if o.idxOf r.1 < o.idxOf r.2 then (r.1, r.2) else (r.2, r.1)
def arrS (rs : List (Str × Str)) (o : List Str) : List (Str × Str) := rs.map (arr o)
theorem idx_left {a b : List Str} {z : Str} (h : z ∈ a) : (a ++ b).idxOf z = a.idxOf z := by rw [List.idxOf_append, if_pos h]
theorem idx_mid {a b : List Str} {x y z : Str} (hz : z ∉ a) : (a ++ x :: y :: b).idxOf z = a.length + (if x = z then 0 else if y = z then 1 else b.idxOf z + 2) := by
  rw [List.idxOf_append, if_neg hz, List.idxOf_cons, List.idxOf_cons, Nat.add_comm]
  congr 1
  by_cases e1 : x = z
  · simp [e1]
  · by_cases e2 : y = z
    · have : (x == z) = false := by simp [e1]
      simp [e1, e2, this]
    · have h1 : (x == z) = false := by simp [e1]
      have h2 : (y == z) = false := by simp [e2]
      simp [e1, e2, h1, h2]
theorem lt_swap {a b : List Str} {x y p q : Str} (hpq : ¬ (p = x ∧ q = y)) (hqp : ¬ (p = y ∧ q = x)) (ne : x ≠ y) : (a ++ x :: y :: b).idxOf p < (a ++ x :: y :: b).idxOf q ↔ (a ++ y :: x :: b).idxOf p < (a ++ y :: x :: b).idxOf q := by
  by_cases hp : p ∈ a
  · by_cases hq : q ∈ a
    · rw [idx_left hp, idx_left hq, idx_left hp, idx_left hq]
    · have := List.idxOf_lt_length_of_mem hp
      rw [idx_left hp, idx_left hp, idx_mid hq, idx_mid hq]
      constructor <;> intro _ <;> omega
  · by_cases hq : q ∈ a
    · have := List.idxOf_lt_length_of_mem hq
      rw [idx_left hq, idx_left hq, idx_mid hp, idx_mid hp]
      constructor <;> intro _ <;> omega
    · rw [idx_mid hp, idx_mid hq, idx_mid hp, idx_mid hq]
      by_cases p1 : x = p
      · subst p1
        have q1 : ¬ y = q := fun e => hpq ⟨rfl, e.symm⟩
        by_cases q2 : x = q
        · subst q2; simp
        · simp [q1, q2, Ne.symm ne]
      · by_cases p2 : y = p
        · subst p2
          have q1 : ¬ x = q := fun e => hqp ⟨rfl, e.symm⟩
          by_cases q2 : y = q
          · subst q2; simp
          · simp [q1, q2, ne]
        · by_cases q1 : x = q
          · subst q1
            simp [p1, p2, Ne.symm ne]
          · by_cases q2 : y = q
            · subst q2
              simp [p1, p2, ne]
            · simp [p1, p2, q1, q2]
theorem step_arr {rs : List (Str × Str)} {o o' : List Str} {d : D} (nd : o.Nodup) (h : stepX rs o d = some o') : arrS rs o' = arrS rs o := by
  obtain ⟨a, b, x, y, _, rfl, rfl, hn⟩ := step_iff.mp h
  have ne : x ≠ y := by
    have := (List.nodup_append.mp nd).2.1
    rw [List.nodup_cons] at this
    intro e
    exact this.1 (by simp [e])
  unfold arrS
  refine List.map_congr_left fun r hr => ?_
  have n1 : ¬ (r.1 = x ∧ r.2 = y) := fun ⟨e1, e2⟩ => by
    unfold adj at hn
    exact of_decide_eq_false hn (.inl (by rw [← e1, ← e2]; exact hr))
  have n2 : ¬ (r.1 = y ∧ r.2 = x) := fun ⟨e1, e2⟩ => by
    unfold adj at hn
    exact of_decide_eq_false hn (.inr (by rw [← e1, ← e2]; exact hr))
  unfold arr
  have := lt_swap (a := a) (b := b) n1 n2 ne
  by_cases c : (a ++ x :: y :: b).idxOf r.1 < (a ++ x :: y :: b).idxOf r.2
  · rw [if_pos c, if_pos (this.mp c)]
  · rw [if_neg c, if_neg (fun q => c (this.mpr q))]
theorem run_arr {rs : List (Str × Str)} : ∀ {ds : List D} {o o' : List Str}, o.Nodup → runX rs o ds = some o' → arrS rs o' = arrS rs o
  | [], o, o', _, h => by cases h; rfl
  | d :: ds, o, o', nd, h => by
    obtain ⟨o1, h1, h2⟩ := Option.bind_eq_some_iff.mp h
    rw [run_arr ((step_perm h1).nodup_iff.mpr nd) h2, step_arr nd h1]
/-- two orders with the same arrows: what stands ahead of a place there, and behind it here, has no road to it -/
theorem apart_of {rs : List (Str × Str)} {o g : List Str} (ha : arrS rs o = arrS rs g) {q p : Str} (ne : q ≠ p) (h1 : o.idxOf q < o.idxOf p) (h2 : g.idxOf p < g.idxOf q) : adj rs q p = false := by
  unfold adj
  refine decide_eq_false fun h => ?_
  unfold arrS at ha
  have hm := List.map_inj_left.mp ha
  rcases h with h | h
  · have := hm _ h
    unfold arr at this
    simp only at this
    rw [if_pos h1, if_neg (by omega)] at this
    exact ne (Prod.mk.inj this).1
  · have := hm _ h
    unfold arr at this
    simp only at this
    rw [if_neg (by omega), if_pos h2] at this
    exact ne (Prod.mk.inj this).1
/-! ### how many pairs stand otherwise -/
def invR (rk : Str → Nat) : List Str → Nat
  | [] => 0
  | x :: l => (l.filter fun y => decide (rk y < rk x)).length + invR rk l
theorem inv_swap (rk : Str → Nat) (x y : Str) (b : List Str) : ∀ a : List Str, invR rk (a ++ x :: y :: b) + (if rk x < rk y then 1 else 0) = invR rk (a ++ y :: x :: b) + (if rk y < rk x then 1 else 0)
  | [] => by
    simp only [List.nil_append, invR, List.filter_cons]
    by_cases h1 : rk x < rk y <;> by_cases h2 : rk y < rk x <;> simp [h1, h2] <;> omega
  | z :: a => by
    have ih := inv_swap rk x y b a
    have p : ((a ++ x :: y :: b).filter fun w => decide (rk w < rk z)).length = ((a ++ y :: x :: b).filter fun w => decide (rk w < rk z)).length :=
      ((List.Perm.append_left a (List.Perm.swap y x b)).filter _).length_eq
    simp only [List.cons_append, invR]
    omega
theorem inv_step {rs : List (Str × Str)} {rk : Str → Nat} {o o' : List Str} {d : D} (nd : o.Nodup) (hi : ∀ x ∈ o, ∀ y ∈ o, rk x = rk y → x = y) (h : stepX rs o d = some o') : (invR rk o = invR rk o' + 1 ∨ invR rk o' = invR rk o + 1) := by
  obtain ⟨a, b, x, y, _, rfl, rfl, _⟩ := step_iff.mp h
  have ne : x ≠ y := by
    have := (List.nodup_append.mp nd).2.1
    rw [List.nodup_cons] at this
    intro e
    exact this.1 (by simp [e])
  have nr : rk x ≠ rk y := fun e => ne (hi x (by simp) y (by simp) e)
  have := inv_swap rk x y b a
  by_cases c : rk x < rk y
  · rw [if_pos c, if_neg (by omega)] at this
    exact .inr (by omega)
  · rw [if_neg c, if_pos (by omega)] at this
    exact .inl (by omega)
theorem inv_runs {rs : List (Str × Str)} {rk : Str → Nat} : ∀ {ds : List D} {o o' : List Str}, o.Nodup → (∀ x ∈ o, ∀ y ∈ o, rk x = rk y → x = y) → runX rs o ds = some o' → (ds.length + invR rk o + invR rk o') % 2 = 0 ∧ invR rk o ≤ ds.length + invR rk o'
  | [], o, o', _, _, h => by
    cases h
    simp only [List.length_nil]
    omega
  | d :: ds, o, o', nd, hi, h => by
    obtain ⟨o1, h1, h2⟩ := Option.bind_eq_some_iff.mp h
    have p := step_perm h1
    have s := inv_step nd hi h1
    have r := inv_runs (p.nodup_iff.mpr nd) (fun x hx y hy => hi x (p.mem_iff.mp hx) y (p.mem_iff.mp hy)) h2
    rw [List.length_cons]
    omega
theorem inv_self {rk : Str → Nat} : ∀ {l : List Str}, l.Pairwise (fun x y => rk x ≤ rk y) → invR rk l = 0
  | [], _ => rfl
  | x :: l, h => by
    obtain ⟨h1, h2⟩ := List.pairwise_cons.mp h
    have : l.filter (fun y => decide (rk y < rk x)) = [] := List.filter_eq_nil_iff.mpr fun y hy => by
      have := h1 y hy
      simp
      omega
    simp only [invR, this, List.length_nil, inv_self h2]
theorem rank_sorted {g : List Str} (nd : g.Nodup) : g.Pairwise (fun x y => g.idxOf x ≤ g.idxOf y) := by
  rw [List.pairwise_iff_getElem]
  intro i j hi hj hij
  rw [nd.idxOf_getElem i hi, nd.idxOf_getElem j hj]
  omega
theorem rank_inj {g : List Str} {x y : Str} (hx : x ∈ g) (hy : y ∈ g) (e : g.idxOf x = g.idxOf y) : x = y := by
  have h1 := List.getElem_idxOf (List.idxOf_lt_length_of_mem hx)
  have h2 := List.getElem_idxOf (List.idxOf_lt_length_of_mem hy)
  rw [← h1, ← h2]
  simp only [e]
end W10

end
section
/-! O2: the library's looks at orders and exchanges. -/
namespace W10
open PySem IR IRP
open PyData (strOk)
def IsOrd (ns o : List Str) : Prop := o.Perm ns
theorem e_need_order {ns : List Str} {rs : List (Str × Str)} (h : OkWeb ns rs) {o : List Str} (ho : IsOrd ns o) (cs : Cells) : sem_need_order [.val (webD ns rs), .val (.tuple (S o))] cs = some (.none, cs) := by
  have l8 := h.l8
  have le := ho.length_eq
  have e1 : sem_is_order [.val (webD ns rs), .val (.tuple (S o))] cs = some (.bool true, cs) := by
    refine okC_pure ?_
    walk_at "run"
    unfold body_is_order
    walk_at "w"
    refine okC_eq (e_is_row_of _ _ _ _) ?_
    walk_at "w"
    rw [S_len, S_len, le]
    refine br_t (by simp) ?_
    walk_at "w"
    refine okC_eq (e_are_places h.n (fun x hx => ho.mem_iff.mp hx) (ho.nodup_iff.mpr h.nd) (by omega) _) ?_
    exact end_ret rfl ⟨rfl, rfl⟩
  refine okC_pure ?_
  walk_at "run"
  unfold body_need_order
  walk_at "w"
  refine okC_eq e1 ?_
  walk_at "w"
  exact end_next rfl ⟨rfl, rfl⟩
theorem e_need_two_orders {ns : List Str} {rs : List (Str × Str)} (h : OkWeb ns rs) {o g : List Str} (ho : IsOrd ns o) (hg : IsOrd ns g) (cs : Cells) : sem_need_two_orders [.val (webD ns rs), .val (.tuple (S o)), .val (.tuple (S g))] cs = some (.none, cs) := by
  refine okC_pure ?_
  walk_at "run"
  unfold body_need_two_orders
  walk_at "w"
  refine okC_eq (e_need_web h _) ?_
  walk_at "w"
  refine okC_eq (e_need_order h ho _) ?_
  walk_at "w"
  refine okC_eq (e_need_order h hg _) ?_
  walk_at "w"
  exact end_next rfl ⟨rfl, rfl⟩
theorem in_R {rs : List (Str × Str)} {x y : Str} (hr : OkR rs) (hx : strOk x = true) (hy : strOk y = true) : cmpop .in_ (.tuple [.str x, .str y]) (.tuple (R rs)) = some (decide ((x, y) ∈ rs)) := by
  show (if (SeqAt.shaped (.tuple [.str x, .str y]) && SeqAt.shaped (.tuple (R rs))) = true then some ((R rs).any fun z => PyData.eqv z (.tuple [.str x, .str y])) else Option.none) = _
  rw [sh_two hx hy, sh_R hr, any_R]
  rfl
theorem nin_R {rs : List (Str × Str)} {x y : Str} (hr : OkR rs) (hx : strOk x = true) (hy : strOk y = true) : cmpop .nin (.tuple [.str x, .str y]) (.tuple (R rs)) = some (!decide ((x, y) ∈ rs)) := by
  have := in_R hr hx hy
  show (inD (.tuple [.str x, .str y]) (.tuple (R rs))).map (!·) = _
  rw [show inD (.tuple [.str x, .str y]) (.tuple (R rs)) = some (decide ((x, y) ∈ rs)) from this]
  rfl
theorem e_are_apart {ns : List Str} {rs : List (Str × Str)} (h : OkWeb ns rs) {x y : Str} (hx : x ∈ ns) (hy : y ∈ ns) (cs : Cells) : sem_are_apart [.val (webD ns rs), .val (.str x), .val (.str y)] cs = some (.bool (!adj rs x y), cs) := by
  refine okC_pure ?_
  walk_at "run"
  unfold body_are_apart
  walk_at "w"
  refine val_of (nin_R h.r (h.n x hx) (h.n y hy)) ?_
  walk_at "w"
  by_cases e1 : (x, y) ∈ rs
  · have : adj rs x y = true := by unfold adj; simp [e1]
    rw [this]
    refine br_f (by simp [e1]) ?_
    exact end_ret rfl ⟨rfl, rfl⟩
  · refine br_t (by simp [e1]) ?_
    walk_at "w"
    refine val_of (nin_R h.r (h.n y hy) (h.n x hx)) ?_
    walk_at "w"
    refine end_ret rfl ⟨?_, rfl⟩
    unfold adj
    simp [e1]
theorem e_exchanged {o : List Str} {i : Nat} (hi : i + 1 < o.length) (hl : o.length ≤ 1000) (cs : Cells) : sem_exchanged [.val (.tuple (S o)), .val (.int i)] cs = some (.tuple (S (swapS o i)), cs) := by
  refine okC_pure ?_
  walk_at "run"
  unfold body_exchanged
  walk_at "w"
  refine val_of (idx_St hi) ?_
  walk_at "w"
  refine val_of (idx_St (by omega)) ?_
  walk_at "w"
  rw [cut_lo]
  refine val_of (b_add_t ?_) ?_
  · simp only [List.length_take, S_len, List.length_cons, List.length_nil]
    omega
  walk_at "w"
  rw [cut_hiss]
  refine val_of (b_add_t ?_) ?_
  · simp only [List.length_take, List.length_drop, List.length_append, S_len, List.length_cons, List.length_nil]
    omega
  refine end_ret rfl ⟨?_, rfl⟩
  simp [swapS, S, List.map_drop, List.map_take]
theorem e_can {ns : List Str} {rs : List (Str × Str)} (h : OkWeb ns rs) {o : List Str} (ho : IsOrd ns o) (d : D) (cs : Cells) : sem_can_exchange [.val (webD ns rs), .val (.tuple (S o)), .val d] cs = some (.bool (stepX rs o d).isSome, cs) := by
  refine okC_pure ?_
  have hin : ∀ {i : Nat}, i < o.length → o.getD i "" ∈ ns := fun {i} hi => getD_in (fun x hx => ho.mem_iff.mp hx) hi
  walk_at "run"
  unfold body_can_exchange
  cases d with
  | int i =>
    walk_at "w"
    refine br_d (fun h0 => ?_) (fun h0 => ?_)
    · walk_at "w"
      rw [S_len]
      refine br (fun h1 => ?_) (fun h1 => ?_)
      · have h1 : ¬ i ≤ (o.length : Int) - 2 := by simpa using h1
        walk_at "w"
        refine end_ret rfl ⟨?_, rfl⟩
        simp only [stepX]
        rw [if_neg (fun q => by omega)]
        rfl
      · have h1 : i ≤ (o.length : Int) - 2 := by simpa using h1
        obtain ⟨j, rfl⟩ := Int.eq_ofNat_of_zero_le h0
        walk_at "w"
        refine val_of (idx_St (i := j) (by omega)) ?_
        walk_at "w"
        refine val_of (idx_St (i := j + 1) (by omega)) ?_
        walk_at "w"
        refine okC_eq (e_are_apart h (hin (by omega)) (hin (by omega)) _) ?_
        refine end_ret rfl ⟨?_, rfl⟩
        simp only [stepX, Int.toNat_natCast]
        cases ha : adj rs (o.getD j "") (o.getD (j + 1) "") with
        | true => rw [if_neg (by simp)]; rfl
        | false => rw [if_pos ⟨by omega, by omega, rfl⟩]; rfl
    · refine br_t rfl ?_
      walk_at "w"
      refine end_ret rfl ⟨?_, rfl⟩
      simp only [stepX]
      rw [if_neg (fun q => h0 q.1)]
      rfl
  | bool b => walk_at "w"; exact end_ret rfl ⟨rfl, rfl⟩
  | none => walk_at "w"; exact end_ret rfl ⟨rfl, rfl⟩
  | str x => walk_at "w"; exact end_ret rfl ⟨rfl, rfl⟩
  | list x => walk_at "w"; exact end_ret rfl ⟨rfl, rfl⟩
  | tuple x => walk_at "w"; exact end_ret rfl ⟨rfl, rfl⟩
  | dict x => walk_at "w"; exact end_ret rfl ⟨rfl, rfl⟩
/-- a step of an order, seen as data -/
theorem step_len {rs : List (Str × Str)} {o o' : List Str} {d : D} (h : stepX rs o d = some o') : ∃ i : Nat, d = .int i ∧ i + 1 < o.length ∧ o' = swapS o i := by
  cases d with
  | int i =>
    simp only [stepX] at h
    split at h
    · rename_i hc
      obtain ⟨j, rfl⟩ := Int.eq_ofNat_of_zero_le hc.1
      rw [Int.toNat_natCast] at h
      exact ⟨j, rfl, by have := hc.2.1; omega, (Option.some.inj h).symm⟩
    · cases h
  | _ => cases h
theorem e_path_right {ns : List Str} {rs : List (Str × Str)} (h : OkWeb ns rs) {o g : List Str} (ho : IsOrd ns o) (hg : IsOrd ns g) (ds : List D) (cs : Cells) : sem_path_right [.val (webD ns rs), .val (.tuple (S o)), .val (.tuple (S g)), .val (.list ds)] cs = some (.bool (decide (runX rs o ds = some g)), cs) := by
  have l8 := h.l8
  refine okC_pure ?_
  walk_at "run"
  unfold body_path_right
  walk_at "w"
  refine for_left (fun d => Item.one d) (fun l s => ∃ o' t, s = ⟨[.val (webD ns rs), .val (.tuple (S o')), .val (.tuple (S g)), .val (.list ds), t], cs⟩ ∧ IsOrd ns o' ∧ runX rs o ds = runX rs o' l) ?_ ?_ ?_
  · exact ⟨_, _, rfl, ho, rfl⟩
  · rintro d l s _ ⟨o', t, rfl, ho', e⟩
    have e2 : runX rs o' (d :: l) = (stepX rs o' d).bind fun o'' => runX rs o'' l := rfl
    rw [e2] at e
    walk_at "w"
    refine okC_eq (e_can h ho' d _) ?_
    cases hs : stepX rs o' d with
    | none =>
      rw [hs] at e
      walk_at "w"
      refine end_ret rfl ⟨?_, rfl⟩
      rw [e]
      rfl
    | some o'' =>
      rw [hs] at e
      obtain ⟨i, rfl, hi, rfl⟩ := step_len hs
      walk_at "w"
      have := ho'.length_eq
      refine okC_eq (e_exchanged hi (by omega) _) ?_
      walk_at "w"
      exact ⟨_, _, rfl, (step_perm hs).trans ho', e⟩
  · rintro s ⟨o', t, rfl, ho', e⟩
    have ok : ∀ {z : List Str}, IsOrd ns z → OkS z := fun hz x hx => h.n x (hz.mem_iff.mp hx)
    walk_at "w"
    refine val_of (eq_St (ok ho') (ok hg)) ?_
    refine end_ret rfl ⟨?_, rfl⟩
    rw [e]
    show PyData.bool (decide (o' = g)) = .bool (decide (some o' = some g))
    simp
theorem e_hold {ns : List Str} {rs : List (Str × Str)} (h : OkWeb ns rs) {o g : List Str} (ho : IsOrd ns o) (hg : IsOrd ns g) (ds : List D) (cs : Cells) : sem_exchanges_hold [.val (webD ns rs), .val (.tuple (S o)), .val (.tuple (S g)), .val (.list ds)] cs = some (.bool (decide (runX rs o ds = some g)), cs) := by
  refine okC_pure ?_
  walk_at "run"
  unfold body_exchanges_hold
  walk_at "w"
  refine okC_eq (e_need_two_orders h ho hg _) ?_
  walk_at "w"
  refine okC_eq (e_path_right h ho hg ds _) ?_
  exact end_ret rfl ⟨rfl, rfl⟩
theorem e_hold_bad {ns : List Str} {rs : List (Str × Str)} (h : OkWeb ns rs) {o g : List Str} (ho : IsOrd ns o) (hg : IsOrd ns g) {d : D} (hd : isTy d .list = false) (cs : Cells) : sem_exchanges_hold [.val (webD ns rs), .val (.tuple (S o)), .val (.tuple (S g)), .val d] cs = some (.bool false, cs) := by
  have e : sem_path_right [.val (webD ns rs), .val (.tuple (S o)), .val (.tuple (S g)), .val d] cs = some (.bool false, cs) := by
    refine okC_pure ?_
    walk_at "run"
    unfold body_path_right
    walk_at "w"
    refine br_t (by rw [hd]; rfl) ?_
    walk_at "w"
    exact end_ret rfl ⟨rfl, rfl⟩
  refine okC_pure ?_
  walk_at "run"
  unfold body_exchanges_hold
  walk_at "w"
  refine okC_eq (e_need_two_orders h ho hg _) ?_
  walk_at "w"
  refine okC_eq e ?_
  exact end_ret rfl ⟨rfl, rfl⟩
end W10

end
section
/-! O3: arrows, the told exchanges. -/
namespace W10
open PySem IR IRP
open PyData (strOk)
def rankD (o : List Str) : List (D × D) := o.zipIdx.map fun p => (.str p.1, .int (p.2 : Nat))
theorem look_rank {x : Str} : ∀ {o : List Str} {n : Nat}, x ∈ o → look (.str x) ((o.zipIdx n).map fun p => (.str p.1, .int (p.2 : Nat))) = some (.int ((n + o.idxOf x : Nat) : Int))
  | [], _, h => by cases h
  | y :: o, n, h => by
    have ih := look_rank (x := x) (o := o) (n := n + 1)
    unfold look at ih ⊢
    rw [List.zipIdx_cons, List.map_cons, List.find?_cons, List.idxOf_cons]
    by_cases e : y = x
    · simp [keyEq, e]
    · have k : keyEq (.str y) (.str x) = false := by simp [keyEq, e]
      have b : (y == x) = false := by simp [e]
      rw [k, b]
      simp only [Bool.cond_false, cond_false]
      rw [ih (by rcases List.mem_cons.mp h with h | h; exact absurd h.symm e; exact h)]
      congr 3
      omega
theorem idx_rank {o : List Str} {x : Str} (h : x ∈ o) : idxD (.dict (rankD o)) (.str x) = some (.int (o.idxOf x : Nat)) := by
  have := look_rank (n := 0) h
  rw [Nat.zero_add] at this
  exact this
theorem eqvAll_R : ∀ a b : List (Str × Str), PyData.eqvAll (R a) (R b) = decide (a = b)
  | [], [] => rfl
  | [], y :: b => rfl
  | x :: a, [] => rfl
  | x :: a, y :: b => by
    rw [R_cons, R_cons]
    have h : (x = y) ↔ x.1 = y.1 ∧ x.2 = y.2 := ⟨fun e => by rw [e]; exact ⟨rfl, rfl⟩, fun e => Prod.ext e.1 e.2⟩
    simp only [PyData.eqvAll, PyData.eqv, eqvAll_R a b, eqv_str]
    by_cases e1 : x.1 = y.1 <;> by_cases e2 : x.2 = y.2 <;> by_cases e3 : a = b <;> simp [h, e1, e2, e3]
theorem eq_Rt {a b : List (Str × Str)} (ha : OkR a) (hb : OkR b) : cmpop .eq (.tuple (R a)) (.tuple (R b)) = some (decide (a = b)) := by
  show (if (SeqAt.shaped (.tuple (R a)) && SeqAt.shaped (.tuple (R b))) = true then some (PyData.eqv (.tuple (R a)) (.tuple (R b))) else Option.none) = _
  rw [sh_R ha, sh_R hb]
  simp only [PyData.eqv, eqvAll_R]
  rfl
theorem ne_Rt {a b : List (Str × Str)} (ha : OkR a) (hb : OkR b) : cmpop .ne (.tuple (R a)) (.tuple (R b)) = some (!decide (a = b)) := by
  show (eqD (.tuple (R a)) (.tuple (R b))).map (!·) = _
  rw [show eqD (.tuple (R a)) (.tuple (R b)) = some (decide (a = b)) from eq_Rt ha hb]
  rfl
theorem arr_ok {rs : List (Str × Str)} (hr : OkR rs) (o : List Str) : OkR (arrS rs o) := fun r h => by
  obtain ⟨q, hq, e⟩ := List.mem_map.mp h
  have := hr q hq
  rw [← e]
  unfold arr
  split
  · exact this
  · exact ⟨this.2, this.1⟩
theorem e_arrows {ns : List Str} {rs : List (Str × Str)} (h : OkWeb ns rs) {o : List Str} (ho : IsOrd ns o) (cs : Cells) : sem_arrows_of [.val (webD ns rs), .val (.tuple (S o))] cs = some (.tuple (R (arrS rs o)), cs) := by
  have l8 := h.l8
  have l14 := h.l14
  have le := ho.length_eq
  have nd := ho.nodup_iff.mpr h.nd
  refine okC_pure ?_
  walk_at "run"
  unfold body_arrows_of
  walk_at "w"
  have en : numbered (S o) = o.zipIdx.map fun p => Item.two (.int (p.2 : Nat)) (.str p.1) := num_map PyData.str o
  rw [en]
  refine wd_each (fun p : Str × Nat => Item.two (.int (p.2 : Nat)) (.str p.1)) (fun p => .str p.1) (fun p => .int (p.2 : Nat)) ?_ ?_ ?_
  · intro p hp
    walk_at "w"
    exact ⟨rfl, rfl⟩
  · simp only [List.length_nil, List.length_zipIdx]
    omega
  rw [put_texts (fun p : Str × Nat => p.1) (fun p => PyData.int (p.2 : Nat)) o.zipIdx [] (by show (o.zipIdx.map Prod.fst).Nodup; rw [List.zipIdx_map_fst]; exact nd) (by intro b _; rfl), List.nil_append]
  have er : (o.zipIdx.map fun b => (PyData.str b.1, PyData.int (b.2 : Nat))) = rankD o := rfl
  rw [er]
  walk_at "w"
  rw [ones_R]
  refine wl_each (fun r => Item.one (rd r)) (fun r => rd (arr o r)) ?_ ?_
  · intro r hr
    have i1 := idx_rank (ho.mem_iff.mpr (h.rd r hr).1)
    have i2 := idx_rank (ho.mem_iff.mpr (h.rd r hr).2.1)
    unfold rd
    walk_at "w"
    refine val_of i1 ?_
    walk_at "w"
    refine val_of i2 ?_
    walk_at "w"
    unfold arr
    refine br_d (fun c => ?_) (fun c => ?_)
    · walk_at "w"
      rw [if_pos (by omega)]
      exact ⟨rfl, rfl⟩
    · walk_at "w"
      rw [if_neg (by omega)]
      exact ⟨rfl, rfl⟩
  refine also (by rw [List.length_map]; omega) ?_
  walk_at "w"
  refine end_ret rfl ⟨?_, rfl⟩
  unfold R arrS
  rw [List.map_map]
  rfl
theorem e_alike {ns : List Str} {rs : List (Str × Str)} (h : OkWeb ns rs) {o g : List Str} (ho : IsOrd ns o) (hg : IsOrd ns g) (cs : Cells) : sem_are_alike [.val (webD ns rs), .val (.tuple (S o)), .val (.tuple (S g))] cs = some (.bool (decide (arrS rs o = arrS rs g)), cs) := by
  refine okC_pure ?_
  walk_at "run"
  unfold body_are_alike
  walk_at "w"
  refine okC_eq (e_need_two_orders h ho hg _) ?_
  walk_at "w"
  refine okC_eq (e_arrows h ho _) ?_
  walk_at "w"
  refine okC_eq (e_arrows h hg _) ?_
  walk_at "w"
  refine val_of (eq_Rt (arr_ok h.r o) (arr_ok h.r g)) ?_
  exact end_ret rfl ⟨rfl, rfl⟩
/-! ### bubbling -/
/-- what stands at index + 1 is what the goal has at `at_`, and ahead of `at_` both are one: then it may go one ahead -/
theorem bubble {rs : List (Str × Str)} {o g : List Str} {p : Str} {at_ i : Nat} (nd : o.Nodup) (pm : o.Perm g) (ha : arrS rs o = arrS rs g) (ht : o.take at_ = g.take at_) (hg : g[at_]? = some p) (hi : o[i + 1]? = some p) (hai : at_ ≤ i) :
    ∃ o', stepX rs o (.int (i : Nat)) = some o' ∧ o' = swapS o i ∧ o'[i]? = some p ∧ o'.take at_ = g.take at_ := by
  have hlt : i + 1 < o.length := (List.getElem?_eq_some_iff.mp hi).1
  have ndg := pm.nodup_iff.mp nd
  have e := split2 hlt
  have la : (o.take i).length = i := by rw [List.length_take]; omega
  have g2 : o.getD (i + 1) "" = p := by rw [List.getD_eq_getElem?_getD, hi]; rfl
  rw [g2] at e
  generalize hq : o.getD i "" = q at e
  generalize ea : o.take i = a at e la
  generalize o.drop (i + 2) = b at e
  subst la
  have nq : q ∉ a := by
    have := nd
    rw [e] at this
    have h3 := (List.nodup_append.mp this).2.2
    exact fun hm => h3 q hm q (by simp) rfl
  have np : p ∉ a := by
    have := nd
    rw [e] at this
    have h3 := (List.nodup_append.mp this).2.2
    exact fun hm => h3 p hm p (by simp) rfl
  have ne : q ≠ p := by
    have := nd
    rw [e] at this
    have h3 := (List.nodup_append.mp this).2.1
    rw [List.nodup_cons] at h3
    intro c
    exact h3.1 (by simp [c])
  have h1 : o.idxOf q < o.idxOf p := by
    rw [e, idx_mid nq, idx_mid np]
    simp [ne]
  have hgp : g.idxOf p = at_ := by
    have hl := (List.getElem?_eq_some_iff.mp hg)
    obtain ⟨hl, e1⟩ := hl
    rw [← e1, ndg.idxOf_getElem at_ hl]
  have qg : q ∈ g := pm.mem_iff.mp (by rw [e]; simp)
  have h2 : g.idxOf p < g.idxOf q := by
    rw [hgp]
    have ge : ¬ g.idxOf q < at_ := fun c => by
      have hl := List.idxOf_lt_length_of_mem qg
      have m1 : g[g.idxOf q]? = some q := by rw [List.getElem?_eq_getElem hl, List.getElem_idxOf]
      have m2 : (g.take at_)[g.idxOf q]? = some q := by rw [List.getElem?_take, if_pos c]; exact m1
      rw [← ht] at m2
      have m3 := List.mem_of_getElem? m2
      have m4 : o.take at_ = a.take at_ := by rw [← ea, List.take_take, Nat.min_eq_left hai]
      rw [m4] at m3
      exact nq (List.mem_of_mem_take m3)
    have n2 : g.idxOf q ≠ at_ := fun c => ne (rank_inj qg (List.mem_of_getElem? hg) (by rw [c, hgp]))
    omega
  have hadj := apart_of ha ne h1 h2
  have st : stepX rs o (.int (a.length : Nat)) = some (a ++ p :: q :: b) := step_iff.mpr ⟨a, b, q, p, rfl, e, rfl, hadj⟩
  refine ⟨a ++ p :: q :: b, st, ?_, ?_, ?_⟩
  · rw [e, swapS_at]
  · rw [List.getElem?_append_right (Nat.le_refl _), Nat.sub_self]; rfl
  · rw [← ht, e, List.take_append_of_le_length hai, List.take_append_of_le_length hai]
theorem rng3_back {i j : Int} (hi : -(2 ^ 62) ≤ i) (hi' : i < 2 ^ 62) (hj : -(2 ^ 62) ≤ j) (hj' : j < 2 ^ 62) : rng3 [.int i, .int j, .int (-1)] = some ((List.range (i - j).toNat).map fun (m : Nat) => .one (.int (i + m * (-1)))) := by
  obtain ⟨h1, h2, h3, h4⟩ := L2.RgC.neg hi hi' hj hj'
  show (if (-1 : Int) ≠ 0 ∧ (-1 : Int).natAbs < 1073741824 ∧ Builtin.Range.small i j (-1) = true then some ((List.range (Builtin.Range.rangeSize i j (-1)).toNat).map fun (m : Nat) => Item.one (.int (i + m * (-1)))) else Option.none) = _
  rw [if_pos ⟨h1, h2, h3⟩, h4, Int.toNat_natCast]
theorem for_nat (c : Nat → Item) (J : Nat → State → Prop) {tg : Item → State → Option State} {fb : State → Option (Out × State)} {n : Nat} {s : State} {Q : Out → State → Prop} (h : J 0 s)
    (hs : ∀ i s, i < n → J i s → Val (tg (c i) s) fun s1 => Ok fb s1 (turnQ (J (i + 1)) Q)) (he : ∀ s, J n s → Q .next s) : OkFor tg fb ((List.range n).map c) s Q := by
  refine for_done c (fun p s => J p.length s) h (fun p b s e hi => ?_) fun s hi => he s (by rwa [List.length_range] at hi)
  obtain ⟨r, e⟩ := e
  have hl := congrArg List.length e
  simp only [List.length_range, List.length_append, List.length_cons] at hl
  have hb : b = p.length := by
    have := congrArg (fun l => l[p.length]?) e
    simp [List.getElem?_range (show p.length < n by omega)] at this
    exact this.symm
  subst hb
  have := hs p.length s (by omega) hi
  simp only [List.length_append, List.length_cons, List.length_nil]
  exact this
theorem e_path {ns : List Str} {rs : List (Str × Str)} (h : OkWeb ns rs) {o g : List Str} (ho : IsOrd ns o) (hg : IsOrd ns g) (cs : Cells) : ∃ d, sem_path_between [.val (webD ns rs), .val (.tuple (S o)), .val (.tuple (S g))] cs = some (d, cs) ∧ (arrS rs o ≠ arrS rs g → d = .none) ∧ (arrS rs o = arrS rs g → ∃ f : List Int, d = .list (I f) ∧ runX rs o (I f) = some g ∧ f.length ≤ 64) := by
  suffices q : OkC sem_path_between [.val (webD ns rs), .val (.tuple (S o)), .val (.tuple (S g))] cs fun d cs' => ((arrS rs o ≠ arrS rs g → d = .none) ∧ (arrS rs o = arrS rs g → ∃ f : List Int, d = .list (I f) ∧ runX rs o (I f) = some g ∧ f.length ≤ 64)) ∧ cs' = cs by
    obtain ⟨d, cs', e, q, rfl⟩ := q
    exact ⟨d, e, q⟩
  have l8 := h.l8
  have lg := hg.length_eq
  have ndg := hg.nodup_iff.mpr h.nd
  walk_at "run"
  unfold body_path_between
  walk_at "w"
  refine okC_eq (e_arrows h ho _) ?_
  walk_at "w"
  refine okC_eq (e_arrows h hg _) ?_
  walk_at "w"
  refine val_of (ne_Rt (arr_ok h.r o) (arr_ok h.r g)) ?_
  by_cases ha : arrS rs o = arrS rs g
  case neg =>
    refine br_t (by simp [ha]) ?_
    walk_at "w"
    exact end_ret rfl ⟨⟨fun _ => rfl, fun e => absurd e ha⟩, rfl⟩
  refine br_f (by simp [ha]) ?_
  walk_at "w"
  refine for_enum (fun at_ s => ∃ o' f a pl iv, s = ⟨[.val (webD ns rs), .val (.tuple (S o')), .val (.tuple (S g)), .box (I f), a, pl, iv], cs⟩ ∧ IsOrd ns o' ∧ runX rs o (I f) = some o' ∧ o'.take at_ = g.take at_ ∧ f.length ≤ 8 * at_) ?_ ?_ ?_
  · exact ⟨o, [], _, _, _, rfl, ho, rfl, rfl, by simp⟩
  · rintro at_ d s hd ⟨o', f, a, pl, iv, rfl, ho', hrun, htk, hfl⟩
    obtain ⟨p, hp, rfl⟩ : ∃ p, g[at_]? = some p ∧ d = .str p := by
      unfold S at hd
      rw [List.getElem?_map] at hd
      obtain ⟨p, hp, e⟩ := Option.map_eq_some_iff.mp hd
      exact ⟨p, hp, e.symm⟩
    have nd' := ho'.nodup_iff.mpr h.nd
    have lo' := ho'.length_eq
    have hat := (List.getElem?_eq_some_iff.mp hp).1
    have pg := List.mem_of_getElem? hp
    have po : p ∈ o' := ho'.mem_iff.mpr (hg.mem_iff.mp pg)
    have pmo : o'.Perm g := ho'.trans hg.symm
    have hq : o'[o'.idxOf p]? = some p := by rw [List.getElem?_eq_getElem (List.idxOf_lt_length_of_mem po), List.getElem_idxOf]
    have hql := List.idxOf_lt_length_of_mem po
    have hqa : at_ ≤ o'.idxOf p := by
      by_cases c : o'.idxOf p < at_
      · have m1 : (o'.take at_)[o'.idxOf p]? = some p := by rw [List.getElem?_take, if_pos c]; exact hq
        rw [htk, List.getElem?_take, if_pos c] at m1
        have := get_inj ndg m1 hp
        omega
      · omega
    walk_at "w"
    refine val_of (index_S po) ?_
    walk_at "w"
    unfold ix
    generalize o'.idxOf p = q at hq hql hqa
    refine val_of (rng3_back (by omega) (by omega) (by omega) (by omega)) ?_
    rw [show (((q : Nat) : Int) - 1 - ((at_ : Int) - 1)).toNat = q - at_ by omega]
    refine for_nat (fun m => Item.one (.int ((q : Int) - 1 + m * (-1)))) (fun m s => ∃ o'' f' iv, s = ⟨[.val (webD ns rs), .val (.tuple (S o'')), .val (.tuple (S g)), .box (I f'), .val (.int at_), .val (.str p), iv], cs⟩ ∧ IsOrd ns o'' ∧ runX rs o (I f') = some o'' ∧ o''.take at_ = g.take at_ ∧ o''[q - m]? = some p ∧ f'.length ≤ 8 * at_ + m) ?_ ?_ ?_
    · exact ⟨o', f, _, rfl, ho', hrun, htk, hq, by omega⟩
    · rintro m s hm ⟨o'', f', iv, rfl, ho'', hrun', htk', hq', hfl'⟩
      have nd'' := ho''.nodup_iff.mpr h.nd
      have lo'' := ho''.length_eq
      obtain ⟨i, hi⟩ : ∃ i, q - m = i + 1 := ⟨q - m - 1, by omega⟩
      have ei : (q : Int) - 1 + (m : Int) * (-1) = (i : Int) := by omega
      rw [hi] at hq'
      have harr : arrS rs o'' = arrS rs g := by rw [run_arr (ho.nodup_iff.mpr h.nd) hrun', ha]
      obtain ⟨o3, st, e3, hp3, ht3⟩ := bubble nd'' (ho''.trans hg.symm) harr htk' hp hq' (by omega)
      have hil := (List.getElem?_eq_some_iff.mp hq').1
      rw [ei]
      walk_at "w"
      refine also (by rw [I_len]; omega) ?_
      walk_at "w"
      refine okC_eq (e_exchanged hil (by omega) _) ?_
      walk_at "w"
      refine ⟨o3, f' ++ [(i : Int)], _, by rw [I_app, e3] <;> rfl, (step_perm st).trans ho'', ?_, ht3, ?_, by rw [List.length_append]; simp only [List.length_cons, List.length_nil]; omega⟩
      · rw [I_app, runX_app, hrun', Option.bind_some]
        exact (runX_one rs o'' _).trans st
      · rw [show q - (m + 1) = i by omega]
        exact hp3
    · rintro s ⟨o'', f', iv, rfl, ho'', hrun', htk', hq', hfl'⟩
      have lo'' := ho''.length_eq
      walk_at "w"
      refine ⟨o'', f', _, _, _, rfl, ho'', hrun', ?_, by omega⟩
      rw [show q - (q - at_) = at_ by omega] at hq'
      rw [List.take_add_one, List.take_add_one, htk', hq', hp]
  · rintro s ⟨o', f, a, pl, iv, rfl, ho', hrun, htk, hfl⟩
    have lo' := ho'.length_eq
    rw [S_len] at htk hfl
    rw [List.take_length, List.take_of_length_le (by omega)] at htk
    subst htk
    walk_at "w"
    exact end_ret rfl ⟨⟨fun e => absurd ha e, fun _ => ⟨f, rfl, hrun, by omega⟩⟩, rfl⟩
theorem e_exchanges {ns : List Str} {rs : List (Str × Str)} (h : OkWeb ns rs) {o g : List Str} (ho : IsOrd ns o) (hg : IsOrd ns g) (cs : Cells) : ∃ d, sem_exchanges [.val (webD ns rs), .val (.tuple (S o)), .val (.tuple (S g))] cs = some (d, cs) ∧ (arrS rs o ≠ arrS rs g → d = .none) ∧ (arrS rs o = arrS rs g → ∃ f : List Int, d = .list (I f) ∧ runX rs o (I f) = some g ∧ f.length ≤ 64) := by
  obtain ⟨d, e, h1, h2⟩ := e_path h ho hg cs
  refine ⟨d, ?_, h1, h2⟩
  refine okC_pure ?_
  walk_at "run"
  unfold body_exchanges
  walk_at "w"
  refine okC_eq (e_need_two_orders h ho hg _) ?_
  walk_at "w"
  refine okC_eq e ?_
  exact end_ret rfl ⟨rfl, rfl⟩
end W10

end
section
/-! O4: the law's own walks. -/
namespace W10
open PySem IR IRP
open PyData (strOk)
def optT : Option (List Str) → D
  | some r => .tuple (S r)
  | none => .none
theorem e_neighbours {ns : List Str} {rs : List (Str × Str)} (h : OkWeb ns rs) {x : Str} (hx : x ∈ ns) (cs : Cells) : sem_neighbours [.val (webD ns rs), .val (.str x)] cs = some (.tuple (S (nearS ns rs x)), cs) := by
  have e1 : sem_need_place [.val (webD ns rs), .val (.str x)] cs = some (.none, cs) := by
    refine okC_pure ?_
    walk_at "run"
    unfold body_need_place
    walk_at "w"
    refine okC_eq (e_is_place rs h.n (h.n x hx) _) ?_
    walk_at "w"
    refine br_f (by simp [hx]) ?_
    walk_at "w"
    exact end_next rfl ⟨rfl, rfl⟩
  refine okC_pure ?_
  walk_at "run"
  unfold body_neighbours
  walk_at "w"
  refine okC_eq (e_need_web h _) ?_
  walk_at "w"
  refine okC_eq e1 ?_
  walk_at "w"
  refine okC_eq (e_neighbours_of h.n h.r (h.n x hx) h.l8 _) ?_
  exact end_ret rfl ⟨rfl, rfl⟩
theorem near_mem {ns : List Str} {rs : List (Str × Str)} {x y : Str} (hy : y ∈ ns) : decide (y ∈ nearS ns rs x) = adj rs x y := by
  unfold nearS
  cases ha : adj rs x y with
  | true => simp [List.mem_filter, hy, ha]
  | false => simp [List.mem_filter, hy, ha]
theorem near_ok {ns : List Str} {rs : List (Str × Str)} (h : OkWeb ns rs) (x : Str) : OkS (nearS ns rs x) := fun y hy => h.n y (List.mem_filter.mp hy).1
theorem ones_I (l : List Int) : ones (I l) = l.map fun i => Item.one (.int i) := by
  unfold ones I
  rw [List.map_map]
  rfl
theorem step_int (rs : List (Str × Str)) (o : List Str) (i : Int) : stepX rs o (.int i) = if 0 ≤ i ∧ i + 1 < o.length ∧ adj rs (o.getD i.toNat "") (o.getD (i.toNat + 1) "") = false then some (swapS o i.toNat) else none := rfl
theorem S_swap (o : List Str) (i : Nat) : S (swapS o i) = (S o).take i ++ [.str (o.getD (i + 1) ""), .str (o.getD i "")] ++ (S o).drop (i + 2) := by simp [swapS, S, List.map_drop, List.map_take]
theorem e_walked {ns : List Str} {rs : List (Str × Str)} (h : OkWeb ns rs) {o : List Str} (ho : IsOrd ns o) (l : List Int) (cs : Cells) : sem__law_walked [.val (webD ns rs), .val (.tuple (S o)), .val (.list (I l))] cs = some (optT (runX rs o (I l)), cs) := by
  have l8 := h.l8
  refine okC_pure ?_
  walk_at "run"
  unfold body__law_walked
  walk_at "w"
  rw [ones_I]
  refine for_left (fun i => Item.one (.int i)) (fun r s => ∃ o' t, s = ⟨[.val (webD ns rs), .val (.tuple (S o')), .val (.list (I l)), t], cs⟩ ∧ IsOrd ns o' ∧ runX rs o (I l) = runX rs o' (I r)) ?_ ?_ ?_
  · exact ⟨_, _, rfl, ho, rfl⟩
  · rintro i r s _ ⟨o', t, rfl, ho', e⟩
    have lo' := ho'.length_eq
    have e2 : runX rs o' (I (i :: r)) = (stepX rs o' (.int i)).bind fun o'' => runX rs o'' (I r) := rfl
    rw [e2, step_int] at e
    walk_at "w"
    refine br_d (fun h0 => ?_) (fun h0 => ?_)
    · walk_at "w"
      rw [S_len]
      refine br (fun h1 => ?_) (fun h1 => ?_)
      · have h1 : ¬ i < (o'.length : Int) - 1 := by simpa using h1
        walk_at "w"
        refine end_ret rfl ⟨?_, rfl⟩
        rw [e, if_neg (fun q => by omega)]
        rfl
      · have h1 : i < (o'.length : Int) - 1 := by simpa using h1
        obtain ⟨j, rfl⟩ := Int.eq_ofNat_of_zero_le h0
        have m1 : o'.getD j "" ∈ ns := getD_in (fun x hx => ho'.mem_iff.mp hx) (by omega)
        have m2 : o'.getD (j + 1) "" ∈ ns := getD_in (fun x hx => ho'.mem_iff.mp hx) (by omega)
        rw [Int.toNat_natCast] at e
        walk_at "w"
        refine val_of (idx_St (i := j + 1) (by omega)) ?_
        walk_at "w"
        refine val_of (idx_St (i := j) (by omega)) ?_
        walk_at "w"
        refine okC_eq (e_neighbours h m1 _) ?_
        walk_at "w"
        refine val_of (in_St (near_ok h _) (h.n _ m2)) ?_
        rw [near_mem m2]
        cases ha : adj rs (o'.getD j "") (o'.getD (j + 1) "") with
        | true =>
          walk_at "w"
          refine end_ret rfl ⟨?_, rfl⟩
          rw [e, if_neg (fun q => by rw [ha] at q; cases q.2.2)]
          rfl
        | false =>
          walk_at "w"
          refine val_of (idx_St (i := j + 1) (by omega)) ?_
          walk_at "w"
          refine val_of (idx_St (i := j) (by omega)) ?_
          walk_at "w"
          rw [cut_lo]
          refine val_of (b_add_t ?_) ?_
          · simp only [List.length_take, S_len, List.length_cons, List.length_nil]
            omega
          walk_at "w"
          rw [cut_hiss]
          refine val_of (b_add_t ?_) ?_
          · simp only [List.length_take, List.length_drop, List.length_append, S_len, List.length_cons, List.length_nil]
            omega
          walk_at "w"
          rw [if_pos ⟨by omega, by omega, ha⟩, Option.bind_some] at e
          have st : stepX rs o' (.int (j : Nat)) = some (swapS o' j) := by rw [step_int, Int.toNat_natCast, if_pos ⟨by omega, by omega, ha⟩]
          exact ⟨swapS o' j, _, by rw [S_swap] <;> rfl, (step_perm st).trans ho', e⟩
    · refine br_t rfl ?_
      walk_at "w"
      refine end_ret rfl ⟨?_, rfl⟩
      rw [e, if_neg (fun q => h0 q.1)]
      rfl
  · rintro s ⟨o', t, rfl, ho', e⟩
    walk_at "w"
    refine end_ret rfl ⟨?_, rfl⟩
    rw [e]
    rfl
def freeI (rs : List (Str × Str)) (o : List Str) : List Int := ((List.range (o.length - 1)).filter fun i => !adj rs (o.getD i "") (o.getD (i + 1) "")).map fun (i : Nat) => (i : Int)
theorem freeI_step {rs : List (Str × Str)} {o : List Str} {i : Int} (h : i ∈ freeI rs o) : ∃ o', stepX rs o (.int i) = some o' := by
  obtain ⟨j, hj, rfl⟩ := List.mem_map.mp h
  obtain ⟨h1, h2⟩ := List.mem_filter.mp hj
  have h1 := List.mem_range.mp h1
  have h2 : adj rs (o.getD j "") (o.getD (j + 1) "") = false := by simpa using h2
  exact ⟨_, by rw [step_int, Int.toNat_natCast, if_pos ⟨by omega, by omega, h2⟩]⟩
theorem e_free {ns : List Str} {rs : List (Str × Str)} (h : OkWeb ns rs) {o : List Str} (ho : IsOrd ns o) (cs : Cells) : sem__law_free [.val (webD ns rs), .val (.tuple (S o))] cs = some (.list (I (freeI rs o)), cs) := by
  have l8 := h.l8
  have l1 := h.l1
  have lo := ho.length_eq
  refine okC_pure ?_
  walk_at "run"
  unfold body__law_free
  walk_at "w"
  rw [S_len, show (o.length : Int) - 1 = ((o.length - 1 : Nat) : Int) by omega]
  refine v_rng (by omega) ?_
  refine wl_some (fun i : Nat => Item.one (.int (0 + (i : Int)))) (fun i => !adj rs (o.getD i "") (o.getD (i + 1) "")) (fun i => .int (i : Nat)) (l := List.range (o.length - 1)) ?_ ?_
  · intro i hi
    have hi := List.mem_range.mp hi
    have m1 : o.getD i "" ∈ ns := getD_in (fun x hx => ho.mem_iff.mp hx) (by omega)
    have m2 : o.getD (i + 1) "" ∈ ns := getD_in (fun x hx => ho.mem_iff.mp hx) (by omega)
    walk_at "w"
    rw [Int.zero_add]
    refine val_of (idx_St (i := i + 1) (by omega)) ?_
    walk_at "w"
    refine val_of (idx_St (i := i) (by omega)) ?_
    walk_at "w"
    refine okC_eq (e_neighbours h m1 _) ?_
    walk_at "w"
    have en : cmpop .nin (.str (o.getD (i + 1) "")) (.tuple (S (nearS ns rs (o.getD i "")))) = some (!adj rs (o.getD i "") (o.getD (i + 1) "")) := by
      show (inD (.str (o.getD (i + 1) "")) (.tuple (S (nearS ns rs (o.getD i ""))))).map (!·) = _
      rw [show inD (.str (o.getD (i + 1) "")) (.tuple (S (nearS ns rs (o.getD i "")))) = some (decide (o.getD (i + 1) "" ∈ nearS ns rs (o.getD i ""))) from in_St (near_ok h _) (h.n _ m2), near_mem m2]
      rfl
    refine val_of en ?_
    refine br (fun hb => ?_) (fun hb => ?_)
    · walk_at "w"
      rw [hb]
      exact ⟨rfl, rfl⟩
    · rw [hb]
      exact ⟨rfl, rfl⟩
  refine also ?_ ?_
  · rw [List.length_map]
    have := List.length_filter_le (fun i => !adj rs (o.getD i "") (o.getD (i + 1) "")) (List.range (o.length - 1))
    rw [List.length_range] at this
    omega
  walk_at "w"
  refine end_ret rfl ⟨?_, rfl⟩
  unfold I freeI
  rw [List.map_map]
  rfl
theorem ne_nil_I (l : List Int) : cmpop .ne (.list (I l)) (.list []) = some (!decide (l = [])) := by
  show (if (SeqAt.shaped (.list (I l)) && SeqAt.shaped (.list [])) = true then some (PyData.eqv (.list (I l)) (.list [])) else Option.none).map (!·) = _
  rw [sh_I, show SeqAt.shaped (.list []) = true by decide]
  have := eqvAll_I l []
  simp only [PyData.eqv]
  rw [show ([] : List D) = I [] from rfl, this]
  rfl
theorem cut_last {α : Type} (xs : List α) (d : α) : cut (xs ++ [d]) (some (-1)) none = [d] := by
  unfold cut
  have e : HT.sIx (xs ++ [d]).length 0 (some (-1)) = xs.length := by
    show (if (-1 : Int) < 0 then ((-1 : Int) + ((xs ++ [d]).length : Nat)).toNat else min (-1 : Int).toNat (xs ++ [d]).length) = _
    rw [if_pos (by decide), List.length_append]
    simp only [List.length_cons, List.length_nil]
    omega
  rw [e, HT.sIx_none, List.drop_left]
  simp
section
variable {X : Cells}
theorem d_order {ns : List Str} {rs : List (Str × Str)} (l8 : ns.length ≤ 8) : Dr X sem__law_order [.cell X.length, .val (webD ns rs)] 8 fun d => ∃ o, d = .tuple (S o) ∧ IsOrd ns o := by
  refine dr_in fun k cs hb => ?_
  walk_at "run"
  unfold body__law_order
  walk_at "w"
  have hb := hb.mono (show k + (8 - ns.length) + (S ns).length ≤ _ by rw [S_len]; omega)
  refine dr_at (d_shuffled (.inr (.inl rfl)) (by rw [S_len]; omega)) hb ?_
  rintro _ cs1 ⟨ds, rfl, hp⟩ hb1
  obtain ⟨o, rfl, ho⟩ := perm_map_inv PyData.str hp rfl
  walk_at "w"
  exact end_ret (hb1.lens hb) ⟨⟨o, rfl, ho⟩, hb1.mono (by omega)⟩
theorem d_wandered {ns : List Str} {rs : List (Str × Str)} (h : OkWeb ns rs) {o : List Str} (ho : IsOrd ns o) {many : Nat} (hm : many ≤ 1000) : Dr X sem__law_wandered [.cell X.length, .val (webD ns rs), .val (.tuple (S o)), .val (.int many)] many fun d => ∃ (l : List Int) (o' : List Str), d = .list (I l) ∧ runX rs o (I l) = some o' ∧ l.length ≤ many := by
  have l8 := h.l8
  refine dr_in fun k cs hb => ?_
  walk_at "run"
  unfold body__law_wandered
  walk_at "w"
  refine v_rng (by omega) ?_
  refine for_range (fun i s => ∃ l o' t sm cs, s = ⟨[.cell X.length, .val (webD ns rs), .val (.tuple (S o)), .val (.int many), .box (I l), .val (.tuple (S o')), t, sm], cs⟩ ∧ runX rs o (I l) = some o' ∧ l.length ≤ i ∧ Bud X (k + (many - i)) cs) ?_ ?_ ?_
  · exact ⟨[], o, _, _, _, rfl, rfl, by simp, hb⟩
  · rintro i s hi ⟨l, o', t, sm, cs, rfl, hrun, hll, hb⟩
    have ho' : IsOrd ns o' := (run_perm hrun).trans ho
    have hb := hb.mono (show k + (many - (i + 1)) + 1 ≤ _ by omega)
    walk_at "w"
    refine okC_eq (e_free h ho' _) ?_
    walk_at "w"
    refine val_of (ne_nil_I _) ?_
    refine br (fun hne => ?_) (fun _ => ?_)
    · have hne : freeI rs o' ≠ [] := by simpa using hne
      have hpos : 0 < (freeI rs o').length := List.length_pos_iff.mpr hne
      have hle : (freeI rs o').length ≤ 8 := by
        unfold freeI
        rw [List.length_map]
        have := List.length_filter_le (fun i => !adj rs (o'.getD i "") (o'.getD (i + 1) "")) (List.range (o'.length - 1))
        rw [List.length_range] at this
        have := ho'.length_eq
        omega
      walk_at "w"
      refine dr_at (d_pick (by rw [I_len]; exact hpos) (by rw [I_len]; omega)) hb ?_
      intro d cs1 hd hb1
      obtain ⟨j, hj, rfl⟩ := List.mem_map.mp hd
      obtain ⟨o2, st⟩ := freeI_step hj
      walk_at "w"
      refine also (by rw [I_len]; omega) ?_
      walk_at "w"
      rw [cut_last]
      refine okC_eq (e_walked h ho' [j] _) ?_
      rw [show runX rs o' (I [j]) = some o2 from (runX_one rs o' _).trans st]
      walk_at "w"
      refine ⟨l ++ [j], o2, _, _, _, by rw [I_app] <;> rfl, ?_, by rw [List.length_append]; simp only [List.length_cons, List.length_nil]; omega, hb1⟩
      rw [I_app, runX_app, hrun, Option.bind_some]
      exact (runX_one rs o' _).trans st
    · walk_at "w"
      exact ⟨l, o', _, _, _, rfl, hrun, by omega, hb.mono (by omega)⟩
  · rintro s ⟨l, o', t, sm, cs1, rfl, hrun, hll, hb1⟩
    walk_at "w"
    exact end_ret (hb1.lens hb) ⟨⟨l, o', rfl, hrun, hll⟩, hb1.mono (by omega)⟩
end
theorem e_otherwise {ns : List Str} {o g : List Str} (ho : IsOrd ns o) (hg : IsOrd ns g) (l8 : ns.length ≤ 8) (cs : Cells) : sem__law_otherwise [.val (.tuple (S o)), .val (.tuple (S g))] cs = some (.int (invR (fun x => g.idxOf x) o : Nat), cs) := by
  have lo := ho.length_eq
  refine okC_pure ?_
  walk_at "run"
  unfold body__law_otherwise
  walk_at "w"
  refine for_enum (fun i s => ∃ n : Nat, ∃ a p, s = ⟨[.val (.tuple (S o)), .val (.tuple (S g)), .val (.int n), a, p, .emp], cs⟩ ∧ n + invR (fun x => g.idxOf x) (o.drop i) = invR (fun x => g.idxOf x) o) ?_ ?_ ?_
  · exact ⟨0, _, _, rfl, by simp⟩
  · rintro i d s hd ⟨n, a, p, rfl, e⟩
    obtain ⟨x, hx, rfl⟩ : ∃ x, o[i]? = some x ∧ d = .str x := by
      unfold S at hd
      rw [List.getElem?_map] at hd
      obtain ⟨p, hp, e⟩ := Option.map_eq_some_iff.mp hd
      exact ⟨p, hp, e.symm⟩
    obtain ⟨hil, hxe⟩ := List.getElem?_eq_some_iff.mp hx
    have hxg : x ∈ g := hg.mem_iff.mpr (ho.mem_iff.mp (List.mem_of_getElem? hx))
    walk_at "w"
    rw [cut_his, show (S o).drop (i + 1) = S (o.drop (i + 1)) by unfold S; rw [List.map_drop], ones_S]
    refine wl_some (fun y => Item.one (.str y)) (fun y => decide (g.idxOf y < g.idxOf x)) (fun _ => .int 1) ?_ ?_
    · intro y hy
      have hyg : y ∈ g := hg.mem_iff.mpr (ho.mem_iff.mp (List.mem_of_mem_drop hy))
      walk_at "w"
      refine val_of (index_S hyg) ?_
      walk_at "w"
      refine val_of (index_S hxg) ?_
      walk_at "w"
      unfold ix
      refine br_d (fun c => ?_) (fun c => ?_)
      · walk_at "w"
        rw [if_pos (by simp; omega)]
        exact ⟨rfl, rfl⟩
      · rw [if_neg (by simp; omega)]
        exact ⟨rfl, rfl⟩
    have hfl := List.length_filter_le (fun y => decide (g.idxOf y < g.idxOf x)) (o.drop (i + 1))
    rw [List.length_drop] at hfl
    refine also (by rw [List.length_map]; omega) ?_
    walk_at "w"
    rw [List.length_map]
    refine ⟨n + ((o.drop (i + 1)).filter fun y => decide (g.idxOf y < g.idxOf x)).length, _, _, by rw [Int.natCast_add], ?_⟩
    rw [← e, List.drop_eq_getElem_cons hil, hxe]
    simp only [invR]
    omega
  · rintro s ⟨n, a, p, rfl, e⟩
    rw [S_len, List.drop_length] at e
    walk_at "w"
    refine end_ret rfl ⟨?_, rfl⟩
    rw [← e]
    rfl
end W10

end
section
/-! O5: lists that lead, bent. -/
namespace W10
open PySem IR IRP
open PyData (strOk)
theorem eq_optT {x : Option (List Str)} {g : List Str} (ho : ∀ r, x = some r → OkS r) (h : OkS g) : cmpop .eq (optT x) (.tuple (S g)) = some (decide (x = some g)) := by
  cases x with
  | none =>
    show (if (SeqAt.shaped .none && SeqAt.shaped (.tuple (S g))) = true then some (PyData.eqv .none (.tuple (S g))) else Option.none) = _
    rw [sh_S h, show SeqAt.shaped .none = true by decide]
    simp [PyData.eqv]
  | some r =>
    show cmpop .eq (.tuple (S r)) (.tuple (S g)) = _
    rw [eq_St (ho r rfl) h]
    simp
theorem I_take (l : List Int) (n : Nat) : (I l).take n = I (l.take n) := by unfold I; rw [List.map_take]
theorem I_drop (l : List Int) (n : Nat) : (I l).drop n = I (l.drop n) := by unfold I; rw [List.map_drop]
theorem I_rev (l : List Int) : (I l).reverse = I l.reverse := by unfold I; rw [List.map_reverse]
theorem I_rep (n : Nat) (l : List Int) : (List.replicate n (I l)).flatten = I (List.replicate n l).flatten := by
  induction n with
  | zero => rfl
  | succ n ih => rw [List.replicate_succ, List.replicate_succ, List.flatten_cons, List.flatten_cons, ih, I_app]
theorem run_rep {rs : List (Str × Str)} {o : List Str} {l : List Int} (h : runX rs o (I l) = some o) : ∀ n : Nat, runX rs o (I (List.replicate n l).flatten) = some o
  | 0 => rfl
  | n + 1 => by rw [List.replicate_succ, List.flatten_cons, I_app, runX_app, h, Option.bind_some, run_rep h n]
theorem ordOk {ns : List Str} {rs : List (Str × Str)} (h : OkWeb ns rs) {o : List Str} (ho : IsOrd ns o) : OkS o := fun x hx => h.n x (ho.mem_iff.mp hx)
section
variable {X : Cells}
theorem d_list_right {ns : List Str} {rs : List (Str × Str)} (h : OkWeb ns rs) {o g : List Str} (ho : IsOrd ns o) (hg : IsOrd ns g) {l : List Int} (hl : l.length ≤ 200) (run : runX rs o (I l) = some g) :
    Dr X sem__law_list_right [.cell X.length, .val (webD ns rs), .val (.tuple (S o)), .val (.tuple (S g)), .val (.list (I l))] 40 fun d => d = .bool true := by
  have l8 := h.l8
  have lo := ho.length_eq
  refine dr_in fun k cs hb => ?_
  walk_at "run"
  unfold body__law_list_right
  walk_at "w"
  rw [I_len]
  refine dr_at (d_next ?_ ?_) hb ?_
  · omega
  · omega
  rintro _ cs1 ⟨v, rfl, hv⟩ hb1
  walk_at "w"
  rw [cut_lo, I_take]
  have esp : I l = I (l.take v) ++ I (l.drop v) := by rw [← I_app, List.take_append_drop]
  obtain ⟨mid, hmid, hmid2⟩ : ∃ mid, runX rs o (I (l.take v)) = some mid ∧ runX rs mid (I (l.drop v)) = some g := by
    have := run
    rw [esp, runX_app] at this
    exact Option.bind_eq_some_iff.mp this
  have hm : IsOrd ns mid := (run_perm hmid).trans ho
  refine okC_eq (e_walked h ho _ _) ?_
  rw [hmid]
  walk_at "w"
  refine dr_at (d_next ?_ ?_) hb1 ?_
  · omega
  · omega
  rintro _ cs2 ⟨u, rfl, hu⟩ hb2
  walk_at "w"
  rw [show (1 : Int) + (u : Int) = ((1 + u : Nat) : Int) by omega]
  have hb2 := hb2.mono (show k + 25 + (1 + u) ≤ _ by omega)
  refine dr_at (d_wandered h hm (by omega)) hb2 ?_
  rintro _ cs3 ⟨w, mid2, rfl, hw, lw⟩ hb3
  walk_at "w"
  rw [cut_lo, I_take, I_rev]
  refine val_of (b_add_l (by rw [I_len, I_len, List.length_reverse]; omega)) ?_
  rw [← I_app]
  walk_at "w"
  refine dr_at (d_pick (by simp) (by simp)) hb3 ?_
  rintro d cs4 hd hb4
  have hk : ∃ n : Nat, n ≤ 40 ∧ d = .int (n : Int) := by
    simp only [List.mem_cons, List.not_mem_nil, or_false] at hd
    rcases hd with rfl | rfl | rfl
    · exact ⟨0, by omega, rfl⟩
    · exact ⟨1, by omega, rfl⟩
    · exact ⟨40, by omega, rfl⟩
  obtain ⟨n, hn, rfl⟩ := hk
  have lwr : (w ++ w.reverse).length ≤ 12 := by rw [List.length_append, List.length_reverse]; omega
  have lrep : (List.replicate n (w ++ w.reverse)).flatten.length ≤ 480 := by
    have h1 : n * (w ++ w.reverse).length ≤ 40 * 12 := Nat.mul_le_mul hn lwr
    simp only [List.length_flatten, List.map_replicate, List.sum_replicate_nat]
    omega
  walk_at "w"
  refine val_of (b_mul_l (by omega) (by rw [I_len, Int.toNat_natCast]; exact Nat.le_trans (Nat.mul_le_mul hn lwr) (by decide))) ?_
  rw [Int.toNat_natCast, I_rep]
  walk_at "w"
  refine val_of (b_add_l (by rw [I_len, I_len, List.length_take]; omega)) ?_
  rw [← I_app]
  walk_at "w"
  rw [cut_hi, I_drop]
  refine val_of (b_add_l (by rw [I_len, I_len, List.length_append, List.length_take, List.length_drop]; omega)) ?_
  rw [← I_app]
  obtain ⟨L, eL⟩ : ∃ L, L = l.take v ++ (List.replicate n (w ++ w.reverse)).flatten ++ l.drop v := ⟨_, rfl⟩
  rw [← eL]
  have hback : runX rs mid (I (w ++ w.reverse)) = some mid := by
    rw [I_app, runX_app, hw, Option.bind_some, ← I_rev]
    exact run_back hw
  have runL : runX rs o (I L) = some g := by
    rw [eL, I_app, I_app, runX_app, runX_app, hmid, Option.bind_some, run_rep hback n, Option.bind_some, hmid2]
  have lL : L.length ≤ 700 := by
    rw [eL, List.length_append, List.length_append, List.length_take, List.length_drop]
    omega
  walk_at "w"
  have e2 : ones [.list (I l), .list (I L)] = [l, L].map fun m => Item.one (.list (I m)) := rfl
  rw [e2]
  refine for_left (fun m => Item.one (.list (I m))) (fun r s => ∃ sm t a i b cs, s = ⟨[.cell X.length, .val (webD ns rs), .val (.tuple (S o)), .val (.tuple (S g)), .val (.list (I l)), .val (.int v), .val (.list (I w)), .val (.list (I L)), sm, t, a, i, b], cs⟩ ∧ Bud X (k + 12 * r.length) cs) ?_ ?_ ?_
  · exact ⟨_, _, _, _, _, _, rfl, hb4.mono (by simp)⟩
  · rintro m r s ⟨p, hp⟩ ⟨sm, t, a, i, b, cs, rfl, hb⟩
    have hm3 : runX rs o (I m) = some g ∧ m.length ≤ 700 := by
      have : m ∈ [l, L] := by rw [hp]; simp
      simp only [List.mem_cons, List.not_mem_nil, or_false] at this
      rcases this with rfl | rfl
      · exact ⟨run, by omega⟩
      · exact ⟨runL, lL⟩
    rw [List.length_cons] at hb
    walk_at "w"
    refine okC_eq (e_hold h ho hg _ _) ?_
    rw [decide_eq_true hm3.1]
    walk_at "w"
    refine v_rng (n := 3) (by omega) ?_
    refine for_count (fun j s => ∃ t a i b cs, s = ⟨[.cell X.length, .val (webD ns rs), .val (.tuple (S o)), .val (.tuple (S g)), .val (.list (I l)), .val (.int v), .val (.list (I w)), .val (.list (I L)), .val (.list (I m)), t, a, i, b], cs⟩ ∧ Bud X (k + 12 * r.length + 4 * j) cs) ?_ ?_ ?_
    · exact ⟨_, _, _, _, _, rfl, by rw [range_len]; exact hb.mono (by omega)⟩
    · rintro it j s hi ⟨t, a, i, b, cs, rfl, hb⟩
      obtain ⟨i0, _, rfl⟩ := range_one hi
      have hb := hb.mono (show k + 12 * r.length + 4 * j + 1 + 1 + 1 + 1 ≤ _ by omega)
      walk_at "w"
      rw [I_len]
      refine dr_at (d_next ?_ ?_) hb ?_
      · omega
      · omega
      rintro _ cs5 ⟨at_, rfl, hat⟩ hb5
      walk_at "w"
      rw [S_len]
      refine dr_at (d_next ?_ ?_) hb5 ?_
      · omega
      · omega
      rintro _ cs6 ⟨ind, rfl, hind⟩ hb6
      walk_at "w"
      rw [cut_lo, I_take]
      refine val_of (b_add_l (by rw [I_len, List.length_take]; simp only [List.length_cons, List.length_nil]; omega)) ?_
      walk_at "w"
      refine dr_at (d_next ?_ ?_) hb6 ?_
      · omega
      · omega
      rintro _ cs7 ⟨z, rfl, hz⟩ hb7
      walk_at "w"
      rw [show (at_ : Int) + (z : Int) = ((at_ + z : Nat) : Int) by omega, cut_hi, I_drop]
      refine val_of (b_add_l (by rw [List.length_append, I_len, I_len, List.length_take, List.length_drop]; simp only [List.length_cons, List.length_nil]; omega)) ?_
      have eb : I (m.take at_) ++ [PyData.int ((ind : Int) - 1)] ++ I (m.drop (at_ + z)) = I (m.take at_ ++ [(ind : Int) - 1] ++ m.drop (at_ + z)) := by rw [I_app, I_app]; rfl
      rw [eb]
      walk_at "nf"
      refine k_join (fun s => ∃ (b : List Int) , ∃ cs, s = ⟨[.cell X.length, .val (webD ns rs), .val (.tuple (S o)), .val (.tuple (S g)), .val (.list (I l)), .val (.int v), .val (.list (I w)), .val (.list (I L)), .val (.list (I m)), .val (.int i0), .val (.int at_), .val (.int ((ind : Int) - 1)), .val (.list (I b))], cs⟩ ∧ Bud X (k + 12 * r.length + 4 * j) cs) ?_ ?_
      · walk_at "w"
        refine dr_at (d_next ?_ ?_) hb7 ?_
        · omega
        · omega
        rintro _ cs8 ⟨y, rfl, hy⟩ hb8
        walk_at "w"
        refine br_d (fun _ => ?_) (fun _ => ?_)
        · walk_at "w"
          rw [cut_lo, cut_his, I_take, I_drop]
          refine val_of (b_add_l (by rw [I_len, I_len, List.length_take, List.length_drop]; omega)) ?_
          rw [← I_app]
          walk_at "w"
          exact ⟨rfl, _, _, rfl, hb8⟩
        · walk_at "w"
          exact ⟨rfl, _, _, rfl, hb8⟩
      rintro s ⟨b, cs9, rfl, hb9⟩
      walk_at "w"
      refine okC_eq (e_hold h ho hg _ _) ?_
      walk_at "w"
      refine val_of (repr_bool _) ?_
      walk_at "w"
      refine okC_eq (e_walked h ho _ _) ?_
      walk_at "w"
      refine val_of (eq_optT (fun r e => ordOk h ((run_perm e).trans ho)) (ordOk h hg)) ?_
      walk_at "w"
      refine val_of (repr_bool _) ?_
      walk_at "w"
      refine br_f (by simp) ?_
      walk_at "w"
      exact ⟨_, _, _, _, _, rfl, hb9⟩
    · rintro s ⟨t, a, i, b, cs, rfl, hb⟩
      walk_at "w"
      exact ⟨_, _, _, _, _, _, rfl, hb.mono (by omega)⟩
  rintro s ⟨sm, t, a, i, b, cs10, rfl, hb10⟩
  have iv := inv_runs (rk := fun x => g.idxOf x) (ho.nodup_iff.mpr h.nd) (fun x hx y hy e => rank_inj (hg.mem_iff.mpr (ho.mem_iff.mp hx)) (hg.mem_iff.mpr (ho.mem_iff.mp hy)) e) run
  rw [inv_self (rank_sorted (hg.nodup_iff.mpr h.nd)), I_len] at iv
  walk_at "w"
  refine okC_eq (e_otherwise ho hg l8 _) ?_
  walk_at "w"
  refine val_of (b_mod (by decide)) ?_
  walk_at "w"
  rw [I_len]
  refine br_t (by simp; omega) ?_
  walk_at "w"
  refine okC_eq (e_otherwise ho hg l8 _) ?_
  walk_at "w"
  refine end_ret (hb10.lens hb) ⟨?_, hb10.mono (by simp)⟩
  rw [I_len, decide_eq_true (by omega)]
end
end W10

end
section
namespace W10
open PySem PySem.Spec PyProof.Rows L2 IR
def fn : List He.DefD := [
  ⟨("exchanged", none), "exchanged", "exchanged", defArgs st_exchanged, defBody st_exchanged, defScope st_exchanged, [], []⟩,
  ⟨("are_apart", none), "are_apart", "are_apart", defArgs st_are_apart, defBody st_are_apart, defScope st_are_apart, [], []⟩,
  ⟨("can_exchange", none), "can_exchange", "can_exchange", defArgs st_can_exchange, defBody st_can_exchange, defScope st_can_exchange, [], []⟩,
  ⟨("path_right", none), "path_right", "path_right", defArgs st_path_right, defBody st_path_right, defScope st_path_right, [], []⟩,
  ⟨("is_row_of", none), "is_row_of", "is_row_of", defArgs st_is_row_of, defBody st_is_row_of, defScope st_is_row_of, [], []⟩,
  ⟨("are_unlike", none), "are_unlike", "are_unlike", defArgs st_are_unlike, defBody st_are_unlike, defScope st_are_unlike, [], []⟩,
  ⟨("are_places", none), "are_places", "are_places", defArgs st_are_places, defBody st_are_places, defScope st_are_places, [], []⟩,
  ⟨("is_order", none), "is_order", "is_order", defArgs st_is_order, defBody st_is_order, defScope st_is_order, [], []⟩,
  ⟨("need_order", none), "need_order", "need_order", defArgs st_need_order, defBody st_need_order, defScope st_need_order, [], []⟩,
  ⟨("is_road", none), "is_road", "is_road", defArgs st_is_road, defBody st_is_road, defScope st_is_road, [], []⟩,
  ⟨("is_name", none), "is_name", "is_name", defArgs st_is_name, defBody st_is_name, defScope st_is_name, [], []⟩,
  ⟨("is_web_form", none), "is_web_form", "is_web_form", defArgs st_is_web_form, defBody st_is_web_form, defScope st_is_web_form, [], []⟩,
  ⟨("need_web", none), "need_web", "need_web", defArgs st_need_web, defBody st_need_web, defScope st_need_web, [], []⟩,
  ⟨("need_two_orders", none), "need_two_orders", "need_two_orders", defArgs st_need_two_orders, defBody st_need_two_orders, defScope st_need_two_orders, [], []⟩,
  ⟨("exchanges_hold", none), "exchanges_hold", "exchanges_hold", defArgs st_exchanges_hold, defBody st_exchanges_hold, defScope st_exchanges_hold, [], []⟩,
  ⟨("arrows_of", none), "arrows_of", "arrows_of", defArgs st_arrows_of, defBody st_arrows_of, defScope st_arrows_of, [], []⟩,
  ⟨("are_alike", none), "are_alike", "are_alike", defArgs st_are_alike, defBody st_are_alike, defScope st_are_alike, [], []⟩,
  ⟨("_law_otherwise", none), "_law_otherwise", "_law_otherwise", defArgs st__law_otherwise, defBody st__law_otherwise, defScope st__law_otherwise, [], []⟩,
  ⟨("have_road", none), "have_road", "have_road", defArgs st_have_road, defBody st_have_road, defScope st_have_road, [], []⟩,
  ⟨("neighbours_of", none), "neighbours_of", "neighbours_of", defArgs st_neighbours_of, defBody st_neighbours_of, defScope st_neighbours_of, [], []⟩,
  ⟨("is_place", none), "is_place", "is_place", defArgs st_is_place, defBody st_is_place, defScope st_is_place, [], []⟩,
  ⟨("need_place", none), "need_place", "need_place", defArgs st_need_place, defBody st_need_place, defScope st_need_place, [], []⟩,
  ⟨("neighbours", none), "neighbours", "neighbours", defArgs st_neighbours, defBody st_neighbours, defScope st_neighbours, [], []⟩,
  ⟨("_law_walked", none), "_law_walked", "_law_walked", defArgs st__law_walked, defBody st__law_walked, defScope st__law_walked, [], []⟩,
  ⟨("_law_next", none), "_law_next", "_law_next", defArgs st__law_next, defBody st__law_next, defScope st__law_next, [], []⟩,
  ⟨("_law_pick", none), "_law_pick", "_law_pick", defArgs st__law_pick, defBody st__law_pick, defScope st__law_pick, [], []⟩,
  ⟨("_law_free", none), "_law_free", "_law_free", defArgs st__law_free, defBody st__law_free, defScope st__law_free, [], []⟩,
  ⟨("_law_wandered", none), "_law_wandered", "_law_wandered", defArgs st__law_wandered, defBody st__law_wandered, defScope st__law_wandered, [], []⟩,
  ⟨("_law_list_right", none), "_law_list_right", "_law_list_right", defArgs st__law_list_right, defBody st__law_list_right, defScope st__law_list_right, [], []⟩,
  ⟨("path_between", none), "path_between", "path_between", defArgs st_path_between, defBody st_path_between, defScope st_path_between, [], []⟩,
  ⟨("exchanges", none), "exchanges", "exchanges", defArgs st_exchanges, defBody st_exchanges, defScope st_exchanges, [], []⟩,
  ⟨("_law_shuffled", none), "_law_shuffled", "_law_shuffled", defArgs st__law_shuffled, defBody st__law_shuffled, defScope st__law_shuffled, [], []⟩,
  ⟨("_law_order", none), "_law_order", "_law_order", defArgs st__law_order, defBody st__law_order, defScope st__law_order, [], []⟩,
  ⟨("_law_names", none), "_law_names", "_law_names", defArgs st__law_names, defBody st__law_names, defScope st__law_names, [], []⟩,
  ⟨("_law_web", none), "_law_web", "_law_web", defArgs st__law_web, defBody st__law_web, defScope st__law_web, [], []⟩,
  ⟨("_law_spring", none), "_law_spring", "_law_spring", defArgs st__law_spring, defBody st__law_spring, defScope st__law_spring, [], []⟩,
  ⟨("law", none), "law", "law", defArgs st_law, defBody st_law, defScope st_law, [], []⟩]
def fa : List He.Fa := [.glo "exchanged", .glo "are_apart", .glo "can_exchange", .glo "path_right", .glo "is_row_of", .glo "are_unlike", .glo "are_places", .glo "is_order", .glo "need_order", .glo "is_road", .glo "is_name", .glo "is_web_form", .glo "need_web", .glo "need_two_orders", .glo "exchanges_hold", .glo "arrows_of", .glo "are_alike", .glo "_law_otherwise", .glo "have_road", .glo "neighbours_of", .glo "is_place", .glo "need_place", .glo "neighbours", .glo "_law_walked", .glo "_law_next", .glo "_law_pick", .glo "_law_free", .glo "_law_wandered", .glo "_law_list_right", .glo "path_between", .glo "exchanges", .glo "_law_shuffled", .glo "_law_order", .glo "_law_names", .glo "_law_web", .glo "_law_spring", .glo "law", .str "DIGITS" "0123456789", .str "LETTERS" "abcdefghijklmnopqrstuvwxyz", .int "MOST_PLACES" 8, .int "MOST_ROADS" 14, .int "MOST_SIGNS" 8, .free "isinstance", .free "len", .free "list", .free "tuple", .free "sorted", .free "set", .free "int", .free "str", .free "repr", .free "bool", .free "all", .free "any", .free "sum", .free "max", .free "min", .free "range", .free "enumerate", .free "zip", .free "dict", .free "abs", .free "reversed"]
def names0 : List PySem.Str := ["arrows_of", "are_apart", "exchanged", "path_between", "can_exchange", "path_right", "TurnError", "BadWeb", "BadPlace", "BadOrder", "LETTERS", "DIGITS", "MOST_SIGNS", "is_name", "is_row_of", "are_unlike", "MOST_PLACES", "MOST_ROADS", "are_places", "is_road", "is_web_form", "need_web", "is_place", "need_place", "is_order", "need_order", "have_road", "neighbours_of", "need_two_orders", "are_alike"]
def names1 : List PySem.Str := ["exchanges", "exchanges_hold", "neighbours", "_law_spring", "_law_next", "_law_pick", "_law_shuffled", "_law_names", "_law_web", "_law_order", "_law_named", "_law_walked", "_law_free", "_law_wandered", "_law_otherwise", "_law_list_right"]
def names : List PySem.Str := names0 ++ names1
abbrev R : PySem.W.OpenRow := PySem.W.OpenLaw.row PySem.Challenge.rw_allseen_k10_exchanges_put_together
abbrev hk : PySem.W.Hook := He.hookD 4 fa fn
def ob (s : PySem.W.SharedT) : He.AlD := He.obsDG 4 fa fn (HandSHeadRun.getT s)
theorem ob_eq (s : PySem.W.SharedT) : ob s = hk.obs s.abs := He.obsDG_eq (HandSHeadRun.getT_eq s)
theorem run (w : World) : HandSHeadRun.RunEq R (PySem.W.view R.prog [53]) hk ob 4000 names w := by
  intro os
  kernel_rfl
theorem tops {K : PySem.W.Frag} {h : Heap} {mg : Str → Option Value} (X : K.In h) (G : h.Ns mainGlobals mg) (c : He.SaysD fa fn K) : Tops K mg := by
  refine ⟨?_, ?_, ?_, ?_, ?_, ?_, ?_, ?_, ?_, ?_, ?_, ?_, ?_, ?_, ?_, ?_, ?_, ?_, ?_, ?_, ?_, ?_, ?_, ?_, ?_, ?_, ?_, ?_, ?_, ?_, ?_, ?_, ?_, ?_, ?_, ?_, ?_, ?_, ?_, ?_, ?_, ?_, ?_⟩
  · obtain ⟨fd, F⟩ := c.def_ 0 (d := ⟨("exchanged", none), "exchanged", "exchanged", defArgs st_exchanged, defBody st_exchanged, defScope st_exchanged, [], []⟩) rfl
    exact ⟨_, fd, He.glo_ok X G (c.fact 0 (f := .glo "exchanged") rfl), F⟩
  · obtain ⟨fd, F⟩ := c.def_ 1 (d := ⟨("are_apart", none), "are_apart", "are_apart", defArgs st_are_apart, defBody st_are_apart, defScope st_are_apart, [], []⟩) rfl
    exact ⟨_, fd, He.glo_ok X G (c.fact 1 (f := .glo "are_apart") rfl), F⟩
  · obtain ⟨fd, F⟩ := c.def_ 2 (d := ⟨("can_exchange", none), "can_exchange", "can_exchange", defArgs st_can_exchange, defBody st_can_exchange, defScope st_can_exchange, [], []⟩) rfl
    exact ⟨_, fd, He.glo_ok X G (c.fact 2 (f := .glo "can_exchange") rfl), F⟩
  · obtain ⟨fd, F⟩ := c.def_ 3 (d := ⟨("path_right", none), "path_right", "path_right", defArgs st_path_right, defBody st_path_right, defScope st_path_right, [], []⟩) rfl
    exact ⟨_, fd, He.glo_ok X G (c.fact 3 (f := .glo "path_right") rfl), F⟩
  · obtain ⟨fd, F⟩ := c.def_ 4 (d := ⟨("is_row_of", none), "is_row_of", "is_row_of", defArgs st_is_row_of, defBody st_is_row_of, defScope st_is_row_of, [], []⟩) rfl
    exact ⟨_, fd, He.glo_ok X G (c.fact 4 (f := .glo "is_row_of") rfl), F⟩
  · obtain ⟨fd, F⟩ := c.def_ 5 (d := ⟨("are_unlike", none), "are_unlike", "are_unlike", defArgs st_are_unlike, defBody st_are_unlike, defScope st_are_unlike, [], []⟩) rfl
    exact ⟨_, fd, He.glo_ok X G (c.fact 5 (f := .glo "are_unlike") rfl), F⟩
  · obtain ⟨fd, F⟩ := c.def_ 6 (d := ⟨("are_places", none), "are_places", "are_places", defArgs st_are_places, defBody st_are_places, defScope st_are_places, [], []⟩) rfl
    exact ⟨_, fd, He.glo_ok X G (c.fact 6 (f := .glo "are_places") rfl), F⟩
  · obtain ⟨fd, F⟩ := c.def_ 7 (d := ⟨("is_order", none), "is_order", "is_order", defArgs st_is_order, defBody st_is_order, defScope st_is_order, [], []⟩) rfl
    exact ⟨_, fd, He.glo_ok X G (c.fact 7 (f := .glo "is_order") rfl), F⟩
  · obtain ⟨fd, F⟩ := c.def_ 8 (d := ⟨("need_order", none), "need_order", "need_order", defArgs st_need_order, defBody st_need_order, defScope st_need_order, [], []⟩) rfl
    exact ⟨_, fd, He.glo_ok X G (c.fact 8 (f := .glo "need_order") rfl), F⟩
  · obtain ⟨fd, F⟩ := c.def_ 9 (d := ⟨("is_road", none), "is_road", "is_road", defArgs st_is_road, defBody st_is_road, defScope st_is_road, [], []⟩) rfl
    exact ⟨_, fd, He.glo_ok X G (c.fact 9 (f := .glo "is_road") rfl), F⟩
  · obtain ⟨fd, F⟩ := c.def_ 10 (d := ⟨("is_name", none), "is_name", "is_name", defArgs st_is_name, defBody st_is_name, defScope st_is_name, [], []⟩) rfl
    exact ⟨_, fd, He.glo_ok X G (c.fact 10 (f := .glo "is_name") rfl), F⟩
  · obtain ⟨fd, F⟩ := c.def_ 11 (d := ⟨("is_web_form", none), "is_web_form", "is_web_form", defArgs st_is_web_form, defBody st_is_web_form, defScope st_is_web_form, [], []⟩) rfl
    exact ⟨_, fd, He.glo_ok X G (c.fact 11 (f := .glo "is_web_form") rfl), F⟩
  · obtain ⟨fd, F⟩ := c.def_ 12 (d := ⟨("need_web", none), "need_web", "need_web", defArgs st_need_web, defBody st_need_web, defScope st_need_web, [], []⟩) rfl
    exact ⟨_, fd, He.glo_ok X G (c.fact 12 (f := .glo "need_web") rfl), F⟩
  · obtain ⟨fd, F⟩ := c.def_ 13 (d := ⟨("need_two_orders", none), "need_two_orders", "need_two_orders", defArgs st_need_two_orders, defBody st_need_two_orders, defScope st_need_two_orders, [], []⟩) rfl
    exact ⟨_, fd, He.glo_ok X G (c.fact 13 (f := .glo "need_two_orders") rfl), F⟩
  · obtain ⟨fd, F⟩ := c.def_ 14 (d := ⟨("exchanges_hold", none), "exchanges_hold", "exchanges_hold", defArgs st_exchanges_hold, defBody st_exchanges_hold, defScope st_exchanges_hold, [], []⟩) rfl
    exact ⟨_, fd, He.glo_ok X G (c.fact 14 (f := .glo "exchanges_hold") rfl), F⟩
  · obtain ⟨fd, F⟩ := c.def_ 15 (d := ⟨("arrows_of", none), "arrows_of", "arrows_of", defArgs st_arrows_of, defBody st_arrows_of, defScope st_arrows_of, [], []⟩) rfl
    exact ⟨_, fd, He.glo_ok X G (c.fact 15 (f := .glo "arrows_of") rfl), F⟩
  · obtain ⟨fd, F⟩ := c.def_ 16 (d := ⟨("are_alike", none), "are_alike", "are_alike", defArgs st_are_alike, defBody st_are_alike, defScope st_are_alike, [], []⟩) rfl
    exact ⟨_, fd, He.glo_ok X G (c.fact 16 (f := .glo "are_alike") rfl), F⟩
  · obtain ⟨fd, F⟩ := c.def_ 17 (d := ⟨("_law_otherwise", none), "_law_otherwise", "_law_otherwise", defArgs st__law_otherwise, defBody st__law_otherwise, defScope st__law_otherwise, [], []⟩) rfl
    exact ⟨_, fd, He.glo_ok X G (c.fact 17 (f := .glo "_law_otherwise") rfl), F⟩
  · obtain ⟨fd, F⟩ := c.def_ 18 (d := ⟨("have_road", none), "have_road", "have_road", defArgs st_have_road, defBody st_have_road, defScope st_have_road, [], []⟩) rfl
    exact ⟨_, fd, He.glo_ok X G (c.fact 18 (f := .glo "have_road") rfl), F⟩
  · obtain ⟨fd, F⟩ := c.def_ 19 (d := ⟨("neighbours_of", none), "neighbours_of", "neighbours_of", defArgs st_neighbours_of, defBody st_neighbours_of, defScope st_neighbours_of, [], []⟩) rfl
    exact ⟨_, fd, He.glo_ok X G (c.fact 19 (f := .glo "neighbours_of") rfl), F⟩
  · obtain ⟨fd, F⟩ := c.def_ 20 (d := ⟨("is_place", none), "is_place", "is_place", defArgs st_is_place, defBody st_is_place, defScope st_is_place, [], []⟩) rfl
    exact ⟨_, fd, He.glo_ok X G (c.fact 20 (f := .glo "is_place") rfl), F⟩
  · obtain ⟨fd, F⟩ := c.def_ 21 (d := ⟨("need_place", none), "need_place", "need_place", defArgs st_need_place, defBody st_need_place, defScope st_need_place, [], []⟩) rfl
    exact ⟨_, fd, He.glo_ok X G (c.fact 21 (f := .glo "need_place") rfl), F⟩
  · obtain ⟨fd, F⟩ := c.def_ 22 (d := ⟨("neighbours", none), "neighbours", "neighbours", defArgs st_neighbours, defBody st_neighbours, defScope st_neighbours, [], []⟩) rfl
    exact ⟨_, fd, He.glo_ok X G (c.fact 22 (f := .glo "neighbours") rfl), F⟩
  · obtain ⟨fd, F⟩ := c.def_ 23 (d := ⟨("_law_walked", none), "_law_walked", "_law_walked", defArgs st__law_walked, defBody st__law_walked, defScope st__law_walked, [], []⟩) rfl
    exact ⟨_, fd, He.glo_ok X G (c.fact 23 (f := .glo "_law_walked") rfl), F⟩
  · obtain ⟨fd, F⟩ := c.def_ 24 (d := ⟨("_law_next", none), "_law_next", "_law_next", defArgs st__law_next, defBody st__law_next, defScope st__law_next, [], []⟩) rfl
    exact ⟨_, fd, He.glo_ok X G (c.fact 24 (f := .glo "_law_next") rfl), F⟩
  · obtain ⟨fd, F⟩ := c.def_ 25 (d := ⟨("_law_pick", none), "_law_pick", "_law_pick", defArgs st__law_pick, defBody st__law_pick, defScope st__law_pick, [], []⟩) rfl
    exact ⟨_, fd, He.glo_ok X G (c.fact 25 (f := .glo "_law_pick") rfl), F⟩
  · obtain ⟨fd, F⟩ := c.def_ 26 (d := ⟨("_law_free", none), "_law_free", "_law_free", defArgs st__law_free, defBody st__law_free, defScope st__law_free, [], []⟩) rfl
    exact ⟨_, fd, He.glo_ok X G (c.fact 26 (f := .glo "_law_free") rfl), F⟩
  · obtain ⟨fd, F⟩ := c.def_ 27 (d := ⟨("_law_wandered", none), "_law_wandered", "_law_wandered", defArgs st__law_wandered, defBody st__law_wandered, defScope st__law_wandered, [], []⟩) rfl
    exact ⟨_, fd, He.glo_ok X G (c.fact 27 (f := .glo "_law_wandered") rfl), F⟩
  · obtain ⟨fd, F⟩ := c.def_ 28 (d := ⟨("_law_list_right", none), "_law_list_right", "_law_list_right", defArgs st__law_list_right, defBody st__law_list_right, defScope st__law_list_right, [], []⟩) rfl
    exact ⟨_, fd, He.glo_ok X G (c.fact 28 (f := .glo "_law_list_right") rfl), F⟩
  · obtain ⟨fd, F⟩ := c.def_ 29 (d := ⟨("path_between", none), "path_between", "path_between", defArgs st_path_between, defBody st_path_between, defScope st_path_between, [], []⟩) rfl
    exact ⟨_, fd, He.glo_ok X G (c.fact 29 (f := .glo "path_between") rfl), F⟩
  · obtain ⟨fd, F⟩ := c.def_ 30 (d := ⟨("exchanges", none), "exchanges", "exchanges", defArgs st_exchanges, defBody st_exchanges, defScope st_exchanges, [], []⟩) rfl
    exact ⟨_, fd, He.glo_ok X G (c.fact 30 (f := .glo "exchanges") rfl), F⟩
  · obtain ⟨fd, F⟩ := c.def_ 31 (d := ⟨("_law_shuffled", none), "_law_shuffled", "_law_shuffled", defArgs st__law_shuffled, defBody st__law_shuffled, defScope st__law_shuffled, [], []⟩) rfl
    exact ⟨_, fd, He.glo_ok X G (c.fact 31 (f := .glo "_law_shuffled") rfl), F⟩
  · obtain ⟨fd, F⟩ := c.def_ 32 (d := ⟨("_law_order", none), "_law_order", "_law_order", defArgs st__law_order, defBody st__law_order, defScope st__law_order, [], []⟩) rfl
    exact ⟨_, fd, He.glo_ok X G (c.fact 32 (f := .glo "_law_order") rfl), F⟩
  · obtain ⟨fd, F⟩ := c.def_ 33 (d := ⟨("_law_names", none), "_law_names", "_law_names", defArgs st__law_names, defBody st__law_names, defScope st__law_names, [], []⟩) rfl
    exact ⟨_, fd, He.glo_ok X G (c.fact 33 (f := .glo "_law_names") rfl), F⟩
  · obtain ⟨fd, F⟩ := c.def_ 34 (d := ⟨("_law_web", none), "_law_web", "_law_web", defArgs st__law_web, defBody st__law_web, defScope st__law_web, [], []⟩) rfl
    exact ⟨_, fd, He.glo_ok X G (c.fact 34 (f := .glo "_law_web") rfl), F⟩
  · obtain ⟨fd, F⟩ := c.def_ 35 (d := ⟨("_law_spring", none), "_law_spring", "_law_spring", defArgs st__law_spring, defBody st__law_spring, defScope st__law_spring, [], []⟩) rfl
    exact ⟨_, fd, He.glo_ok X G (c.fact 35 (f := .glo "_law_spring") rfl), F⟩
  · obtain ⟨fd, F⟩ := c.def_ 36 (d := ⟨("law", none), "law", "law", defArgs st_law, defBody st_law, defScope st_law, [], []⟩) rfl
    exact ⟨_, fd, He.glo_ok X G (c.fact 36 (f := .glo "law") rfl), F⟩
  · exact He.str_ok X G (c.fact 37 (f := .str "DIGITS" "0123456789") rfl)
  · exact He.str_ok X G (c.fact 38 (f := .str "LETTERS" "abcdefghijklmnopqrstuvwxyz") rfl)
  · exact He.int_ok X G (c.fact 39 (f := .int "MOST_PLACES" 8) rfl)
  · exact He.int_ok X G (c.fact 40 (f := .int "MOST_ROADS" 14) rfl)
  · exact He.int_ok X G (c.fact 41 (f := .int "MOST_SIGNS" 8) rfl)
  · intro y hy
    simp only [bltNames, List.mem_cons, List.not_mem_nil, or_false] at hy
    rcases hy with rfl | rfl | rfl | rfl | rfl | rfl | rfl | rfl | rfl | rfl | rfl | rfl | rfl | rfl | rfl | rfl | rfl | rfl | rfl | rfl | rfl
    · exact He.free_ok X G (c.fact 42 (f := .free "isinstance") rfl)
    · exact He.free_ok X G (c.fact 43 (f := .free "len") rfl)
    · exact He.free_ok X G (c.fact 44 (f := .free "list") rfl)
    · exact He.free_ok X G (c.fact 45 (f := .free "tuple") rfl)
    · exact He.free_ok X G (c.fact 46 (f := .free "sorted") rfl)
    · exact He.free_ok X G (c.fact 47 (f := .free "set") rfl)
    · exact He.free_ok X G (c.fact 48 (f := .free "int") rfl)
    · exact He.free_ok X G (c.fact 49 (f := .free "str") rfl)
    · exact He.free_ok X G (c.fact 50 (f := .free "repr") rfl)
    · exact He.free_ok X G (c.fact 51 (f := .free "bool") rfl)
    · exact He.free_ok X G (c.fact 52 (f := .free "all") rfl)
    · exact He.free_ok X G (c.fact 53 (f := .free "any") rfl)
    · exact He.free_ok X G (c.fact 54 (f := .free "sum") rfl)
    · exact He.free_ok X G (c.fact 55 (f := .free "max") rfl)
    · exact He.free_ok X G (c.fact 56 (f := .free "min") rfl)
    · exact He.free_ok X G (c.fact 57 (f := .free "range") rfl)
    · exact He.free_ok X G (c.fact 58 (f := .free "enumerate") rfl)
    · exact He.free_ok X G (c.fact 59 (f := .free "zip") rfl)
    · exact He.free_ok X G (c.fact 60 (f := .free "dict") rfl)
    · exact He.free_ok X G (c.fact 61 (f := .free "abs") rfl)
    · exact He.free_ok X G (c.fact 62 (f := .free "reversed") rfl)
end W10
open PySem PySem.W PySem.Calls PyProof.Rows
theorem W10.holds_of (hf : ∀ ns : List Int, ns.length ≤ 63 → ∃ cs', W10.sem_law [.brw (.list (ns.map .int))] [] = some (.bool true, cs')) : PySem.Challenge.rw_allseen_k10_exchanges_put_together.Holds := by
  w_on; o_law
  refine HandSHeadRun.head_any (r := OpenLaw.row PySem.Challenge.rw_allseen_k10_exchanges_put_together) (q := view (OpenLaw.row PySem.Challenge.rw_allseen_k10_exchanges_put_together).prog [53]) (H := W10.hk) (ob := W10.ob) (M := 4000) (loose := W10.names) (d := HandSHeadRun.topDef (OpenLaw.row PySem.Challenge.rw_allseen_k10_exchanges_put_together).prog 53) (kwd := []) W10.ob_eq
    (by kernel_rfl) (fun s => by kernel_rfl) W10.run (by kernel_rfl) (by kernel_rfl) (by kernel_rfl) (by rfl) (by first | assumption | decide +kernel) (by decide +kernel) ⟨rfl, rfl, rfl, rfl, rfl, by decide +kernel⟩ ?hw ?hc
  case hw => w_witness2
  case hc =>
    refine IR.law_end (l := PySem.Challenge.rw_allseen_k10_exchanges_put_together) (n := 63) (k := 10) (x := "script") (fs := W10.sem_law) rfl (by decide) (by kernel_rfl) ⟨rfl, by decide, by decide⟩ ?F hf
    intro w h mg Y G
    obtain ⟨K, KX, c⟩ := Y
    refine ⟨K, KX, fun a ha base => ?_⟩
    have e : (HandSHeadRun.topDef (OpenLaw.row PySem.Challenge.rw_allseen_k10_exchanges_put_together).prog 53).name = ("law" : PySem.Str) := by kernel_rfl
    rw [e]
    exact W10.fn_law ((W10.tops KX G c).cut ha)

end
section
/-! O6: the law. -/
namespace W10
open PySem IR IRP
open PyData (strOk)
theorem lfAll_I : ∀ ns : List Int, lfAll (ns.map PyData.int) = true
  | [] => by simp [lfAll]
  | n :: ns => by simp [lfAll, lf, lfAll_I ns]
theorem repr_web {ns : List Str} {rs : List (Str × Str)} (h : OkWeb ns rs) : reprD (webD ns rs) = some (.str (webD ns rs).shown) := by
  have w1 := weight_S h.nm
  have w2 := weight_R (rs := rs) fun r hr => ⟨h.nm _ (h.rd r hr).1, h.nm _ (h.rd r hr).2.1⟩
  have l8 := h.l8
  have l14 := h.l14
  have dr := depth_R rs
  refine repr_ok ?_ ?_ ?_ ?_ ?_
  · simp [PyData.canLay0, PyData.canLayAll0, lay_S h.n, lay_R h.r]
  · simp [PyData.showable, PyData.showableAll, showable_S, showable_R]
  · simp [PyData.intsShort, PyData.intsShortAll, short_S, short_R]
  · simp only [PyData.weight, PyData.weightAll]
    omega
  · simp only [PyData.depth, PyData.depthAll, depth_S]
    omega
theorem e_spring {script : List Int} {k : Nat} (hk : k ≤ 3) (hl : script.length ≤ 63) (cs : Cells) : OkC sem__law_spring [.brw (.list (script.map .int)), .val (.int k)] cs fun d cs' => ∃ a b c : Int, d = .list [.int a, .int b, .int c] ∧ (∀ X : Cells, Bud X 100000 (X ++ [[a, b, c]])) ∧ cs' = cs := by
  have rd : rdSlot cs (.brw (.list (script.map .int))) = some (.list (script.map .int)) := if_pos (lfAll_I script)
  walk_at "run"
  unfold body__law_spring
  refine k_asgV_any (fun d => ∃ i : Int, d = .int i) (fun c => c = cs) ?_ ?_
  · walk_at "w"
    refine val_of rd ?_
    walk_at "w"
    refine br_d (fun hl => ?_) (fun _ => ?_)
    · rw [List.length_map] at hl
      walk_at "w"
      refine val_of rd ?_
      walk_at "w"
      have e : idxD (.list (script.map .int)) (.int k) = some (.int (script[k]'(by omega))) := by
        show L2.atI (script.map PyData.int) (k : Int) = _
        rw [at_nat, List.getElem?_map, List.getElem?_eq_getElem (show k < script.length by omega)]
        rfl
      refine val_of e ?_
      exact ⟨rfl, ⟨_, rfl⟩, rfl⟩
    · walk_at "w"
      refine val_of (b_mul (by unfold mulOk; simp)) ?_
      walk_at "w"
      refine val_of rd ?_
      walk_at "w"
      refine val_of (b_mul (by unfold mulOk; simp)) ?_
      walk_at "w"
      exact ⟨rfl, ⟨_, rfl⟩, rfl⟩
  rintro _ cs1 ⟨cell, rfl⟩ hcs
  subst hcs
  walk_at "w"
  refine v_pow (n := 18) ?_ (by omega)
  walk_at "w"
  refine val_of (b_mul (by unfold mulOk; simp)) ?_
  walk_at "w"
  refine val_of (b_mul (by unfold mulOk; simp)) ?_
  walk_at "w"
  refine v_pow (n := 36) ?_ (by omega)
  walk_at "w"
  refine val_of (b_mod (by decide)) ?_
  walk_at "w"
  have w0 : 0 ≤ (cell * 65537 + 7919 * (k : Int) + 271) % (10 ^ 36 + 67) := Int.emod_nonneg _ (by decide)
  have w1 : (cell * 65537 + 7919 * (k : Int) + 271) % (10 ^ 36 + 67) < 10 ^ 36 + 67 := Int.emod_lt_of_pos _ (by decide)
  refine end_ret rfl ⟨_, _, _, rfl, fun X => ⟨_, _, _, rfl, w0, ?_, by omega, by omega⟩, rfl⟩
  omega
theorem ne_II (a b : List Int) : cmpop .ne (.list (I a)) (.list (I b)) = some (!decide (a = b)) := by
  show (if (SeqAt.shaped (.list (I a)) && SeqAt.shaped (.list (I b))) = true then some (PyData.eqv (.list (I a)) (.list (I b))) else Option.none).map (!·) = _
  rw [sh_I, sh_I]
  simp only [PyData.eqv, eqvAll_I]
  rfl
theorem eq_bb (a b : Bool) : cmpop .eq (.bool a) (.bool b) = some (decide (a = b)) := by cases a <;> cases b <;> decide
theorem ne_nn : cmpop .ne (.list []) (.list []) = some false := by decide
theorem wl_ones_none {ds : List D} {vs : List Nat} {tg : Item → State → Option State} {ft : State → Option (Bool × State)} {fe : State → Option (D × State)} {s : State} {Q : List D → State → Prop} (h : ∀ d ∈ ds, OkT vs tg ft fe (.one d) s fun o cs => o = none ∧ cs = s.cs) (q : Q [] s) : OkLc vs tg ft fe (ones ds) s Q := by
  refine wl_map (fun d => Item.one d) (fun _ => none) (l := ds) h ?_
  have : ds.filterMap (fun _ => (none : Option D)) = [] := by simp
  rw [this]
  exact q
theorem filt_none {α : Type} (l : List α) : l.filter (fun _ => false) = [] := by simp
/-- a run that ends elsewhere -/
theorem run_not {rs : List (Str × Str)} {o g : List Str} (nd : o.Nodup) (ha : arrS rs o ≠ arrS rs g) (ds : List D) : decide (runX rs o ds = some g) = false := by
  refine decide_eq_false fun e => ha ?_
  exact (run_arr nd e).symm
theorem run_bad {rs : List (Str × Str)} {o m g : List Str} {l : List Int} {d : D} (h : runX rs o (I l) = some m) (hd : stepX rs m d = none) : decide (runX rs o (I l ++ [d]) = some g) = false := by
  rw [runX_app, h, Option.bind_some, runX_one, hd]
  simp
set_option maxHeartbeats 0 in
theorem law_plain (ss : List Int) (hss : ss.length ≤ 63) : ∃ cs', sem_law [.brw (.list (ss.map .int))] [] = some (.bool true, cs') := by
  have rd : ∀ cs, rdSlot cs (.brw (.list (ss.map .int))) = some (.list (ss.map .int)) := fun _ => if_pos (lfAll_I ss)
  suffices q : OkC sem_law [.brw (.list (ss.map .int))] [] fun d _ => d = .bool true by
    obtain ⟨d, cs', e, rfl⟩ := q
    exact ⟨cs', e⟩
  refine okC_run rfl ?_
  have e0 : (⟨([.brw (.list (ss.map .int))] : List IR.Arg).map argSlot ++ List.replicate (14 - 1) .emp, []⟩ : State) = ⟨[.brw (.list (ss.map .int)), .emp, .emp, .emp, .emp, .emp, .emp, .emp, .emp, .emp, .emp, .emp, .emp, .emp], []⟩ := rfl
  rw [e0]
  unfold body_law
  walk_at "w"
  refine val_of (rd []) ?_
  walk_at "w"
  rw [List.length_map]
  have em : ∃ n : Nat, n ≤ 3 ∧ (if (if (3 : Int) < (ss.length : Int) then 3 else (ss.length : Int)) > 2 then (if (3 : Int) < (ss.length : Int) then 3 else (ss.length : Int)) else 2) = (n : Int) := by
    by_cases c : 3 ≤ ss.length
    · refine ⟨3, by omega, ?_⟩
      by_cases c2 : (3 : Int) < (ss.length : Int)
      · rw [if_pos c2]; rfl
      · rw [if_neg c2, if_pos (by omega)]; omega
    · refine ⟨2, by omega, ?_⟩
      rw [if_neg (by omega)]
      rfl
  obtain ⟨n3, hn3, em⟩ := em
  rw [em]
  refine v_rng (by omega) ?_
  refine for_range (fun _ s => ∃ t1 t2 t3 t4 t5 t6 t7 t8 t9 t10 t11 t12 t13 cs, s = ⟨[.brw (.list (ss.map .int)), t1, t2, t3, t4, t5, t6, t7, t8, t9, t10, t11, t12, t13], cs⟩) ?_ ?_ ?_
  · exact ⟨_, _, _, _, _, _, _, _, _, _, _, _, _, _, rfl⟩
  · rintro k s hk ⟨t1, t2, t3, t4, t5, t6, t7, t8, t9, t10, t11, t12, t13, X, rfl⟩
    walk_at "w"
    refine OkC.mono (e_spring (by omega) hss X) ?_
    rintro _ Y ⟨a, b, c, rfl, hb, hY⟩
    subst hY
    refine ⟨_, rfl, also rfl ?_⟩
    refine val_of (a := [a, b, c]) rfl ?_
    have hb := (hb Y).mono (show 1000 + 200 + 1 ≤ _ by omega)
    walk_at "w"
    refine dr_at (d_next ?_ ?_) hb ?_
    · omega
    · omega
    rintro _ cs1 ⟨v, rfl, hv⟩ hb1
    walk_at "w"
    rw [show (1 : Int) + (v : Int) = ((1 + v : Nat) : Int) by omega]
    refine dr_at (d_web (by omega) (by omega)) hb1 ?_
    rintro _ cs2 ⟨ns, rs, rfl, hw, hn⟩ hb2
    have hb2 := hb2.mono (show 900 + 8 ≤ _ by omega)
    have l8 := hw.l8
    walk_at "w"
    refine dr_at (d_order l8) hb2 ?_
    rintro _ cs3 ⟨one, rfl, ho1⟩ hb3
    walk_at "w"
    refine val_of (repr_web hw) ?_
    walk_at "w"
    have hb3 := hb3.mono (show 800 + 20 ≤ _ by omega)
    refine dr_at (d_wandered hw ho1 (many := 20) (by omega)) hb3 ?_
    rintro _ cs4 ⟨w1, two, rfl, run12, _⟩ hb4
    have ho2 : IsOrd ns two := (run_perm run12).trans ho1
    walk_at "w"
    refine okC_eq (e_walked hw ho1 _ _) ?_
    rw [run12]
    walk_at "w"
    have hb4 := hb4.mono (show 700 + 9 ≤ _ by omega)
    refine dr_at (d_wandered hw ho2 (many := 9) (by omega)) hb4 ?_
    rintro _ cs5 ⟨w2, three, rfl, run23, _⟩ hb5
    have ho3 : IsOrd ns three := (run_perm run23).trans ho2
    walk_at "w"
    refine okC_eq (e_walked hw ho2 _ _) ?_
    rw [run23]
    walk_at "w"
    have nd1 := ho1.nodup_iff.mpr hw.nd
    have nd2 := ho2.nodup_iff.mpr hw.nd
    obtain ⟨d1, x1, _, y1⟩ := e_exchanges hw ho1 ho2 cs5
    obtain ⟨f1, rfl, r12, lf1⟩ := y1 (run_arr nd1 run12).symm
    obtain ⟨d2, x2, _, y2⟩ := e_exchanges hw ho2 ho3 cs5
    obtain ⟨f2, rfl, r23, lf2⟩ := y2 (run_arr nd2 run23).symm
    have r13 : runX rs one (I (f1 ++ f2)) = some three := by rw [I_app, runX_app, r12, Option.bind_some, r23]
    have lf12 : (f1 ++ f2).length ≤ 200 := by rw [List.length_append]; omega
    refine okC_eq x1 ?_
    walk_at "w"
    refine okC_eq x2 ?_
    walk_at "w"
    refine okC_eq x1 ?_
    walk_at "w"
    refine val_of (ne_II f1 f1) ?_
    refine br_f (by simp) ?_
    walk_at "w"
    refine val_of (b_add_l (by rw [I_len, I_len]; omega)) ?_
    rw [← I_app]
    walk_at "w"
    refine okC_eq (e_hold hw ho1 ho3 _ _) ?_
    rw [decide_eq_true r13]
    walk_at "w"
    rw [I_rev]
    refine okC_eq (e_hold hw ho2 ho1 _ _) ?_
    rw [decide_eq_true (by rw [← I_rev]; exact run_back r12)]
    walk_at "w"
    have hb5 := hb5.mono (show 600 + 40 ≤ _ by omega)
    refine dr_at (d_list_right hw ho1 ho2 (by omega) r12) hb5 ?_
    rintro _ cs6 rfl hb6
    walk_at "w"
    refine val_of (b_add_l (by rw [I_len, I_len]; omega)) ?_
    rw [← I_app]
    walk_at "w"
    have hb6 := hb6.mono (show 500 + 40 ≤ _ by omega)
    refine dr_at (d_list_right hw ho1 ho3 lf12 r13) hb6 ?_
    rintro _ cs7 rfl hb7
    walk_at "w"
    have hb7 := hb7.mono (show 400 + 8 ≤ _ by omega)
    refine dr_at (d_order l8) hb7 ?_
    rintro _ cs8 ⟨drawn, rfl, ho4⟩ hb8
    walk_at "w"
    obtain ⟨d4, x4, z4, y4⟩ := e_exchanges hw ho1 ho4 cs8
    refine okC_eq x4 ?_
    have odd : ∀ th ∈ ([.none, .tuple (I f1), .list (I f1 ++ [.none]), .list (I f1 ++ [.bool true]), .list ([.str "0"] ++ I f1), .int 0, .list (I f1 ++ [.int (-1)]), .list (I f1 ++ [.int ((one.length : Int) - 1)])] : List D), ∀ cs, sem_exchanges_hold [.val (webD ns rs), .val (.tuple (S one)), .val (.tuple (S two)), .val th] cs = some (.bool false, cs) := by
      intro th hth cs
      simp only [List.mem_cons, List.not_mem_nil, or_false] at hth
      rcases hth with rfl | rfl | rfl | rfl | rfl | rfl | rfl | rfl
      · exact e_hold_bad hw ho1 ho2 rfl cs
      · exact e_hold_bad hw ho1 ho2 rfl cs
      · rw [e_hold hw ho1 ho2, run_bad r12 rfl]
      · rw [e_hold hw ho1 ho2, run_bad r12 rfl]
      · rw [e_hold hw ho1 ho2]
        rfl
      · exact e_hold_bad hw ho1 ho2 rfl cs
      · rw [e_hold hw ho1 ho2, run_bad r12 (by rw [step_int, if_neg (fun q => by omega)])]
      · have e1 := ho1.length_eq
        have e2 := ho2.length_eq
        rw [e_hold hw ho1 ho2, run_bad r12 (by rw [step_int, if_neg (fun q => by omega)])]
    generalize hkept : (webD ns rs).shown = kept
    walk_at "nf"
    refine k_join (fun s => ∃ cs, s = ⟨[.brw (.list (ss.map .int)), .val (.int k), .cell Y.length, .val (webD ns rs), .val (.tuple (S one)), .val (.str kept), .val (.tuple (S two)), .val (.tuple (S three)), .val (.list (I f1)), .val (.list (I f2)), .val (.tuple (S drawn)), .val d4, t12, t13], cs⟩) ?_ ?_
    · by_cases ha : arrS rs one = arrS rs drawn
      · obtain ⟨f4, rfl, r14, lf4⟩ := y4 ha
        walk_at "w"
        refine okC_eq (e_alike hw ho1 ho4 _) ?_
        rw [decide_eq_true ha]
        walk_at "w"
        refine val_of (eq_bb _ _) ?_
        walk_at "w"
        have hb8 := hb8.mono (show 300 + 40 ≤ _ by omega)
        refine dr_at (d_list_right hw ho1 ho4 (by omega) r14) hb8 ?_
        rintro _ cs9 rfl hb9
        walk_at "w"
        exact ⟨rfl, _, rfl⟩
      · obtain rfl := z4 ha
        walk_at "w"
        refine okC_eq (e_alike hw ho1 ho4 _) ?_
        rw [decide_eq_false ha]
        walk_at "w"
        refine val_of (eq_bb _ _) ?_
        walk_at "w"
        exact ⟨rfl, _, rfl⟩
    rintro s ⟨cs9, rfl⟩
    refine k_join (fun s => ∃ cs, s = ⟨[.brw (.list (ss.map .int)), .val (.int k), .cell Y.length, .val (webD ns rs), .val (.tuple (S one)), .val (.str kept), .val (.tuple (S two)), .val (.tuple (S three)), .val (.list (I f1)), .val (.list (I f2)), .val (.tuple (S drawn)), .val d4, t12, t13], cs⟩) ?_ ?_
    · by_cases ha : arrS rs one = arrS rs drawn
      · obtain ⟨f4, rfl, r14, lf4⟩ := y4 ha
        walk_at "w"
        exact ⟨rfl, _, rfl⟩
      · obtain rfl := z4 ha
        have none_ : ∀ th ∈ ([.none, .list [], .list (I f1), .list [.int 0], .list (I f1 ++ I f2)] : List D), ∀ cs, sem_exchanges_hold [.val (webD ns rs), .val (.tuple (S one)), .val (.tuple (S drawn)), .val th] cs = some (.bool false, cs) := by
          intro th hth cs
          simp only [List.mem_cons, List.not_mem_nil, or_false] at hth
          rcases hth with rfl | rfl | rfl | rfl | rfl
          · exact e_hold_bad hw ho1 ho4 rfl cs
          · rw [e_hold hw ho1 ho4, run_not nd1 ha]
          · rw [e_hold hw ho1 ho4, run_not nd1 ha]
          · rw [e_hold hw ho1 ho4, run_not nd1 ha]
          · rw [e_hold hw ho1 ho4, run_not nd1 ha]
        walk_at "w"
        refine val_of (b_add_l (by rw [I_len, I_len]; omega)) ?_
        walk_at "w"
        refine wl_some (fun d => Item.one d) (fun _ => false) (fun d => d) (l := [.none, .list [], .list (I f1), .list [.int 0], .list (I f1 ++ I f2)]) ?_ ?_
        · intro th hth
          walk_at "w"
          refine okC_eq (none_ th hth _) ?_
          walk_at "w"
          exact ⟨rfl, rfl⟩
        rw [filt_none]
        walk_at "w"
        refine val_of ne_nn ?_
        walk_at "w"
        exact ⟨rfl, _, rfl⟩
    rintro s ⟨cs10, rfl⟩
    walk_at "w"
    refine val_of (b_add_l (by rw [I_len]; simp only [List.length_cons, List.length_nil]; omega)) ?_
    walk_at "w"
    refine val_of (b_add_l (by rw [I_len]; simp only [List.length_cons, List.length_nil]; omega)) ?_
    walk_at "w"
    refine val_of (b_add_l (by rw [I_len]; simp only [List.length_cons, List.length_nil]; omega)) ?_
    walk_at "w"
    refine val_of (b_add_l (by rw [I_len]; simp only [List.length_cons, List.length_nil]; omega)) ?_
    walk_at "w"
    refine val_of (b_add_l (by rw [I_len]; simp only [List.length_cons, List.length_nil]; omega)) ?_
    walk_at "w"
    rw [S_len]
    refine wl_ones_none ?_ ?_
    · intro th hth
      walk_at "w"
      refine okC_eq (odd th hth _) ?_
      walk_at "w"
      exact ⟨rfl, rfl⟩
    walk_at "w"
    refine val_of ne_nn ?_
    walk_at "w"
    refine val_of (repr_web hw) ?_
    rw [hkept]
    walk_at "w"
    refine br_f (by simp) ?_
    walk_at "w"
    exact ⟨_, _, _, _, _, _, _, _, _, _, _, _, _, _, rfl⟩
  · rintro s ⟨t1, t2, t3, t4, t5, t6, t7, t8, t9, t10, t11, t12, t13, cs, rfl⟩
    walk_at "w"
    exact (rfl : _ = PyData.bool true)
end W10
theorem PySem.Challenge.cw_allseen_k10_exchanges_put_together_holds : PySem.Challenge.rw_allseen_k10_exchanges_put_together.Holds := by
  exact W10.holds_of W10.law_plain

end
