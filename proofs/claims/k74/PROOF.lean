import PyProof.Rows.All
import HandS.ForMost
import HandS.Lambda
import HandS.Zip
import HandS.Deep
import HandS.IsInst
import HandS.SortOrd
import HandS.DictComp
import HandS.Conv
import KE.KDictKeyed
import KE.LtSeq
import HandS.SortInts
import HandS.Style
import HandS.TupAny
import HandS.Flow
import HandS.ExcOwn
import HandS.HeadHook2
import PyProof.ExcBaseAll.ValueError
import HandS.ExcIs
import HandS.ExcValue
import HandS.AnyAll
import HandS.Defaults
import HandS.Head0
import HandS.Head1
import HandS.Head2
import HandS.HeadEnd
import HandS.HeadHook1
import HandS.HeadWalk
import HandS.TupSets
import PySem.Challenge.RW_oncefound_k74_lots_of_quartets_judged
set_option Elab.async false
set_option linter.all false
set_option maxRecDepth 100000
set_option maxHeartbeats 4000000
/-! A small core language with an evaluator. -/
namespace Ev
open PySem
open Classical

/-! ### values, the store -/
inductive W where
  | non
  | bl (b : Bool)
  | int (i : Int)
  | str (x : Str)
  | tup (ws : List W)
  | ref (n : Nat)
  | obj (c : String) (ws : List W)
  | exc (c : String) (ws : List W)
instance : Inhabited W := ⟨.non⟩
inductive MObj where
  | lst (ws : List W)
  | lock (ws : List W)
  | dct (kvs : List (W × W))
  | st (ws : List W)
  | ins (c : String) (fs : List (String × W))
abbrev Store := List MObj
abbrev En := List (Option W)
abbrev cap : Nat := 16777216
inductive Res (α : Type) where
  | ok (a : α) (m : Store)
  | exc (c : String) (ws : List W) (m : Store)
  | bad
def Res.bind {α β : Type} : Res α → (α → Store → Res β) → Res β
  | .ok a m, k => k a m
  | .exc c ws m, _ => .exc c ws m
  | .bad, _ => .bad
@[simp] theorem Res.bind1 {α β : Type} (a : α) (m : Store) (k : α → Store → Res β) : (Res.ok a m).bind k = k a m := rfl
@[simp] theorem Res.bind2 {α β : Type} (c : String) (ws : List W) (m : Store) (k : α → Store → Res β) : (Res.exc c ws m : Res α).bind k = .exc c ws m := rfl
@[simp] theorem Res.bind3 {α β : Type} (k : α → Store → Res β) : (Res.bad : Res α).bind k = .bad := rfl
/-- where nothing may be raised -/
@[simp] def Res.calm {α : Type} : Res α → Res α
  | .exc _ _ _ => .bad
  | r => r

mutual
def W.refs : W → List Nat
  | .ref n => [n]
  | .tup ws => W.refsL ws
  | .obj _ ws => W.refsL ws
  | .exc _ ws => W.refsL ws
  | _ => []
def W.refsL : List W → List Nat
  | [] => []
  | w :: r => w.refs ++ W.refsL r
end
mutual
def W.ren (f : Nat → Nat) : W → W
  | .ref n => .ref (f n)
  | .tup ws => .tup (W.renL f ws)
  | .obj c ws => .obj c (W.renL f ws)
  | .exc c ws => .exc c (W.renL f ws)
  | w => w
def W.renL (f : Nat → Nat) : List W → List W
  | [] => []
  | w :: r => w.ren f :: W.renL f r
end
def MObj.refs : MObj → List Nat
  | .lst ws => W.refsL ws
  | .lock ws => W.refsL ws
  | .dct kvs => W.refsL (kvs.map (·.1)) ++ W.refsL (kvs.map (·.2))
  | .st ws => W.refsL ws
  | .ins _ fs => W.refsL (fs.map (·.2))
def W.bel (n : Nat) (w : W) : Prop := ∀ r ∈ w.refs, r < n
def belowL (n : Nat) (ws : List W) : Prop := ∀ r ∈ W.refsL ws, r < n
def MObj.bel (n : Nat) (o : MObj) : Prop := ∀ r ∈ o.refs, r < n
/-- what stood ahead stands, changed at most to what has no new reference -/
def keepOld (m0 m : Store) : Prop := ∀ i, i < m0.length → ∃ o, m[i]? = some o ∧ (m0[i]? = some o ∨ o.bel m0.length)
def ddN : List Nat → List Nat
  | [] => []
  | x :: l => x :: (ddN l).filter fun y => decide (y ≠ x)
def news (n : Nat) (ws : List W) : List Nat := ddN ((W.refsL ws).filter fun r => decide (n ≤ r))
def rn (n : Nat) (l : List Nat) (r : Nat) : Nat := if r < n then r else n + l.idxOf r
def flatNews (n : Nat) (m : Store) (l : List Nat) : Prop := ∀ r ∈ l, ∃ o, m[r]? = some o ∧ o.bel n
/-- what no value reaches any more goes -/
noncomputable def gcL (m0 : Store) (ws : List W) (m : Store) : List W × Store :=
  if keepOld m0 m ∧ flatNews m0.length m (news m0.length ws) then (W.renL (rn m0.length (news m0.length ws)) ws, m.take m0.length ++ (news m0.length ws).filterMap (m[·]?)) else (ws, m)
noncomputable def gc (m0 : Store) : Res W → Res W
  | .ok v m => if keepOld m0 m ∧ flatNews m0.length m (news m0.length [v]) then .ok (v.ren (rn m0.length (news m0.length [v]))) (m.take m0.length ++ (news m0.length [v]).filterMap (m[·]?)) else .ok v m
  | .exc c ws m => if keepOld m0 m ∧ belowL m0.length ws then .exc c ws (m.take m0.length) else .exc c ws m
  | .bad => .bad

/-! ### operations -/
inductive Bop where | add | sub | mul | div | mod | pow | shl | shr | band | bor | bxor
inductive Uop where | neg | not
inductive Cop where | eq | ne | lt | le | gt | ge | is | isn | inn | nin
inductive Bi where | len | all | any | tuple | list | sorted | lenset | sortset | min | max | abs | int | sum | lrange
inductive Mt where | append | extend | pop | index | get | items | count
inductive Ty where | int | bool | tuple | str | list | dict | cls (c : String)

mutual
def W.dat (f : Nat → Option PyData) : W → Option PyData
  | .non => some .none
  | .bl b => some (.bool b)
  | .int i => some (.int i)
  | .str x => some (.str x)
  | .tup ws => (W.datL f ws).map .tuple
  | .ref n => f n
  | _ => none
def W.datL (f : Nat → Option PyData) : List W → Option (List PyData)
  | [] => some []
  | w :: r => (w.dat f).bind fun d => (W.datL f r).map fun ds => d :: ds
end
def datR (m : Store) : Nat → Nat → Option PyData
  | 0, _ => none
  | k + 1, n => match m[n]? with
    | some (.lst ws) => (W.datL (datR m k) ws).map .list
    | some (.lock ws) => (W.datL (datR m k) ws).map .list
    | _ => none
def datOf (m : Store) (w : W) : Option PyData := w.dat (datR m 8)
/-- x == y, of data -/
def eqD (m : Store) (x y : W) : Option Bool := match datOf m x, datOf m y with
  | some d, some e => if SeqAt.shaped d = true ∧ SeqAt.shaped e = true then some (PyData.eqv d e) else none
  | _, _ => none
mutual
def W.plain : W → Bool
  | .int _ => true
  | .str _ => true
  | .tup ws => W.plainL ws
  | _ => false
def W.plainL : List W → Bool
  | [] => true
  | w :: r => w.plain && W.plainL r
end
mutual
def W.pi : W → Bool
  | .int _ => true
  | .tup ws => W.piL ws
  | _ => false
def W.piL : List W → Bool
  | [] => true
  | w :: r => w.pi && W.piL r
end
mutual
def W.dep : W → Nat
  | .tup ws => W.depL ws + 1
  | _ => 0
def W.depL : List W → Nat
  | [] => 0
  | w :: r => max w.dep (W.depL r)
end
/-- what may be a key -/
def W.keyb (w : W) : Bool := w.plain && decide (w.dep ≤ 8)
def W.isT : W → Bool
  | .tup _ => true
  | _ => false
/-- what may be asked of a dict with these keys -/
def okKey (k : W) (kvs : List (W × W)) : Prop := k.keyb = true ∧ ∀ p ∈ kvs, p.1.isT = k.isT
mutual
noncomputable def W.ltb : W → W → Option Bool
  | .int i, .int j => some (decide (i < j))
  | .str x, .str y => some (decide (x.cps.toList < y.cps.toList))
  | .tup xs, .tup ys => W.ltbL xs ys
  | _, _ => none
noncomputable def W.ltbL : List W → List W → Option Bool
  | [], [] => some false
  | [], _ :: _ => some true
  | _ :: _, [] => some false
  | x :: xs, y :: ys => (W.ltb x y).bind fun b => (W.ltbL xs ys).map fun c => if x = y then c else b
end
noncomputable def W.lt (x y : W) : Bool := (W.ltb x y).getD false
/-- each two of them can be put in order -/
def okTop : W → Bool
  | .int _ => true
  | .tup (.int _ :: _) => true
  | .tup (.tup _ :: _) => true
  | _ => false
def comparable (ws : List W) : Prop := (∀ x ∈ ws, x.plain = true ∧ x.dep ≤ 8 ∧ okTop x = true) ∧ ∀ x ∈ ws, ∀ y ∈ ws, (W.ltb x y).isSome = true
noncomputable def insW (x : W) : List W → List W
  | [] => [x]
  | y :: r => if W.lt y x = true then y :: insW x r else x :: y :: r
noncomputable def sortW : List W → List W
  | [] => []
  | x :: r => insW x (sortW r)

def truth (m : Store) : W → Option Bool
  | .non => some false
  | .bl b => some b
  | .int i => some (i != 0)
  | .tup ws => some (!ws.isEmpty)
  | .ref n => match m[n]? with
    | some (.lst ws) => some (!ws.isEmpty)
    | some (.lock ws) => some (!ws.isEmpty)
    | _ => none
  | _ => none
def alloc (o : MObj) (m : Store) : Res W := .ok (.ref m.length) (m ++ [o])
noncomputable def allocL (ws : List W) (m : Store) : Res W := if ws.length ≤ cap then alloc (.lst ws) m else .bad
def Res.of {α : Type} (o : Option α) (m : Store) : Res α := match o with
  | some a => .ok a m
  | none => .bad

noncomputable def intOp (ok : Int → Int → Prop) (g : Int → Int → Int) (x y : W) (m : Store) : Res W := match x, y with
  | .int i, .int j => if ok i j then .ok (.int (g i j)) m else .bad
  | _, _ => .bad
noncomputable def evAdd (x y : W) (m : Store) : Res W := match x, y with
  | .int i, .int j => .ok (.int (i + j)) m
  | .str x, .str y => if x.length + y.length ≤ cap then .ok (.str (x ++ y)) m else .bad
  | .tup xs, .tup ys => if xs.length + ys.length ≤ cap then .ok (.tup (xs ++ ys)) m else .bad
  | .ref a, .ref b => (match m[a]?, m[b]? with
    | some (.lst xs), some (.lst ys) => if xs.length + ys.length ≤ cap then alloc (.lst (xs ++ ys)) m else .bad
    | _, _ => .bad)
  | _, _ => .bad
noncomputable def evBin (o : Bop) (x y : W) (m : Store) : Res W := match o with
  | .add => evAdd x y m
  | .sub => intOp (fun _ _ => True) (fun i j => i - j) x y m
  | .mul => intOp L2.CMul (fun i j => i * j) x y m
  | .div => intOp L2.CDivN (fun i j => i.fdiv j) x y m
  | .mod => intOp (fun _ j => j ≠ 0) (fun i j => i.fmod j) x y m
  | .pow => intOp L2.CPow (fun i j => i ^ j.toNat) x y m
  | .shl => intOp L2.CPow (fun i j => i * 2 ^ j.toNat) x y m
  | .shr => intOp (fun _ j => 0 ≤ j) (fun i j => i / 2 ^ j.toNat) x y m
  | .band => intOp (fun _ _ => True) (fun i j => Builtin.bitAnd i j) x y m
  | .bor => intOp (fun _ _ => True) (fun i j => Builtin.bitOr i j) x y m
  | .bxor => intOp (fun _ _ => True) (fun i j => Builtin.bitXor i j) x y m
def evUna (o : Uop) (w : W) (m : Store) : Res W := match o with
  | .neg => (match w with
    | .int i => .ok (.int (-i)) m
    | _ => .bad)
  | .not => (Res.of (truth m w) m).bind fun b m => .ok (.bl (!b)) m
/-- what is asked by in: the items of a list, a tuple; a set's, a dict's keys -/
noncomputable def evIn (x y : W) (m : Store) : Option Bool := match y with
  | .tup ys => (match datOf m x, W.datL (datR m 8) ys with
    | some d, some ds => if SeqAt.shaped d = true ∧ SeqAt.shaped (.tuple ds) = true then some (ds.any fun z => PyData.eqv z d) else none
    | _, _ => none)
  | .ref n => (match m[n]? with
    | some (.lst ys) => (match datOf m x, W.datL (datR m 7) ys with
      | some d, some ds => if SeqAt.shaped d = true ∧ SeqAt.shaped (.list ds) = true then some (ds.any fun z => PyData.eqv z d) else none
      | _, _ => none)
    | some (.dct kvs) => if okKey x kvs then some (decide (x ∈ kvs.map (·.1))) else none
    | _ => none)
  | _ => none
def evIs (x y : W) : Option Bool := match y with
  | .non => some (match x with
    | .non => true
    | _ => false)
  | .bl b => (match x with
    | .bl a => some (a == b)
    | .non => some false
    | .int _ => some false
    | .str _ => some false
    | _ => none)
  | _ => none
def ltInt (f : Int → Int → Bool) (x y : W) : Option Bool := match x, y with
  | .int i, .int j => some (f i j)
  | _, _ => none
noncomputable def evCmp (o : Cop) (x y : W) (m : Store) : Option Bool := match o with
  | .eq => eqD m x y
  | .ne => (eqD m x y).map (!·)
  | .lt => if x.plain = true ∧ y.plain = true ∧ x.dep ≤ 8 then W.ltb x y else none
  | .gt => ltInt (fun i j => decide (j < i)) x y
  | .le => ltInt (fun i j => decide (i ≤ j)) x y
  | .ge => ltInt (fun i j => decide (j ≤ i)) x y
  | .is => evIs x y
  | .isn => (evIs x y).map (!·)
  | .inn => evIn x y m
  | .nin => (evIn x y m).map (!·)
noncomputable def findK (k : W) : List (W × W) → Option W
  | [] => none
  | (k', v) :: r => if k' = k then some v else findK k r
noncomputable def putK (k v : W) : List (W × W) → List (W × W)
  | [] => [(k, v)]
  | (k', v') :: r => if k' = k then (k', v) :: r else (k', v') :: putK k v r
noncomputable def evIdx (x i : W) (m : Store) : Res W := match x, i with
  | .tup ws, .int j => Res.of (L2.atI ws j) m
  | .str z, .int j => if z.length ≤ cap then Res.of ((L2.atI z.cps.toList j).map fun c => W.str ⟨#[c]⟩) m else .bad
  | .ref n, k => (match m[n]?, k with
    | some (.lst ws), .int j => Res.of (L2.atI ws j) m
    | some (.dct kvs), k => if okKey k kvs then Res.of (findK k kvs) m else .bad
    | _, _ => .bad)
  | _, _ => .bad
noncomputable def evSet (x i v : W) (m : Store) : Res W := match x with
  | .ref n => (match m[n]?, i with
    | some (.lst ws), .int j => (Res.of (L2.ixN ws.length j) m).bind fun q m => .ok .non (m.set n (.lst (ws.set q v)))
    | some (.dct kvs), k => if okKey k kvs ∧ kvs.length < cap then .ok .non (m.set n (.dct (putK k v kvs))) else .bad
    | _, _ => .bad)
  | _ => .bad
def part : Option W → Option (Option Int)
  | none => some none
  | some (.int i) => some (some i)
  | _ => none
def cut {α : Type} (xs : List α) (lo hi : Option Int) : List α := (xs.drop (HT.sIx xs.length 0 lo)).take (HT.sIx xs.length xs.length hi - HT.sIx xs.length 0 lo)
def evSlc (x : W) (a b : Option Int) (m : Store) : Res W := match x with
  | .tup ws => .ok (.tup (cut ws a b)) m
  | .ref n => (match m[n]? with
    | some (.lst ws) => alloc (.lst (cut ws a b)) m
    | _ => .bad)
  | _ => .bad
def bools : List W → Option (List Bool)
  | [] => some []
  | .bl b :: r => (bools r).map (b :: ·)
  | _ => none
def intsW : List W → Option (List Int)
  | [] => some []
  | .int i :: r => (intsW r).map (i :: ·)
  | _ => none
/-- what a walk meets -/
def iterOf (m : Store) : W → Option (List W)
  | .tup ws => some ws
  | .ref n => (match m[n]? with
    | some (.lst ws) => some ws
    | some (.lock ws) => some ws
    | _ => none)
  | _ => none
abbrev seqOf := iterOf
/-- each item where it stands first -/
noncomputable def dedup : List W → List W
  | [] => []
  | w :: r => w :: (dedup r).filter fun u => decide (u ≠ w)
noncomputable def evLen (w : W) (m : Store) : Res W := match w with
  | .str x => if x.length ≤ cap then .ok (.int x.length) m else .bad
  | .tup ws => .ok (.int ws.length) m
  | .ref n => (match m[n]? with
    | some (.lst ws) => .ok (.int ws.length) m
    | some (.lock ws) => .ok (.int ws.length) m
    | some (.dct kvs) => if ∀ p ∈ kvs, p.1.isT = false then .ok (.int kvs.length) m else .bad
    | _ => .bad)
  | _ => .bad
def evAll (f : List Bool → Bool) (w : W) (m : Store) : Res W := match w with
  | .ref n => (match m[n]? with
    | some (.lst ws) => (Res.of (bools ws) m).bind fun bs m => .ok (.bl (f bs)) m
    | _ => .bad)
  | _ => .bad
noncomputable def evSorted (w : W) (m : Store) : Res W := (Res.of (seqOf m w) m).bind fun ws m => if comparable ws then alloc (.lst (sortW ws)) m else .bad
noncomputable def evLenset (w : W) (m : Store) : Res W := (Res.of (seqOf m w) m).bind fun ws m => if (∀ x ∈ ws, ∃ i, x = .int i) ∧ ws.length ≤ 4000 then .ok (.int (dedup ws).length) m else .bad
noncomputable def evSortset (w : W) (m : Store) : Res W := (Res.of (seqOf m w) m).bind fun ws m => if (comparable ws ∧ ∀ x ∈ ws, x.isT = true ∧ x.pi = true) ∧ ws.length ≤ 4000 ∧ (dedup ws).length ≤ 75 then alloc (.lst (sortW (dedup ws))) m else .bad
def evMin (f : Int → Int → Int) (ws : List W) (m : Store) : Res W := match ws with
  | [.int i, .int j] => .ok (.int (f i j)) m
  | _ => .bad
def evInt (w : W) (m : Store) : Res W := match w with
  | .int i => .ok (.int i) m
  | .bl b => .ok (.int (if b then 1 else 0)) m
  | _ => .bad
def evAbs (w : W) (m : Store) : Res W := match w with
  | .int i => .ok (.int (if i < 0 then -i else i)) m
  | _ => .bad
def evSum (w : W) (m : Store) : Res W := match w with
  | .ref n => (match m[n]? with
    | some (.lst ws) => (Res.of (intsW ws) m).bind fun is m => .ok (.int is.sum) m
    | _ => .bad)
  | _ => .bad
/-- the ends of a range -/
def ends : List W → Option (Int × Int)
  | [.int j] => some (0, j)
  | [.int i, .int j] => some (i, j)
  | _ => none
def rangeW (i j : Int) : List W := (List.range (j - i).toNat).map fun k => .int (i + (k : Nat))
noncomputable def evLrange (ws : List W) (m : Store) : Res W := (Res.of (ends ws) m).bind fun p m => if L2.RgOk p.1 p.2 then alloc (.lst (rangeW p.1 p.2)) m else .bad
def one (f : W → Store → Res W) (ws : List W) (m : Store) : Res W := match ws with
  | [w] => f w m
  | _ => .bad
noncomputable def evBi (b : Bi) (ws : List W) (m : Store) : Res W := match b with
  | .len => one evLen ws m
  | .all => one (evAll fun bs => bs.all id) ws m
  | .any => one (evAll fun bs => bs.any id) ws m
  | .tuple => one (fun w m => (Res.of (seqOf m w) m).bind fun ws m => .ok (.tup ws) m) ws m
  | .list => one (fun w m => (Res.of (seqOf m w) m).bind fun ws m => alloc (.lst ws) m) ws m
  | .sorted => one evSorted ws m
  | .lenset => one evLenset ws m
  | .sortset => one evSortset ws m
  | .min => evMin (fun i j => if j < i then j else i) ws m
  | .max => evMin (fun i j => if j > i then j else i) ws m
  | .abs => one evAbs ws m
  | .int => one evInt ws m
  | .sum => one evSum ws m
  | .lrange => evLrange ws m
noncomputable def evAppend (x : W) (us : List W) (m : Store) : Res W := match x, us with
  | .ref n, [w] => (match m[n]? with
    | some (.lst ws) => if ws.length < cap then .ok .non (m.set n (.lst (ws ++ [w]))) else .bad
    | _ => .bad)
  | _, _ => .bad
noncomputable def evExtend (x : W) (us : List W) (m : Store) : Res W := match x, us with
  | .ref n, [.ref k] => (match m[n]?, m[k]? with
    | some (.lst ws), some (.lst us) => if ws.length + us.length ≤ cap then .ok .non (m.set n (.lst (ws ++ us))) else .bad
    | _, _ => .bad)
  | _, _ => .bad
def evPop (x : W) (us : List W) (m : Store) : Res W := match x, us with
  | .ref n, [] => (match m[n]? with
    | some (.lst ws) => (Res.of ws.getLast? m).bind fun w m => .ok w (m.set n (.lst ws.dropLast))
    | _ => .bad)
  | .ref n, [.int j] => (match m[n]? with
    | some (.lst ws) => (Res.of (L2.ixN ws.length j) m).bind fun q m => (Res.of ws[q]? m).bind fun w m => .ok w (m.set n (.lst (ws.eraseIdx q)))
    | _ => .bad)
  | _, _ => .bad
noncomputable def evGet (x : W) (us : List W) (m : Store) : Res W := match x, us with
  | .ref n, [k, w] => (match m[n]? with
    | some (.dct kvs) => if okKey k kvs then .ok ((findK k kvs).getD w) m else .bad
    | _ => .bad)
  | _, _ => .bad
noncomputable def evMt (mt : Mt) (x : W) (us : List W) (m : Store) : Res W := match mt with
  | .append => evAppend x us m
  | .extend => evExtend x us m
  | .pop => evPop x us m
  | .get => evGet x us m
  | _ => .bad
/-- of which things a method is asked -/
def recvOk (mt : Mt) (x : W) (m : Store) : Prop := match mt, x with
  | .append, .ref n => ∃ ws, m[n]? = some (.lst ws)
  | .extend, .ref n => ∃ ws, m[n]? = some (.lst ws)
  | .pop, .ref n => ∃ ws, m[n]? = some (.lst ws)
  | .get, .ref n => ∃ kvs, m[n]? = some (.dct kvs)
  | _, _ => False
def tyName (m : Store) : W → Option Ty
  | .bl _ => some .bool
  | .int _ => some .int
  | .str _ => some .str
  | .tup _ => some .tuple
  | .ref n => (match m[n]? with
    | some (.lst _) => some .list
    | some (.dct []) => some .dict
    | _ => none)
  | _ => none
def tySub : Ty → Ty → Bool
  | .int, .int => true
  | .bool, .bool => true
  | .bool, .int => true
  | .str, .str => true
  | .tuple, .tuple => true
  | .list, .list => true
  | .dict, .dict => true
  | _, _ => false
def tyIs (subc : String → String → Option Bool) (t : Ty) (w : W) (m : Store) : Option Bool := match t with
  | .cls c => (match w with
    | .obj _ _ => none
    | .exc d [] => subc d c
    | .exc _ _ => none
    | .non => some false
    | w => (tyName m w).map fun _ => false)
  | t => (match w with
    | .non => some false
    | w => (tyName m w).map fun n => tySub n t)

/-! ### the language -/
inductive Tg where
  | v (i : Nat)
  | t (ts : List Tg)
mutual
inductive E where
  | var (i : Nat)
  | non
  | bl (b : Bool)
  | int (i : Int)
  | str (x : Str)
  | una (o : Uop) (a : E)
  | bin (o : Bop) (a b : E)
  | and (a b : E)
  | or (a b : E)
  | cmp (o : Cop) (a b : E)
  | chn (o : Cop) (a b : E) (p : Cop) (c : E)
  | ite (c a b : E)
  | tup (es : Es)
  | lst (es : Es)
  | dct (ps : Ps)
  | idx (a b : E)
  | slc (a : E) (lo hi : Oe)
  | bi (b : Bi) (es : Es)
  | isi (a : E) (t : Ty)
  | call (f : String) (es : Es)
  | callk (f : String) (ks : Es)
  | make (c : String) (es : Es)
  | meth (a : E) (m : Mt) (es : Es)
  | own (a : E) (m : String) (es : Es)
  | fld (a : E) (f : String)
  | lc (own : List Nat) (x : E) (gs : Gs)
  | sc (own : List Nat) (x : E) (gs : Gs)
  | dc (own : List Nat) (k x : E) (gs : Gs)
  | caught (f : String) (a : E)
inductive Es where
  | nil
  | cons (a : E) (r : Es)
inductive Ps where
  | nil
  | cons (k x : E) (r : Ps)
inductive Oe where
  | none
  | some (a : E)
inductive Gs where
  | nil
  | cons (t : Tg) (it : Wk) (c : Oe) (r : Gs)
inductive Wk where
  | of (a : E)
  | enum (a : E)
  | zip (a b : E)
  | rng (es : Es)
end
mutual
inductive S where
  | asg (t : Tg) (e : E)
  | aset (o i e : E)
  | afld (o : E) (f : String) (e : E)
  | aug (i : Nat) (o : Bop) (e : E)
  | ex (e : E)
  | rt (e : E)
  | rtN
  | ite (c : E) (a b : Ss)
  | whl (c : E) (b : Ss) (dead : List Nat)
  | for_ (t : Tg) (it : Wk) (b : Ss) (dead : List Nat)
  | rse (c : String) (es : Es)
  | pass
  | brk
  | cnt
inductive Ss where
  | nil
  | cons (s : S) (r : Ss)
end

/-! ### the evaluator -/
abbrev Call := String → List W → Store → Res W
mutual
def bindT : Tg → W → En → Option En
  | .v i, w, en => if i < en.length then some (en.set i (some w)) else none
  | .t ts, .tup ws, en => bindTs ts ws en
  | _, _, _ => none
def bindTs : List Tg → List W → En → Option En
  | [], [], en => some en
  | t :: ts, w :: ws, en => (bindT t w en).bind fun en => bindTs ts ws en
  | _, _, _ => none
end
mutual
def Tg.vars : Tg → List Nat
  | .v i => [i]
  | .t ts => varsL ts
def varsL : List Tg → List Nat
  | [] => []
  | t :: ts => t.vars ++ varsL ts
end
def wipeE (en : En) : List Nat → En
  | [] => en
  | v :: vs => (wipeE en vs).set v none
/-- what a walk over items makes, the lists that it walks standing still -/
noncomputable def loopC (still : Store → Prop) (f : W → Store → Res (List W)) : List W → Store → Res (List W)
  | [], m => if still m then .ok [] m else .bad
  | w :: r, m => if still m then (f w m).bind fun xs m => (loopC still f r m).bind fun ys m => .ok (xs ++ ys) m else .bad
abbrev Src := Nat × Option MObj
def stillAt (srcs : List Src) (m : Store) : Prop := ∀ p ∈ srcs, m[p.1]? = p.2
def pairsOf : List W → Option (List (W × W))
  | [] => some []
  | .tup [k, v] :: r => (pairsOf r).map ((k, v) :: ·)
  | _ => none
/-- what a walk walks -/
structure Walked where
  items : List W
  srcs : List Src
noncomputable def gcI (m0 : Store) (its : Walked) (m : Store) : Res Walked :=
  if keepOld m0 m ∧ belowL m0.length its.items then .ok ⟨its.items, its.srcs.filter fun p => decide (p.1 < m0.length)⟩ (m.take m0.length) else .ok ⟨its.items, its.srcs.filter fun p => decide (p.1 < m.length)⟩ m
def srcOf (m : Store) : W → List Src
  | .ref n => [(n, m[n]?)]
  | _ => []
/-- two tuples, two lists -/
def twoSeq (m : Store) (x y : W) : Option (List W × List W) := match x, y with
  | .tup xs, .tup ys => some (xs, ys)
  | .ref a, .ref b => (iterOf m (.ref a)).bind fun xs => (iterOf m (.ref b)).map fun ys => (xs, ys)
  | _, _ => none
def lstOf (m : Store) (x : W) : Option (List W) := match x with
  | .ref a => iterOf m (.ref a)
  | _ => none
/-- what is caught of the class cls is the value -/
def cgt (subc : String → String → Option Bool) (cls : String) : Res W → Res W
  | .ok _ m => .ok .non m
  | .exc c ws m => if subc c cls = some true then .ok (.exc c ws) m else .bad
  | .bad => .bad
section
variable (subc : String → String → Option Bool) (fieldsOf : String → List String) (call : Call) (make : Call)
mutual
noncomputable def evE : E → En → Store → Res W
  | .var i, en, m => (match en[i]? with
    | some (some w) => .ok w m
    | _ => .bad)
  | .non, _, m => .ok .non m
  | .bl b, _, m => .ok (.bl b) m
  | .int i, _, m => .ok (.int i) m
  | .str x, _, m => .ok (.str x) m
  | .una o a, en, m => gc m ((evE a en m).bind fun x m => evUna o x m)
  | .bin o a b, en, m => gc m ((evE a en m).bind fun x m => (evE b en m).bind fun y m => evBin o x y m)
  | .and a b, en, m => (evE a en m).bind fun x m => (Res.of (truth m x) m).bind fun t m => if t = true then evE b en m else .ok x m
  | .or a b, en, m => (evE a en m).bind fun x m => (Res.of (truth m x) m).bind fun t m => if t = true then .ok x m else evE b en m
  | .cmp o a b, en, m => gc m ((evE a en m).bind fun x m => (evE b en m).bind fun y m => (Res.of (evCmp o x y m) m).bind fun t m => .ok (.bl t) m)
  | .chn o a b p c, en, m => gc m ((evE a en m).bind fun x m => (evE b en m).bind fun y m => (Res.of (evCmp o x y m) m).bind fun t m =>
      if t = true then (evE c en m).bind fun z m => (Res.of (evCmp p y z m) m).bind fun t m => .ok (.bl t) m else .ok (.bl false) m)
  | .ite c a b, en, m => (evE c en m).bind fun x m => (Res.of (truth m x) m).bind fun t m => if t = true then evE a en m else evE b en m
  | .tup es, en, m => (evEs es en m).bind fun ws m => if ws.length ≤ cap then .ok (.tup ws) m else .bad
  | .lst es, en, m => (evEs es en m).bind fun ws m => allocL ws m
  | .dct ps, en, m => (evPs ps en m).bind fun kvs m => if (∀ p ∈ kvs, p.1.keyb = true ∧ p.1.isT = false) ∧ kvs.length ≤ 15 then alloc (.dct (kvs.foldl (fun d p => putK p.1 p.2 d) [])) m else .bad
  | .idx a b, en, m => gc m ((evE a en m).bind fun x m => (evE b en m).bind fun y m => evIdx x y m)
  | .slc a lo hi, en, m => gc m ((evE a en m).bind fun x m => (evOe lo en m).bind fun l m => (Res.of (part l) m).bind fun l m => (evOe hi en m).bind fun h m => (Res.of (part h) m).bind fun h m => evSlc x l h m)
  | .bi b es, en, m => gc m ((evEs es en m).bind fun ws m => evBi b ws m)
  | .isi a t, en, m => gc m ((evE a en m).bind fun x m => (Res.of (tyIs subc t x m) m).bind fun t m => .ok (.bl t) m)
  | .call f es, en, m => gc m ((evEs es en m).bind fun ws m => call f ws m)
  | .callk f ks, en, m => gc m ((evEs ks en m).bind fun ws m => call f ws m)
  | .make c es, en, m => gc m ((evEs es en m).bind fun ws m => make c ws m)
  | .meth a mt es, en, m => gc m ((evE a en m).bind fun x m => if recvOk mt x m then (evEs es en m).bind fun ws m => evMt mt x ws m else .bad)
  | .own a f es, en, m => gc m ((evE a en m).bind fun x m => (evEs es en m).bind fun ws m => (match x with
    | .obj c _ => call (c ++ "." ++ f) (x :: ws) m
    | .ref n => (match m[n]? with
      | some (.ins c _) => call (c ++ "." ++ f) (x :: ws) m
      | _ => .bad)
    | _ => .bad))
  | .fld a f, en, m => gc m ((evE a en m).bind fun x m => (match x with
    | .obj c ws => Res.of (ws[(fieldsOf c).idxOf f]?) m
    | .exc c ws => Res.of (ws[(fieldsOf c).idxOf f]?) m
    | .ref n => (match m[n]? with
      | some (.ins _ fs) => Res.of (fs.lookup f) m
      | _ => .bad)
    | _ => .bad))
  | .lc own x gs, en, m => gc m (Res.calm ((evG0 gs (fun en m => (evE x en m).bind fun w m => .ok [w] m) own en m).bind fun ws m => allocL ws m))
  | .sc own x gs, en, m => gc m (Res.calm ((evG0 gs (fun en m => (evE x en m).bind fun w m => .ok [w] m) own en m).bind fun ws m => if comparable ws ∧ ws.length ≤ 4000 then alloc (.lst (sortW (dedup ws))) m else .bad))
  | .dc own k x gs, en, m => gc m (Res.calm ((evG0 gs (fun en m => (evE k en m).bind fun kw m => (evE x en m).bind fun w m => .ok [.tup [kw, w]] m) own en m).bind fun ws m => match pairsOf ws with
    | some kvs => if (∀ p ∈ kvs, okKey p.1 kvs) ∧ kvs.length ≤ cap then alloc (.dct (kvs.foldl (fun d p => putK p.1 p.2 d) [])) m else .bad
    | none => .bad))
  | .caught f a, en, m => cgt subc f (evE a en m)
noncomputable def evEs : Es → En → Store → Res (List W)
  | .nil, _, m => .ok [] m
  | .cons a r, en, m => (evE a en m).bind fun w m => (evEs r en m).bind fun ws m => .ok (w :: ws) m
noncomputable def evPs : Ps → En → Store → Res (List (W × W))
  | .nil, _, m => .ok [] m
  | .cons k x r, en, m => (evE k en m).bind fun kw m => (evE x en m).bind fun w m => (evPs r en m).bind fun ps m => .ok ((kw, w) :: ps) m
noncomputable def evOe : Oe → En → Store → Res (Option W)
  | .none, _, m => .ok none m
  | .some a, en, m => (evE a en m).bind fun w m => .ok (some w) m
/-- the clauses of a comprehension, the first one's walked thing in the def's own frame -/
noncomputable def evG0 : Gs → (En → Store → Res (List W)) → List Nat → En → Store → Res (List W)
  | .nil, _, _, _, _ => .bad
  | .cons t it c r, k, own, en, m => (evIt it en m).bind fun its m1 => loopC (stillAt its.srcs) (fun w m => (match bindT t w (wipeE en own) with
    | none => .bad
    | some en => (evC c en m).bind fun b m => if b = true then evG r k en m else .ok [] m)) its.items m1
noncomputable def evG : Gs → (En → Store → Res (List W)) → En → Store → Res (List W)
  | .nil, k, en, m => k en m
  | .cons t it c r, k, en, m => (evIt it en m).bind fun its m1 => loopC (stillAt its.srcs) (fun w m => (match bindT t w (wipeE en t.vars) with
    | none => .bad
    | some en => (evC c en m).bind fun b m => if b = true then evG r k en m else .ok [] m)) its.items m1
noncomputable def evC : Oe → En → Store → Res Bool
  | .none, _, m => .ok true m
  | .some a, en, m => (evE a en m).bind fun x m => Res.of (truth m x) m
noncomputable def evIt : Wk → En → Store → Res Walked
  | .of a, en, m => ((evE a en m).bind fun x m1 => (Res.of (iterOf m1 x) m1).bind fun ws m1 => .ok (Walked.mk ws (srcOf m1 x)) m1).bind fun its m1 => gcI m its m1
  | .enum a, en, m => ((evE a en m).bind fun x m1 => (Res.of (lstOf m1 x) m1).bind fun ws m1 => .ok (Walked.mk (ws.mapIdx fun i w => .tup [.int (i : Nat), w]) (srcOf m1 x)) m1).bind fun its m1 => gcI m its m1
  | .zip a b, en, m => ((evE a en m).bind fun x m1 => (evE b en m1).bind fun y m1 => (Res.of (twoSeq m1 x y) m1).bind fun p m1 =>
      if belowL m.length p.1 ∧ belowL m.length p.2 then .ok (Walked.mk ((p.1.zip p.2).map fun q => .tup [q.1, q.2]) (srcOf m1 x ++ srcOf m1 y)) m1 else .bad).bind fun its m1 => gcI m its m1
  | .rng es, en, m => ((evEs es en m).bind fun ws m1 => (Res.of (ends ws) m1).bind fun p m1 => if -(2 ^ 62) ≤ p.1 ∧ p.1 < 2 ^ 62 ∧ -(2 ^ 62) ≤ p.2 ∧ p.2 < 2 ^ 62 then .ok (Walked.mk (rangeW p.1 p.2) []) m1 else .bad).bind fun its m1 => gcI m its m1
end
end
/-! ### statements -/
inductive SR where
  | nx (en : En) (m : Store)
  | rt (w : W) (m : Store)
  | bk (en : En) (m : Store)
  | ct (en : En) (m : Store)
  | exc (c : String) (ws : List W) (m : Store)
  | bad
def Res.st {α : Type} : Res α → (α → Store → SR) → SR
  | .ok a m, k => k a m
  | .exc c ws m, _ => .exc c ws m
  | .bad, _ => .bad
@[simp] theorem Res.st1 {α : Type} (a : α) (m : Store) (k : α → Store → SR) : (Res.ok a m).st k = k a m := rfl
@[simp] theorem Res.st2 {α : Type} (c : String) (ws : List W) (m : Store) (k : α → Store → SR) : (Res.exc c ws m : Res α).st k = .exc c ws m := rfl
@[simp] theorem Res.st3 {α : Type} (k : α → Store → SR) : (Res.bad : Res α).st k = .bad := rfl
def SR.seq : SR → (En → Store → SR) → SR
  | .nx en m, k => k en m
  | r, _ => r
@[simp] theorem SR.seq1 (en : En) (m : Store) (k : En → Store → SR) : (SR.nx en m).seq k = k en m := rfl
@[simp] theorem SR.seq2 (w : W) (m : Store) (k : En → Store → SR) : (SR.rt w m).seq k = .rt w m := rfl
@[simp] theorem SR.seq3 (en : En) (m : Store) (k : En → Store → SR) : (SR.bk en m).seq k = .bk en m := rfl
@[simp] theorem SR.seq4 (en : En) (m : Store) (k : En → Store → SR) : (SR.ct en m).seq k = .ct en m := rfl
@[simp] theorem SR.seq5 (c : String) (ws : List W) (m : Store) (k : En → Store → SR) : (SR.exc c ws m).seq k = .exc c ws m := rfl
@[simp] theorem SR.seq6 (k : En → Store → SR) : SR.bad.seq k = .bad := rfl
/-- the names of dead go, then what nothing reaches -/
noncomputable def gcE (m0 : Store) (dead : List Nat) (en : En) (m : Store) : En × Store :=
  if keepOld m0 m ∧ flatNews m0.length m (news m0.length ((wipeE en dead).filterMap id)) then
    ((wipeE en dead).map fun o => o.map fun w => w.ren (rn m0.length (news m0.length ((wipeE en dead).filterMap id))), m.take m0.length ++ (news m0.length ((wipeE en dead).filterMap id)).filterMap (m[·]?))
  else (wipeE en dead, m)
noncomputable def forL (m0 : Store) (dead : List Nat) (still : Store → Prop) (t : Tg) (body : En → Store → SR) : List W → En → Store → SR
  | [], en, m => if still m then .nx en m else .bad
  | w :: r, en, m => if still m then (match bindT t w en with
    | none => .bad
    | some en => (match body en m with
      | .nx en m => forL m0 dead still t body r (gcE m0 dead en m).1 (gcE m0 dead en m).2
      | .ct en m => forL m0 dead still t body r (gcE m0 dead en m).1 (gcE m0 dead en m).2
      | .bk en m => .nx en m
      | r => r)) else .bad
/-- a while, n turns at most; none: not yet at its end -/
noncomputable def whlN (m0 : Store) (dead : List Nat) (test : En → Store → Res Bool) (body : En → Store → SR) : Nat → En → Store → Option SR
  | 0, _, _ => none
  | n + 1, en, m => (match test en m with
    | .ok true m => (match body en m with
      | .nx en m => whlN m0 dead test body n (gcE m0 dead en m).1 (gcE m0 dead en m).2
      | .ct en m => whlN m0 dead test body n (gcE m0 dead en m).1 (gcE m0 dead en m).2
      | .bk en m => some (.nx en m)
      | r => some r)
    | .ok false m => some (.nx en m)
    | .exc c ws m => some (.exc c ws m)
    | .bad => some .bad)
noncomputable def whlW (m0 : Store) (dead : List Nat) (test : En → Store → Res Bool) (body : En → Store → SR) (en : En) (m : Store) : SR :=
  if h : ∃ n r, whlN m0 dead test body n en m = some r then choose (choose_spec h) else .bad
section
variable (subc : String → String → Option Bool) (fieldsOf : String → List String) (call : Call) (make : Call)
noncomputable def evT (e : E) (en : En) (m : Store) : Res Bool := (evE subc fieldsOf call make e en m).bind fun x m => Res.of (truth m x) m
noncomputable def evAug (o : Bop) (x y : W) (m : Store) : Res W := match x with
  | .ref _ => .bad
  | _ => evBin o x y m
mutual
noncomputable def evS : S → En → Store → SR
  | .asg t e, en, m => (evE subc fieldsOf call make e en m).st fun w m => (match bindT t w en with
    | some en => .nx en m
    | none => .bad)
  | .aset o i e, en, m => (evE subc fieldsOf call make e en m).st fun v m => (evE subc fieldsOf call make o en m).st fun x m => (evE subc fieldsOf call make i en m).st fun j m => (evSet x j v m).st fun _ m => .nx en m
  | .afld o f e, en, m => (evE subc fieldsOf call make e en m).st fun v m => (evE subc fieldsOf call make o en m).st fun x m => (match x with
    | .ref n => (match m[n]? with
      | some (.ins c fs) => if fs.length < 1000 ∧ fs.lookup f = none then .nx en (m.set n (.ins c (fs ++ [(f, v)]))) else .bad
      | _ => .bad)
    | _ => .bad)
  | .aug i o e, en, m => (match en[i]? with
    | some (some x) => (evE subc fieldsOf call make e en m).st fun y m => (evAug o x y m).st fun z m => .nx (en.set i (some z)) m
    | _ => .bad)
  | .ex e, en, m => (evE subc fieldsOf call make e en m).st fun _ m => .nx en m
  | .rt e, en, m => (evE subc fieldsOf call make e en m).st fun w m => .rt w m
  | .rtN, _, m => .rt .non m
  | .ite c a b, en, m => (evT subc fieldsOf call make c en m).st fun t m => if t = true then evSs a en m else evSs b en m
  | .whl c b dead, en, m => whlW m dead (evT subc fieldsOf call make c) (evSs b) en m
  | .for_ t it b dead, en, m => (evIt subc fieldsOf call make it en m).st fun its m1 => forL m1 dead (stillAt its.srcs) t (evSs b) its.items en m1
  | .rse c es, en, m => (evEs subc fieldsOf call make es en m).st fun ws m => .exc c ws m
  | .pass, en, m => .nx en m
  | .brk, en, m => .bk en m
  | .cnt, en, m => .ct en m
noncomputable def evSs : Ss → En → Store → SR
  | .nil, en, m => .nx en m
  | .cons s r, en, m => (evS s en m).seq fun en m => evSs r en m
end
end
structure Def where
  ps : List String
  n : Nat
  body : Ss
  kw : Bool := false
structure Prog where
  find : String → Option Def
  subc : String → String → Option Bool
  fieldsOf : String → List String
  isEx : String → Bool
  isCl : String → Bool
noncomputable def runD (P : Prog) (call make : Call) (d : Def) (ws : List W) (m : Store) : Res W :=
  if ws.length = d.ps.length then (match evSs P.subc P.fieldsOf call make d.body (ws.map some ++ List.replicate (d.n - ws.length) none) m with
    | .nx _ m => .ok .non m
    | .rt w m => .ok w m
    | .exc c ws m => .exc c ws m
    | _ => .bad) else .bad
noncomputable def mk (P : Prog) (call : Call) : Call := fun c ws m => (call (c ++ ".__init__") (.ref m.length :: ws) (m ++ [.ins c []])).bind fun v m1 =>
  (match v, m1[m.length]? with
  | .non, some (.ins _ fs) => if fs.map (·.1) = P.fieldsOf c then .ok (.obj c (fs.map (·.2))) m1 else .bad
  | _, _ => .bad)
noncomputable def callN (P : Prog) : Nat → Call
  | 0 => fun _ _ _ => .bad
  | d + 1 => fun f ws m => (match P.find f with
    | some df => gc m (runD P (callN P d) (mk P (callN P d)) df ws m)
    | none => .bad)
end Ev

set_option Elab.async false
set_option linter.all false
set_option maxRecDepth 100000
set_option maxHeartbeats 4000000
/-! How the core's values and store lie in the hand layer's abstract heap. -/
namespace Ev
open PySem PySem.Spec PyProof.Rows L2
open Classical
structure Cf where
  P : Program
  w : World
  ca : String → Addr
  fl : String → List String
  /-- the tables of the code objects of those defs that make lambdas -/
  T : List (Addr × Str)
/-- an exception that a name holds -/
def ExcO (a c : Addr) (d : Option Addr) : HO := .ext fun h => ∃ (o : Obj) (vs : Array Value), h.get? a = some o ∧ o.cls = .ref c ∧ o.dict = d ∧ o.data = .fields vs
section
variable (C : Cf) (ρ : List Addr) (H : Hp)
mutual
def RW : W → V → Prop
  | .non, v => v = .non
  | .bl b, v => v = .bl b
  | .int i, v => v = .int i
  | .str x, v => v = .str x
  | .tup ws, v => ∃ a vs, v = .ref a ∧ H a = some (.tup vs) ∧ RWs ws vs
  | .ref n, v => ∃ a, ρ[n]? = some a ∧ v = .ref a
  | .obj c ws, v => ∃ a dx fs, v = .ref a ∧ a ∉ ρ ∧ H a = some (.ins (C.ca c) dx fs) ∧ fs.map (·.1) = (C.fl c).map (fun f : String => (f : Str)) ∧ RWs ws (fs.map (·.2))
  | .exc c ws, v => ∃ a d, v = .ref a ∧ a ∉ ρ ∧ H a = some (ExcO a (C.ca c) d) ∧
      ((ws = [] ∧ d = none) ∨ ∃ dx fs, (d = some dx ∧ ws ≠ []) ∧ dx ∉ ρ ∧ H dx = some (.xd fs) ∧ fs.map (·.1) = (C.fl c).map (fun f : String => (f : Str)) ∧ RWs ws (fs.map (·.2)))
def RWs : List W → List V → Prop
  | [], vs => vs = []
  | w :: ws, vs => ∃ v r, vs = v :: r ∧ RW w v ∧ RWs ws r
end
/-- what a raised exception bears -/
def RX (c : String) (ws : List W) (d : Option Addr) : Prop :=
  (ws = [] ∧ d = none) ∨ ∃ dx fs, (d = some dx ∧ ws ≠ []) ∧ dx ∉ ρ ∧ H dx = some (.xd fs) ∧ fs.map (·.1) = (C.fl c).map (fun f : String => (f : Str)) ∧ RWs C ρ H ws (fs.map (·.2))
end
theorem RWs.length {C : Cf} {ρ : List Addr} {H : Hp} : ∀ {ws : List W} {vs : List V}, RWs C ρ H ws vs → ws.length = vs.length
  | [], vs, h => by rw [RWs] at h; subst h; rfl
  | w :: ws, vs, h => by
    rw [RWs] at h
    obtain ⟨v, r, rfl, _, hr⟩ := h
    simp [hr.length]
theorem RWs.cons {C : Cf} {ρ : List Addr} {H : Hp} {w : W} {ws : List W} {v : V} {vs : List V} (h : RW C ρ H w v) (r : RWs C ρ H ws vs) : RWs C ρ H (w :: ws) (v :: vs) := by
  rw [RWs]; exact ⟨v, vs, rfl, h, r⟩
theorem RWs.nil {C : Cf} {ρ : List Addr} {H : Hp} : RWs C ρ H [] [] := by rw [RWs]
theorem RWs.nil_iff {C : Cf} {ρ : List Addr} {H : Hp} {vs : List V} (h : RWs C ρ H [] vs) : vs = [] := by rw [RWs] at h; exact h
theorem RWs.cons_iff {C : Cf} {ρ : List Addr} {H : Hp} {w : W} {ws : List W} {vs : List V} (h : RWs C ρ H (w :: ws) vs) : ∃ v r, vs = v :: r ∧ RW C ρ H w v ∧ RWs C ρ H ws r := by rw [RWs] at h; exact h
theorem RWs.get {C : Cf} {ρ : List Addr} {H : Hp} : ∀ {ws : List W} {vs : List V} {i : Nat} {w : W}, RWs C ρ H ws vs → ws[i]? = some w → ∃ v, vs[i]? = some v ∧ RW C ρ H w v
  | [], _, _, _, _, e => by simp at e
  | u :: ws, vs, i, w, h, e => by
    obtain ⟨v, r, rfl, hv, hr⟩ := h.cons_iff
    cases i with
    | zero => simp at e; subst e; exact ⟨v, rfl, hv⟩
    | succ i => simpa using hr.get (i := i) (by simpa using e)
theorem RWs.getV {C : Cf} {ρ : List Addr} {H : Hp} {ws : List W} {vs : List V} {i : Nat} {v : V} (h : RWs C ρ H ws vs) (e : vs[i]? = some v) : ∃ w, ws[i]? = some w ∧ RW C ρ H w v := by
  have hi : i < ws.length := by rw [h.length]; exact (List.getElem?_eq_some_iff.mp e).1
  obtain ⟨v', e', r⟩ := h.get (List.getElem?_eq_getElem hi)
  rw [e] at e'; cases e'
  exact ⟨_, List.getElem?_eq_getElem hi, r⟩
theorem RWs.of {C : Cf} {ρ : List Addr} {H : Hp} : ∀ {ws : List W} {vs : List V}, ws.length = vs.length → (∀ (i : Nat) (w : W) (v : V), ws[i]? = some w → vs[i]? = some v → RW C ρ H w v) → RWs C ρ H ws vs
  | [], vs, hl, _ => by
    have : vs = [] := List.length_eq_zero_iff.mp (by simpa using hl.symm)
    subst this; exact .nil
  | w :: ws, [], hl, _ => by simp at hl
  | w :: ws, v :: vs, hl, h => .cons (h 0 w v rfl rfl) (RWs.of (by simpa using hl) fun i w' v' e e' => h (i + 1) w' v' (by simpa using e) (by simpa using e'))
theorem RWs.append {C : Cf} {ρ : List Addr} {H : Hp} : ∀ {ws us : List W} {vs ts : List V}, RWs C ρ H ws vs → RWs C ρ H us ts → RWs C ρ H (ws ++ us) (vs ++ ts)
  | [], _, _, _, h, r => by rw [h.nil_iff]; exact r
  | w :: ws, _, _, _, h, r => by
    obtain ⟨v, q, rfl, hv, hr⟩ := h.cons_iff
    exact .cons hv (hr.append r)
theorem RWs.take {C : Cf} {ρ : List Addr} {H : Hp} {ws : List W} {vs : List V} (n : Nat) (h : RWs C ρ H ws vs) : RWs C ρ H (ws.take n) (vs.take n) :=
  .of (by simp [h.length]) fun i w v e e' => by
    rw [List.getElem?_take] at e e'
    by_cases hi : i < n
    · rw [if_pos hi] at e e'
      obtain ⟨v', e2, r⟩ := h.get e
      rw [e'] at e2; cases e2; exact r
    · rw [if_neg hi] at e; cases e
theorem RWs.drop {C : Cf} {ρ : List Addr} {H : Hp} {ws : List W} {vs : List V} (n : Nat) (h : RWs C ρ H ws vs) : RWs C ρ H (ws.drop n) (vs.drop n) :=
  .of (by simp [h.length]) fun i w v e e' => by
    rw [List.getElem?_drop] at e e'
    obtain ⟨v', e2, r⟩ := h.get e
    rw [e'] at e2; cases e2; exact r
theorem RWs.set {C : Cf} {ρ : List Addr} {H : Hp} {ws : List W} {vs : List V} {w : W} {v : V} (n : Nat) (h : RWs C ρ H ws vs) (r : RW C ρ H w v) : RWs C ρ H (ws.set n w) (vs.set n v) :=
  .of (by simp [h.length]) fun i u x e e' => by
    rw [List.getElem?_set] at e e'
    by_cases hi : n = i
    · subst hi
      rw [if_pos rfl] at e e'
      by_cases hl : n < ws.length
      · rw [if_pos hl] at e; rw [if_pos (by rw [← h.length]; exact hl)] at e'
        cases e; cases e'; exact r
      · rw [if_neg hl] at e; cases e
    · rw [if_neg hi] at e e'
      obtain ⟨v', e2, q⟩ := h.get e
      rw [e'] at e2; cases e2; exact q
theorem RWs.eraseIdx {C : Cf} {ρ : List Addr} {H : Hp} {ws : List W} {vs : List V} (n : Nat) (h : RWs C ρ H ws vs) : RWs C ρ H (ws.eraseIdx n) (vs.eraseIdx n) :=
  .of (by simp [List.length_eraseIdx, h.length]) fun i u x e e' => by
    rw [List.getElem?_eraseIdx] at e e'
    by_cases hi : i < n
    · rw [if_pos hi] at e e'
      obtain ⟨v', e2, q⟩ := h.get e
      rw [e'] at e2; cases e2; exact q
    · rw [if_neg hi] at e e'
      obtain ⟨v', e2, q⟩ := h.get e
      rw [e'] at e2; cases e2; exact q
theorem RWs.isEmpty {C : Cf} {ρ : List Addr} {H : Hp} {ws : List W} {vs : List V} (h : RWs C ρ H ws vs) : ws.isEmpty = vs.isEmpty := by
  have := h.length
  cases ws <;> cases vs <;> simp_all

/-! ### objects of the store -/
mutual
def W.nk : W → NestedKey
  | .int i => .num i
  | .str x => .text x
  | .tup ws => .tup (W.nkL ws)
  | _ => .none
def W.nkL : List W → List NestedKey
  | [] => []
  | w :: r => w.nk :: W.nkL r
end
def keyW : Key → W
  | .inl i => .int i
  | .inr x => .str x
section
variable (C : Cf) (ρ : List Addr) (H : Hp)
/-- entries of a dict whose keys are tuples -/
def REnt : List (W × W) → List (NestedKey × Addr × Value) → Prop
  | [], xs => xs = []
  | kv :: r, xs => ∃ x q, xs = x :: q ∧ (kv.1.nk = x.1 ∧ kv.1.keyb = true ∧ RW C ρ H kv.1 (.ref x.2.1) ∧ ∃ v, RW C ρ H kv.2 v ∧ RelV v x.2.2) ∧ REnt r q
def RO : MObj → Addr → Prop
  | .lst ws, a => ∃ vs, H a = some (.lst vs) ∧ RWs C ρ H ws vs
  | .lock ws, a => ∃ o vs, H a = some (.frz o (.lst vs)) ∧ RWs C ρ H ws vs
  | .dct kvs, a => (∃ ks : List (Key × V), H a = some (.dK ks) ∧ kvs.map (·.1) = ks.map (fun p => keyW p.1) ∧ RWs C ρ H (kvs.map (·.2)) (ks.map (·.2))) ∨
      (kvs ≠ [] ∧ (a == sysModules) = false ∧ ∃ (o : Obj) (es : Array DictEntry) (ep : Nat) (xs : List (NestedKey × Addr × Value)), H a = some (.ext fun h => h.get? a = some o) ∧ o.ExactDict ∧ o.data = .dict es ep ∧
        es.toList = xs.map (entryOfKey (nestedKind C.P C.w)) ∧ (xs.map (·.1)).Nodup ∧ REnt C ρ H kvs xs)
  | .st _, _ => False
  | .ins c fs, a => ∃ dx vfs, H a = some (.ins (C.ca c) dx vfs) ∧ vfs.map (·.1) = fs.map (fun p => ((p.1 : String) : Str)) ∧ RWs C ρ H (fs.map (·.2)) (vfs.map (·.2))
structure RS (m : Store) : Prop where
  len : ρ.length = m.length
  nd : ρ.Nodup
  obj : ∀ (n : Nat) o a, m[n]? = some o → ρ[n]? = some a → RO C ρ H o a
  tabs : LamX.Tabs C.T H
/-- names -/
def REn (en : En) (σ : L2.St) : Prop := en.length = σ.length ∧ ∀ (i : Nat) w, en[i]? = some (some w) → ∃ v, σ[i]? = some (some v) ∧ RW C ρ H w v
end
/-- all that is tracked stands -/
structure Sm (H H' : Hp) : Prop where
  all : ∀ a o, H a = some o → H' a = some o
theorem Sm.keep {H H' : Hp} (x : Sm H H') : ∀ a o, H a = some o → (∀ ps, o ≠ .tbl ps) → H' a = some o := fun a o h _ => x.all a o h
theorem Sm.tb {H H' : Hp} (x : Sm H H') : ∀ a ps, H a = some (.tbl ps) → ∃ more, H' a = some (.tbl (ps ++ more)) := fun a ps h => ⟨#[], by rw [x.all a _ h]; simp⟩
/-- what is no object of the store stands; new ones of the store are new -/
structure Ext (ρ : List Addr) (H : Hp) (ρ' : List Addr) (H' : Hp) : Prop where
  pre : ρ <+: ρ'
  keep : ∀ a o, H a = some o → a ∉ ρ → (∀ ps, o ≠ .tbl ps) → H' a = some o
  new : ∀ a, a ∈ ρ' → a ∉ ρ → ∀ o, H a = some o → ∃ ps, o = .tbl ps
theorem Sm.refl (H : Hp) : Sm H H := ⟨fun _ _ h => h⟩
theorem Sm.trans {H H1 H2 : Hp} (a : Sm H H1) (b : Sm H1 H2) : Sm H H2 := ⟨fun c o h => b.all c o (a.all c o h)⟩
theorem Sm.upd {H : Hp} {a : Addr} {o : HO} (h : H a = none) : Sm H (upd H a o) := ⟨fun b u e => by rw [upd_ne (ne_of_none e h)]; exact e⟩
/-- a table, or a code object of one -/
def Tx (a : Addr) (o : HO) : Prop := (∃ ps, o = .tbl ps) ∨ ∃ q, o = LamX.CodeO a q
theorem tabs_upd {T : List (Addr × Str)} {H : Hp} {a : Addr} {u v : HO} (t : LamX.Tabs T H) (e : H a = some u) (n : ¬ Tx a u) : LamX.Tabs T (upd H a v) := fun p hp => by
  obtain ⟨ps, h1, h2, h3⟩ := t p hp
  refine ⟨ps, ?_, h2, fun pos cv hc => ?_⟩
  · rw [upd_ne (fun z => by
      rw [z, e] at h1
      exact n (.inl ⟨ps, Option.some.inj h1⟩))]
    exact h1
  · obtain ⟨c, ec, h4⟩ := h3 pos cv hc
    refine ⟨c, ec, ?_⟩
    rw [upd_ne (fun z => by
      rw [z, e] at h4
      exact n (.inr ⟨p.2, Option.some.inj h4⟩))]
    exact h4
theorem Sm.tabs {T : List (Addr × Str)} {H H' : Hp} (x : Sm H H') (t : LamX.Tabs T H) : LamX.Tabs T H' := t.ext x.all
theorem heapAt (a : Addr) (o : Obj) (n : ∀ es ep, o.data = .dict es ep → True) {es : Array DictEntry} {ep : Nat} (hd : o.data = .dict es ep) : ∃ h : Heap, h.get? a = some o := by
  refine ⟨⟨Array.replicate (a + 1) o, {}⟩, ?_⟩
  unfold Heap.get?
  obtain ⟨c, d, dt, sl⟩ := o
  simp only at hd
  subst hd
  simp
theorem ext_notTx {a : Addr} {o : Obj} {es : Array DictEntry} {ep : Nat} (hd : o.data = .dict es ep) : ¬ Tx a (.ext fun h => h.get? a = some o) := fun h => by
  rcases h with ⟨_, q⟩ | ⟨q0, q⟩
  · cases q
  · unfold LamX.CodeO at q
    injection q with q
    obtain ⟨h, e⟩ := heapAt a o (fun _ _ _ => trivial) hd
    have : (fun h : Heap => h.get? a = some o) h := e
    rw [q] at this
    obtain ⟨o2, vs, t, e1, e2, _⟩ := this
    rw [e] at e1
    cases e1
    rw [hd] at e2
    cases e2
theorem isTbl (o : HO) : (∀ ps, o ≠ .tbl ps) ∨ ∃ ps, o = .tbl ps := by
  cases o <;> first | exact .inr ⟨_, rfl⟩ | exact .inl fun _ h => by cases h
theorem Ext.refl (ρ : List Addr) (H : Hp) : Ext ρ H ρ H := ⟨List.prefix_refl _, fun _ _ h _ _ => h, fun _ h n => absurd h n⟩
theorem Ext.of_sm {ρ : List Addr} {H H' : Hp} (s : Sm H H') : Ext ρ H ρ H' := ⟨List.prefix_refl _, fun a o h _ n => s.keep a o h n, fun _ h n => absurd h n⟩
theorem Ext.out {ρ ρ' : List Addr} {H H' : Hp} (x : Ext ρ H ρ' H') {a : Addr} {o : HO} (h : H a = some o) (hn : a ∉ ρ) (nt : ∀ ps, o ≠ .tbl ps) : a ∉ ρ' := fun hc => by
  obtain ⟨ps, e⟩ := x.new a hc hn o h
  exact nt ps e
theorem Ext.trans {ρ ρ1 ρ2 : List Addr} {H H1 H2 : Hp} (a : Ext ρ H ρ1 H1) (b : Ext ρ1 H1 ρ2 H2) : Ext ρ H ρ2 H2 := by
  refine ⟨a.pre.trans b.pre, fun c o h hn nt => b.keep c o (a.keep c o h hn nt) (a.out h hn nt) nt, fun c hc hn o e => ?_⟩
  by_cases h1 : c ∈ ρ1
  · exact a.new c h1 hn o e
  · rcases isTbl o with nt | h
    · exact b.new c hc h1 o (a.keep c o e hn nt)
    · exact h

/-! ### relations stay -/
section
variable {C : Cf} {ρ ρ' : List Addr} {H H' : Hp}
theorem pre_get {ρ ρ' : List Addr} (p : ρ <+: ρ') {n : Nat} {a : Addr} (h : ρ[n]? = some a) : ρ'[n]? = some a := by
  obtain ⟨t, rfl⟩ := p
  rw [List.getElem?_append_left (List.getElem?_eq_some_iff.mp h).1]; exact h
/-- what a value may name outside the store, other than tuples -/
def Fx (a : Addr) (o : HO) : Prop := (∃ c dx fs, o = .ins c dx fs) ∨ (∃ c d, o = ExcO a c d) ∨ ∃ fs, o = .xd fs
theorem Fx.nt {a : Addr} {o : HO} (h : Fx a o) : ∀ ps, o ≠ .tbl ps := fun ps z => by
  subst z
  rcases h with ⟨_, _, _, h⟩ | ⟨_, _, h⟩ | ⟨_, h⟩
  · cases h
  · unfold ExcO at h; cases h
  · cases h
/-- what a relation of a value leans on -/
structure Ext0 (ρ : List Addr) (H : Hp) (ρ' : List Addr) (H' : Hp) : Prop where
  get : ∀ (n : Nat) a, ρ[n]? = some a → ρ'[n]? = some a
  tup : ∀ a vs, H a = some (.tup vs) → H' a = some (.tup vs)
  keep : ∀ a o, H a = some o → a ∉ ρ → Fx a o → H' a = some o ∧ a ∉ ρ'
mutual
theorem RW.mono0 (x : Ext0 ρ H ρ' H') : ∀ {w : W} {v : V}, RW C ρ H w v → RW C ρ' H' w v
  | .non, _, h => by rw [RW] at h ⊢; exact h
  | .bl _, _, h => by rw [RW] at h ⊢; exact h
  | .int _, _, h => by rw [RW] at h ⊢; exact h
  | .str _, _, h => by rw [RW] at h ⊢; exact h
  | .tup ws, v, h => by
    rw [RW] at h ⊢
    obtain ⟨a, vs, rfl, e, r⟩ := h
    exact ⟨a, vs, rfl, x.tup a vs e, RWs.mono0 x r⟩
  | .ref n, v, h => by
    rw [RW] at h ⊢
    obtain ⟨a, e, rfl⟩ := h
    exact ⟨a, x.get n a e, rfl⟩
  | .obj c ws, v, h => by
    rw [RW] at h ⊢
    obtain ⟨a, dx, fs, rfl, hn, e, l, r⟩ := h
    obtain ⟨e', hn'⟩ := x.keep a _ e hn (.inl ⟨_, _, _, rfl⟩)
    exact ⟨a, dx, fs, rfl, hn', e', l, RWs.mono0 x r⟩
  | .exc c ws, v, h => by
    rw [RW] at h ⊢
    obtain ⟨a, d, rfl, hn, e, r⟩ := h
    obtain ⟨e', hn'⟩ := x.keep a _ e hn (.inr (.inl ⟨_, _, rfl⟩))
    refine ⟨a, d, rfl, hn', e', ?_⟩
    rcases r with r | ⟨dx, fs, ed, hd, e2, l, r⟩
    · exact .inl r
    · obtain ⟨e2', hd'⟩ := x.keep dx _ e2 hd (.inr (.inr ⟨_, rfl⟩))
      exact .inr ⟨dx, fs, ed, hd', e2', l, RWs.mono0 x r⟩
theorem RWs.mono0 (x : Ext0 ρ H ρ' H') : ∀ {ws : List W} {vs : List V}, RWs C ρ H ws vs → RWs C ρ' H' ws vs
  | [], vs, h => by rw [RWs] at h ⊢; exact h
  | w :: ws, vs, h => by
    rw [RWs] at h ⊢
    obtain ⟨v, r, rfl, hv, hr⟩ := h
    exact ⟨v, r, rfl, RW.mono0 x hv, RWs.mono0 x hr⟩
end
theorem RX.mono0 (x : Ext0 ρ H ρ' H') {c : String} {ws : List W} {d : Option Addr} (h : RX C ρ H c ws d) : RX C ρ' H' c ws d := by
  rcases h with r | ⟨dx, fs, ed, hd, e2, l, r⟩
  · exact .inl r
  · obtain ⟨e2', hd'⟩ := x.keep dx _ e2 hd (.inr (.inr ⟨_, rfl⟩))
    exact .inr ⟨dx, fs, ed, hd', e2', l, r.mono0 x⟩
theorem REnt.mono0 (x : Ext0 ρ H ρ' H') : ∀ {kvs : List (W × W)} {xs : List (NestedKey × Addr × Value)}, REnt C ρ H kvs xs → REnt C ρ' H' kvs xs
  | [], xs, h => by rw [REnt] at h ⊢; exact h
  | kv :: r, xs, h => by
    rw [REnt] at h ⊢
    obtain ⟨y, q, rfl, ⟨h1, h2, h3, v, h4, h5⟩, hr⟩ := h
    exact ⟨y, q, rfl, ⟨h1, h2, h3.mono0 x, v, h4.mono0 x, h5⟩, REnt.mono0 x hr⟩
/-- the objects of the store stand too, where they are at all -/
theorem RO.mono0 (x : Ext0 ρ H ρ' H') {o : MObj} {a : Addr} (e : H' a = H a) (h : RO C ρ H o a) : RO C ρ' H' o a := by
  cases o with
  | lst ws => obtain ⟨vs, h1, h2⟩ := h; exact ⟨vs, e.trans h1, h2.mono0 x⟩
  | lock ws => obtain ⟨o, vs, h1, h2⟩ := h; exact ⟨o, vs, e.trans h1, h2.mono0 x⟩
  | st ws => exact h
  | ins c fs => obtain ⟨dx, vfs, h1, h2, h3⟩ := h; exact ⟨dx, vfs, e.trans h1, h2, h3.mono0 x⟩
  | dct kvs =>
    rcases h with ⟨ks, h1, h2, h3⟩ | ⟨h0, h1, o, es, ep, xs, h2, h3, h4, h5, h6, h7⟩
    · exact .inl ⟨ks, e.trans h1, h2, h3.mono0 x⟩
    · exact .inr ⟨h0, h1, o, es, ep, xs, e.trans h2, h3, h4, h5, h6, h7.mono0 x⟩
/-- no tuple is an object of the store -/
theorem RO.notTup {o : MObj} {a : Addr} (h : RO C ρ H o a) : ∀ vs, H a ≠ some (.tup vs) := fun vs q => by
  cases o with
  | lst ws => obtain ⟨vs, h1, h2⟩ := h; rw [q] at h1; cases h1
  | lock ws => obtain ⟨o, vs, h1, h2⟩ := h; rw [q] at h1; cases h1
  | st ws => exact h
  | ins c fs => obtain ⟨dx, vfs, h1, h2, h3⟩ := h; rw [q] at h1; cases h1
  | dct kvs =>
    rcases h with ⟨ks, h1, h2, h3⟩ | ⟨h0, h1, o, es, ep, xs, h2, h3, h4, h5, h6, h7⟩
    · rw [q] at h1; cases h1
    · rw [q] at h2; cases h2
theorem RS.mem {m : Store} (R : RS C ρ H m) {a : Addr} (h : a ∈ ρ) : ∃ (n : Nat) (o : MObj), ρ[n]? = some a ∧ m[n]? = some o ∧ RO C ρ H o a := by
  obtain ⟨n, hn, e⟩ := List.getElem_of_mem h
  have e1 : ρ[n]? = some a := by rw [List.getElem?_eq_getElem hn, e]
  have hm : n < m.length := by rw [← R.len]; exact hn
  exact ⟨n, m[n], e1, List.getElem?_eq_getElem hm, R.obj n _ a (List.getElem?_eq_getElem hm) e1⟩
theorem RS.notTup {m : Store} (R : RS C ρ H m) {a : Addr} {vs : List V} (h : H a = some (.tup vs)) : a ∉ ρ := fun q => by
  obtain ⟨n, o, _, _, r⟩ := R.mem q
  exact r.notTup vs h
theorem Ext.ext0 {m : Store} (R : RS C ρ H m) (x : Ext ρ H ρ' H') : Ext0 ρ H ρ' H' :=
  ⟨fun n a h => pre_get x.pre h, fun a vs h => x.keep a _ h (R.notTup h) (fun _ z => by cases z), fun a o h hn nt => ⟨x.keep a o h hn nt.nt, x.out h hn nt.nt⟩⟩
theorem Sm.ext0 (x : Sm H H') : Ext0 ρ H ρ H' := ⟨fun n a h => h, fun a vs h => x.keep a _ h (fun _ z => by cases z), fun a o h hn nt => ⟨x.keep a o h nt.nt, hn⟩⟩
theorem RO.there {o : MObj} {a : Addr} (h : RO C ρ H o a) : ∃ u, H a = some u ∧ ∀ ps, u ≠ .tbl ps := by
  cases o with
  | lst ws => obtain ⟨vs, h1, h2⟩ := h; exact ⟨_, h1, fun _ z => by cases z⟩
  | lock ws => obtain ⟨o, vs, h1, h2⟩ := h; exact ⟨_, h1, fun _ z => by cases z⟩
  | st ws => exact h.elim
  | ins c fs => obtain ⟨dx, vfs, h1, h2, h3⟩ := h; exact ⟨_, h1, fun _ z => by cases z⟩
  | dct kvs =>
    rcases h with ⟨ks, h1, h2, h3⟩ | ⟨h0, h1, o, es, ep, xs, h2, h3, h4, h5, h6, h7⟩
    · exact ⟨_, h1, fun _ z => by cases z⟩
    · exact ⟨_, h2, fun _ z => by cases z⟩
theorem RO.notTx {o : MObj} {a : Addr} (h : RO C ρ H o a) : ∃ u, H a = some u ∧ ¬ Tx a u := by
  cases o with
  | lst ws => obtain ⟨vs, h1, h2⟩ := h; exact ⟨_, h1, fun z => by rcases z with ⟨_, z⟩ | ⟨_, z⟩ <;> cases z⟩
  | lock ws => obtain ⟨o, vs, h1, h2⟩ := h; exact ⟨_, h1, fun z => by rcases z with ⟨_, z⟩ | ⟨_, z⟩ <;> cases z⟩
  | st ws => exact h.elim
  | ins c fs => obtain ⟨dx, vfs, h1, h2, h3⟩ := h; exact ⟨_, h1, fun z => by rcases z with ⟨_, z⟩ | ⟨_, z⟩ <;> cases z⟩
  | dct kvs =>
    rcases h with ⟨ks, h1, h2, h3⟩ | ⟨h0, h1, o, es, ep, xs, h2, h3, h4, h5, h6, h7⟩
    · exact ⟨_, h1, fun z => by rcases z with ⟨_, z⟩ | ⟨_, z⟩ <;> cases z⟩
    · exact ⟨_, h2, ext_notTx h4⟩
theorem RO.sm (x : Sm H H') {o : MObj} {a : Addr} (h : RO C ρ H o a) : RO C ρ H' o a := by
  obtain ⟨u, e, nt⟩ := h.there
  exact h.mono0 x.ext0 (by rw [e, x.keep a u e nt])
theorem RS.sm {m : Store} (x : Sm H H') (R : RS C ρ H m) : RS C ρ H' m := ⟨R.len, R.nd, fun n o a h e => (R.obj n o a h e).sm x, x.tabs R.tabs⟩
theorem REn.ext {en : En} {σ : L2.St} (x : Ext0 ρ H ρ' H') (E : REn C ρ H en σ) : REn C ρ' H' en σ := ⟨E.1, fun i w h => by
  obtain ⟨v, e, r⟩ := E.2 i w h
  exact ⟨v, e, r.mono0 x⟩⟩
/-- a new object of the store -/
theorem RS.alloc {m : Store} {a : Addr} {u : HO} {o : MObj} (R : RS C ρ H m) (hn : H a = none) (h : RO C (ρ ++ [a]) (upd H a u) o a) : RS C (ρ ++ [a]) (upd H a u) (m ++ [o]) ∧ Ext ρ H (ρ ++ [a]) (upd H a u) := by
  have na : a ∉ ρ := fun q => by
    obtain ⟨n, o', _, _, r⟩ := R.mem q
    obtain ⟨u, e, _⟩ := r.there
    rw [hn] at e; cases e
  have x : Ext ρ H (ρ ++ [a]) (upd H a u) := by
    refine ⟨List.prefix_append _ _, fun b o' e _ nt => (Sm.upd hn).keep b o' e nt, fun b hb hb' o' e => ?_⟩
    rcases List.mem_append.mp hb with q | q
    · exact absurd q hb'
    · rw [List.mem_singleton.mp q, hn] at e; cases e
  refine ⟨⟨by simp [R.len], List.nodup_append.mpr ⟨R.nd, by simp, fun b hb c hc => by rw [List.mem_singleton.mp hc]; rintro rfl; exact na hb⟩, fun n o' b h1 h2 => ?_, (Sm.upd hn).tabs R.tabs⟩, x⟩
  by_cases hl : n < m.length
  · rw [List.getElem?_append_left hl] at h1
    rw [List.getElem?_append_left (by rw [R.len]; exact hl)] at h2
    have q := R.obj n o' b h1 h2
    refine q.mono0 (x.ext0 R) (upd_ne ?_)
    rintro rfl
    exact na (List.mem_of_getElem? h2)
  · have hl' : m.length ≤ n := Nat.not_lt.mp hl
    rw [List.getElem?_append_right hl'] at h1
    rw [List.getElem?_append_right (by rw [R.len]; exact hl')] at h2
    have e0 : n - m.length = 0 := by
      have := (List.getElem?_eq_some_iff.mp h1).1
      simp at this; omega
    rw [e0] at h1
    rw [R.len, e0] at h2
    simp at h1 h2
    subst h1 h2
    exact h
/-- an object of the store written -/
theorem RS.write {m : Store} {n : Nat} {a : Addr} {u : HO} {o : MObj} (R : RS C ρ H m) (ha : ρ[n]? = some a) (nt : ∀ vs, H a ≠ some (.tup vs)) (h : RO C ρ (upd H a u) o a) : RS C ρ (upd H a u) (m.set n o) ∧ Ext ρ H ρ (upd H a u) := by
  have am : a ∈ ρ := List.mem_of_getElem? ha
  have x : Ext ρ H ρ (upd H a u) := ⟨List.prefix_refl _, fun b o' e hn _ => by rw [upd_ne (fun z => hn (by rw [z]; exact am))]; exact e, fun b h n => absurd h n⟩
  obtain ⟨n0, o0, _, _, r0⟩ := R.mem am
  obtain ⟨u0, e0, t0⟩ := r0.notTx
  refine ⟨⟨by simp [R.len], R.nd, fun k o' b h1 h2 => ?_, tabs_upd R.tabs e0 t0⟩, x⟩
  rw [List.getElem?_set] at h1
  by_cases hk : n = k
  · subst hk
    rw [if_pos rfl] at h1
    split at h1
    · cases h1; rw [ha] at h2; cases h2; exact h
    · cases h1
  · rw [if_neg hk] at h1
    refine (R.obj k o' b h1 h2).mono0 (x.ext0 R) (upd_ne ?_)
    rintro rfl
    obtain ⟨l1, e1⟩ := List.getElem?_eq_some_iff.mp ha
    obtain ⟨l2, e2⟩ := List.getElem?_eq_some_iff.mp h2
    exact hk ((List.getElem_inj R.nd).mp (e1.trans e2.symm))
theorem RS.get {m : Store} (R : RS C ρ H m) {n : Nat} {o : MObj} (h : m[n]? = some o) : ∃ a, ρ[n]? = some a ∧ RO C ρ H o a := by
  have hn : n < ρ.length := by rw [R.len]; exact (List.getElem?_eq_some_iff.mp h).1
  exact ⟨ρ[n], List.getElem?_eq_getElem hn, R.obj n o _ h (List.getElem?_eq_getElem hn)⟩
end
end Ev

set_option Elab.async false
set_option linter.all false
set_option maxRecDepth 100000
set_option maxHeartbeats 4000000
/-! What nothing reaches may go; results. -/
namespace Ev
open PySem PySem.Spec PyProof.Rows L2
open Classical
section
variable {C : Cf} {ρ ρ' : List Addr} {H H' : Hp}
mutual
theorem RW.map (f : Nat → Nat) (hn : ∀ a, a ∉ ρ → a ∉ ρ') : ∀ {w : W} {v : V}, (∀ r ∈ w.refs, ∀ a, ρ[r]? = some a → ρ'[f r]? = some a) → RW C ρ H w v → RW C ρ' H (w.ren f) v
  | .non, _, _, h => by rw [RW] at h; rw [W.ren, RW]; exact h; all_goals (intros; contradiction)
  | .bl _, _, _, h => by rw [RW] at h; rw [W.ren, RW]; exact h; all_goals (intros; contradiction)
  | .int _, _, _, h => by rw [RW] at h; rw [W.ren, RW]; exact h; all_goals (intros; contradiction)
  | .str _, _, _, h => by rw [RW] at h; rw [W.ren, RW]; exact h; all_goals (intros; contradiction)
  | .tup ws, v, hf, h => by
    rw [RW] at h
    obtain ⟨a, vs, rfl, e, r⟩ := h
    rw [W.ren, RW]
    exact ⟨a, vs, rfl, e, RWs.map f hn (by rw [W.refs] at hf; exact hf) r⟩
  | .ref n, v, hf, h => by
    rw [RW] at h
    obtain ⟨a, e, rfl⟩ := h
    rw [W.ren, RW]
    exact ⟨a, hf n (by rw [W.refs]; simp) a e, rfl⟩
  | .obj c ws, v, hf, h => by
    rw [RW] at h
    obtain ⟨a, dx, fs, rfl, h1, e, l, r⟩ := h
    rw [W.ren, RW]
    exact ⟨a, dx, fs, rfl, hn a h1, e, l, RWs.map f hn (by rw [W.refs] at hf; exact hf) r⟩
  | .exc c ws, v, hf, h => by
    rw [RW] at h
    obtain ⟨a, d, rfl, h1, e, r⟩ := h
    rw [W.ren, RW]
    refine ⟨a, d, rfl, hn a h1, e, ?_⟩
    rcases r with r | ⟨dx, fs, ed, hd, e2, l, r⟩
    · obtain ⟨r, e0⟩ := r; subst r; exact .inl ⟨by rw [W.renL], e0⟩
    · exact .inr ⟨dx, fs, ⟨ed.1, fun z => ed.2 (by cases ws <;> simp [W.renL] at z ⊢)⟩, hn dx hd, e2, l, RWs.map f hn (by rw [W.refs] at hf; exact hf) r⟩
theorem RWs.map (f : Nat → Nat) (hn : ∀ a, a ∉ ρ → a ∉ ρ') : ∀ {ws : List W} {vs : List V}, (∀ r ∈ W.refsL ws, ∀ a, ρ[r]? = some a → ρ'[f r]? = some a) → RWs C ρ H ws vs → RWs C ρ' H (W.renL f ws) vs
  | [], vs, _, h => by rw [RWs] at h; rw [W.renL, RWs]; exact h
  | w :: ws, vs, hf, h => by
    rw [RWs] at h
    obtain ⟨v, r, rfl, hv, hr⟩ := h
    rw [W.refsL] at hf
    rw [W.renL, RWs]
    exact ⟨v, r, rfl, RW.map f hn (fun r q => hf r (List.mem_append_left _ q)) hv, RWs.map f hn (fun r q => hf r (List.mem_append_right _ q)) hr⟩
end
mutual
theorem W.ren_id {f : Nat → Nat} : ∀ {w : W}, (∀ r ∈ w.refs, f r = r) → w.ren f = w
  | .non, _ => by rw [W.ren]; all_goals (intros; contradiction)
  | .bl _, _ => by rw [W.ren]; all_goals (intros; contradiction)
  | .int _, _ => by rw [W.ren]; all_goals (intros; contradiction)
  | .str _, _ => by rw [W.ren]; all_goals (intros; contradiction)
  | .tup ws, h => by rw [W.refs] at h; rw [W.ren, W.renL_id h]
  | .ref n, h => by rw [W.ren, h n (by rw [W.refs]; simp)]
  | .obj c ws, h => by rw [W.refs] at h; rw [W.ren, W.renL_id h]
  | .exc c ws, h => by rw [W.refs] at h; rw [W.ren, W.renL_id h]
theorem W.renL_id {f : Nat → Nat} : ∀ {ws : List W}, (∀ r ∈ W.refsL ws, f r = r) → W.renL f ws = ws
  | [], _ => by rw [W.renL]
  | w :: ws, h => by
    rw [W.refsL] at h
    rw [W.renL, W.ren_id fun r q => h r (List.mem_append_left _ q), W.renL_id fun r q => h r (List.mem_append_right _ q)]
end
theorem W.renL_map {f : Nat → Nat} : ∀ ws : List W, W.renL f ws = ws.map (W.ren f)
  | [] => by rw [W.renL, List.map_nil]
  | w :: ws => by rw [W.renL, List.map_cons, W.renL_map ws]
theorem W.refsL_mem : ∀ {ws : List W} {r : Nat}, r ∈ W.refsL ws ↔ ∃ w ∈ ws, r ∈ w.refs
  | [], r => by rw [W.refsL]; simp
  | w :: ws, r => by rw [W.refsL, List.mem_append, W.refsL_mem]; simp
mutual
theorem RW.lt : ∀ {w : W} {v : V}, RW C ρ H w v → ∀ r ∈ w.refs, r < ρ.length
  | .non, _, _ => by rw [W.refs]; · simp
                     all_goals (intros; contradiction)
  | .bl _, _, _ => by rw [W.refs]; · simp
                      all_goals (intros; contradiction)
  | .int _, _, _ => by rw [W.refs]; · simp
                       all_goals (intros; contradiction)
  | .str _, _, _ => by rw [W.refs]; · simp
                       all_goals (intros; contradiction)
  | .tup ws, v, h => by
    rw [RW] at h
    obtain ⟨a, vs, rfl, e, r⟩ := h
    rw [W.refs]
    exact RWs.lt r
  | .ref n, v, h => by
    rw [RW] at h
    obtain ⟨a, e, rfl⟩ := h
    rw [W.refs]
    intro r hr
    rw [List.mem_singleton.mp hr]
    exact (List.getElem?_eq_some_iff.mp e).1
  | .obj c ws, v, h => by
    rw [RW] at h
    obtain ⟨a, dx, fs, rfl, h1, e, l, r⟩ := h
    rw [W.refs]
    exact RWs.lt r
  | .exc c ws, v, h => by
    rw [RW] at h
    obtain ⟨a, d, rfl, h1, e, r⟩ := h
    rw [W.refs]
    rcases r with r | ⟨dx, fs, ed, hd, e2, l, r⟩
    · obtain ⟨r, _⟩ := r
      subst r
      rw [W.refsL]
      simp
    · exact RWs.lt r
theorem RWs.lt : ∀ {ws : List W} {vs : List V}, RWs C ρ H ws vs → ∀ r ∈ W.refsL ws, r < ρ.length
  | [], vs, h => by rw [W.refsL]; simp
  | w :: ws, vs, h => by
    rw [RWs] at h
    obtain ⟨v, r, rfl, hv, hr⟩ := h
    rw [W.refsL]
    intro r q
    rcases List.mem_append.mp q with q | q
    · exact RW.lt hv r q
    · exact RWs.lt hr r q
end
theorem REnt.lt : ∀ {kvs : List (W × W)} {xs : List (NestedKey × Addr × Value)}, REnt C ρ H kvs xs → ∀ r ∈ W.refsL (kvs.map (·.1)) ++ W.refsL (kvs.map (·.2)), r < ρ.length
  | [], xs, h => by simp [W.refsL]
  | kv :: q, xs, h => by
    rw [REnt] at h
    obtain ⟨y, q', rfl, ⟨h1, h2, h3, v, h4, h5⟩, hr⟩ := h
    have ih := REnt.lt hr
    intro r hm
    rw [List.map_cons, List.map_cons, W.refsL, W.refsL] at hm
    simp only [List.mem_append] at hm ih
    rcases hm with (z | z) | (z | z)
    · exact h3.lt r z
    · exact ih r (.inl z)
    · exact h4.lt r z
    · exact ih r (.inr z)
theorem keyW_refs (k : Key) : (keyW k).refs = [] := by cases k <;> rfl
theorem RO.lt {o : MObj} {a : Addr} (h : RO C ρ H o a) : ∀ r ∈ o.refs, r < ρ.length := by
  cases o with
  | lst ws => obtain ⟨vs, h1, h2⟩ := h; exact h2.lt
  | lock ws => obtain ⟨o, vs, h1, h2⟩ := h; exact h2.lt
  | st ws => exact h.elim
  | ins c fs => obtain ⟨dx, vfs, h1, h2, h3⟩ := h; exact h3.lt
  | dct kvs =>
    rcases h with ⟨ks, h1, h2, h3⟩ | ⟨h0, h1, o, es, ep, xs, h2, h3, h4, h5, h6, h7⟩
    · intro r hm
      rcases List.mem_append.mp (show r ∈ W.refsL (kvs.map (·.1)) ++ W.refsL (kvs.map (·.2)) from hm) with z | z
      · rw [h2] at z
        obtain ⟨w, hw, hr⟩ := W.refsL_mem.mp z
        obtain ⟨p, _, rfl⟩ := List.mem_map.mp hw
        rw [keyW_refs] at hr
        cases hr
      · exact h3.lt r z
    · exact h7.lt
theorem REnt.map (hn : ∀ a, a ∉ ρ → a ∉ ρ') : ∀ {kvs : List (W × W)} {xs : List (NestedKey × Addr × Value)}, (∀ r ∈ W.refsL (kvs.map (·.1)) ++ W.refsL (kvs.map (·.2)), ∀ a, ρ[r]? = some a → ρ'[r]? = some a) → REnt C ρ H kvs xs → REnt C ρ' H kvs xs
  | [], xs, _, h => by rw [REnt] at h ⊢; exact h
  | kv :: q, xs, hf, h => by
    rw [REnt] at h ⊢
    obtain ⟨y, q', rfl, ⟨h1, h2, h3, v, h4, h5⟩, hr⟩ := h
    rw [List.map_cons, List.map_cons, W.refsL, W.refsL] at hf
    have e3 := RW.map (C := C) (H := H) id hn (fun r z a => hf r (by simp [z]) a) h3
    have e4 := RW.map (C := C) (H := H) id hn (fun r z a => hf r (by simp [z]) a) h4
    rw [W.ren_id (f := id) fun _ _ => rfl] at e3 e4
    exact ⟨y, q', rfl, ⟨h1, h2, e3, v, e4, h5⟩, REnt.map hn (fun r z => hf r (by simp only [List.mem_append] at z ⊢; rcases z with z | z <;> simp [z])) hr⟩
theorem RWs.same (hn : ∀ a, a ∉ ρ → a ∉ ρ') {ws : List W} {vs : List V} (hf : ∀ r ∈ W.refsL ws, ∀ a, ρ[r]? = some a → ρ'[r]? = some a) (h : RWs C ρ H ws vs) : RWs C ρ' H ws vs := by
  have e := RWs.map (C := C) (H := H) id hn hf h
  rw [W.renL_id (f := id) fun _ _ => rfl] at e
  exact e
theorem RO.same (hn : ∀ a, a ∉ ρ → a ∉ ρ') {o : MObj} {a : Addr} (hf : ∀ r ∈ o.refs, ∀ a, ρ[r]? = some a → ρ'[r]? = some a) (h : RO C ρ H o a) : RO C ρ' H o a := by
  cases o with
  | lst ws => obtain ⟨vs, h1, h2⟩ := h; exact ⟨vs, h1, h2.same hn hf⟩
  | lock ws => obtain ⟨o, vs, h1, h2⟩ := h; exact ⟨o, vs, h1, h2.same hn hf⟩
  | st ws => exact h.elim
  | ins c fs => obtain ⟨dx, vfs, h1, h2, h3⟩ := h; exact ⟨dx, vfs, h1, h2, h3.same hn hf⟩
  | dct kvs =>
    rcases h with ⟨ks, h1, h2, h3⟩ | ⟨h0, h1, o, es, ep, xs, h2, h3, h4, h5, h6, h7⟩
    · exact .inl ⟨ks, h1, h2, h3.same hn fun r z => hf r (List.mem_append_right _ z)⟩
    · exact .inr ⟨h0, h1, o, es, ep, xs, h2, h3, h4, h5, h6, REnt.map hn hf h7⟩

/-! ### what nothing reaches -/
theorem filterMap_get {α : Type} {l : List Nat} {xs : List α} (h : ∀ r ∈ l, r < xs.length) : (l.filterMap (xs[·]?)).length = l.length ∧ ∀ (j r : Nat), l[j]? = some r → (l.filterMap (xs[·]?))[j]? = xs[r]? := by
  induction l with
  | nil => exact ⟨rfl, fun j r e => by simp at e⟩
  | cons q l ih =>
    obtain ⟨i1, i2⟩ := ih fun r hr => h r (List.mem_cons_of_mem _ hr)
    have hq : q < xs.length := h q List.mem_cons_self
    have e : (q :: l).filterMap (xs[·]?) = xs[q] :: l.filterMap (xs[·]?) := by
      rw [List.filterMap_cons, List.getElem?_eq_getElem hq]
    rw [e]
    refine ⟨by simp [i1], fun j r hj => ?_⟩
    cases j with
    | zero => simp at hj; subst hj; simp [List.getElem?_eq_getElem hq]
    | succ j => simpa using i2 j r (by simpa using hj)
theorem gc_core {m0 m1 : Store} {l : List Nat} (R0 : RS C ρ H m0) (x : Ext ρ H ρ' H') (R1 : RS C ρ' H' m1) (ko : keepOld m0 m1) (fl : flatNews m0.length m1 l) (nd : l.Nodup) (hl : ∀ r ∈ l, m0.length ≤ r) :
    RS C (ρ ++ l.filterMap (ρ'[·]?)) H' (m1.take m0.length ++ l.filterMap (m1[·]?)) ∧ Ext ρ H (ρ ++ l.filterMap (ρ'[·]?)) H' ∧
      (∀ a, a ∉ ρ' → a ∉ ρ ++ l.filterMap (ρ'[·]?)) ∧ ∀ r, (r < m0.length ∨ r ∈ l) → ∀ a, ρ'[r]? = some a → (ρ ++ l.filterMap (ρ'[·]?))[rn m0.length l r]? = some a := by
  have hin : ∀ r ∈ l, r < m1.length := fun r hr => by
    obtain ⟨o, e, _⟩ := fl r hr
    exact (List.getElem?_eq_some_iff.mp e).1
  have hin' : ∀ r ∈ l, r < ρ'.length := fun r hr => by rw [R1.len]; exact hin r hr
  obtain ⟨f1, f2⟩ := filterMap_get hin
  obtain ⟨g1, g2⟩ := filterMap_get hin'
  have n0 : ρ.length = m0.length := R0.len
  have le : m0.length ≤ m1.length := by
    cases hz : m0.length with
    | zero => exact Nat.zero_le _
    | succ k =>
      obtain ⟨o, e, _⟩ := ko k (by omega)
      have := (List.getElem?_eq_some_iff.mp e).1
      omega
  have pre : ∀ (r : Nat) a, r < m0.length → ρ'[r]? = some a → ρ[r]? = some a := fun r a hr e => by
    have e2 : ρ[r]? = some ρ[r] := List.getElem?_eq_getElem (by rw [n0]; exact hr)
    have e3 := pre_get x.pre e2
    rw [e] at e3; cases e3; exact e2
  have notm : ∀ a, a ∉ ρ' → a ∉ ρ ++ l.filterMap (ρ'[·]?) := fun a ha q => by
    rcases List.mem_append.mp q with q | q
    · exact ha (x.pre.subset q)
    · obtain ⟨r, _, e⟩ := List.mem_filterMap.mp q
      exact ha (List.mem_of_getElem? e)
  have look : ∀ r, (r < m0.length ∨ r ∈ l) → ∀ a, ρ'[r]? = some a → (ρ ++ l.filterMap (ρ'[·]?))[rn m0.length l r]? = some a := fun r hr a e => by
    unfold rn
    by_cases h : r < m0.length
    · rw [if_pos h, List.getElem?_append_left (by rw [n0]; exact h)]
      exact pre r a h e
    · rw [if_neg h]
      have hm : r ∈ l := hr.resolve_left h
      rw [List.getElem?_append_right (by rw [n0]; omega), n0, Nat.add_sub_cancel_left]
      have hi : l.idxOf r < l.length := List.idxOf_lt_length_of_mem hm
      have e2 : l[l.idxOf r]? = some r := by rw [List.getElem?_eq_getElem hi]; simp
      rw [g2 _ r e2]
      exact e
  have low : ∀ r, r < m0.length → ∀ a, ρ'[r]? = some a → (ρ ++ l.filterMap (ρ'[·]?))[r]? = some a := fun r hr a e => by
    rw [List.getElem?_append_left (by rw [n0]; exact hr)]
    exact pre r a hr e
  have memg : ∀ a, a ∈ l.filterMap (ρ'[·]?) → a ∈ ρ' ∧ a ∉ ρ := fun a q => by
    obtain ⟨r, hr, e⟩ := List.mem_filterMap.mp q
    refine ⟨List.mem_of_getElem? e, fun h => ?_⟩
    obtain ⟨k, hk, ek⟩ := List.getElem_of_mem h
    have ek' : ρ'[k]? = some a := pre_get x.pre (by rw [List.getElem?_eq_getElem hk, ek])
    obtain ⟨l1, e1⟩ := List.getElem?_eq_some_iff.mp e
    obtain ⟨l2, e2⟩ := List.getElem?_eq_some_iff.mp ek'
    have : r = k := (List.getElem_inj R1.nd).mp (e1.trans e2.symm)
    have := hl r hr
    omega
  refine ⟨⟨?_, ?_, ?_, R1.tabs⟩, ⟨List.prefix_append _ _, x.keep, fun a ha hn => ?_⟩, notm, look⟩
  · simp only [List.length_append, List.length_take, f1, g1, n0]
    omega
  · refine List.nodup_append.mpr ⟨R0.nd, ?_, fun a ha b hb => ?_⟩
    · refine List.pairwise_iff_getElem.mpr fun i j hi' hj' hij q => ?_
      have hi : i < l.length := by rw [g1] at hi'; exact hi'
      have hj : j < l.length := by rw [g1] at hj'; exact hj'
      have a1 := g2 i l[i] (List.getElem?_eq_getElem hi)
      have a2 := g2 j l[j] (List.getElem?_eq_getElem hj)
      rw [List.getElem?_eq_getElem hi', List.getElem?_eq_getElem (hin' _ (List.getElem_mem hi))] at a1
      rw [List.getElem?_eq_getElem hj', List.getElem?_eq_getElem (hin' _ (List.getElem_mem hj))] at a2
      have q2 : ρ'[l[i]]'(hin' _ (List.getElem_mem hi)) = ρ'[l[j]]'(hin' _ (List.getElem_mem hj)) := (Option.some.inj a1).symm.trans (q.trans (Option.some.inj a2))
      have q3 : l[i] = l[j] := (List.getElem_inj R1.nd).mp q2
      have : i = j := (List.getElem_inj nd).mp q3
      omega
    · rintro rfl
      exact (memg _ hb).2 ha
  · intro n o a h1 h2
    have done : ∀ k, m1[k]? = some o → ρ'[k]? = some a → o.bel m0.length → RO C (ρ ++ l.filterMap (ρ'[·]?)) H' o a := fun k e1 e2 hb =>
      (R1.obj k o a e1 e2).same notm fun r hr b eb => low r (hb r hr) b eb
    by_cases hn : n < m0.length
    · rw [List.getElem?_append_left (by rw [List.length_take]; omega), List.getElem?_take, if_pos hn] at h1
      rw [List.getElem?_append_left (by rw [n0]; exact hn)] at h2
      have h3 := pre_get x.pre h2
      obtain ⟨o', e', hb⟩ := ko n hn
      rw [h1] at e'; cases e'
      refine done n h1 h3 ?_
      rcases hb with hb | hb
      · have := (R0.obj n o a hb h2).lt
        rw [n0] at this
        exact this
      · exact hb
    · have hn' : m0.length ≤ n := Nat.not_lt.mp hn
      have tl : (m1.take m0.length).length = m0.length := by rw [List.length_take]; omega
      rw [List.getElem?_append_right (by rw [tl]; exact hn'), tl] at h1
      rw [List.getElem?_append_right (by rw [n0]; exact hn'), n0] at h2
      have hj : n - m0.length < l.length := by
        have := (List.getElem?_eq_some_iff.mp h1).1
        rw [f1] at this; exact this
      rw [f2 _ l[n - m0.length] (List.getElem?_eq_getElem hj)] at h1
      rw [g2 _ l[n - m0.length] (List.getElem?_eq_getElem hj)] at h2
      obtain ⟨o', e', hb⟩ := fl _ (List.getElem_mem hj)
      rw [h1] at e'; cases e'
      exact done _ h1 h2 hb
  · rcases List.mem_append.mp ha with q | q
    · exact absurd q hn
    · exact x.new a (memg a q).1 hn
theorem ddN_mem {x : Nat} : ∀ {l : List Nat}, x ∈ ddN l ↔ x ∈ l
  | [] => by rw [ddN]
  | y :: l => by
    rw [ddN, List.mem_cons, List.mem_filter, ddN_mem, List.mem_cons, decide_eq_true_eq]
    by_cases h : x = y <;> simp [h]
theorem ddN_nodup : ∀ l : List Nat, (ddN l).Nodup
  | [] => by rw [ddN]; exact .nil
  | y :: l => by
    rw [ddN]
    refine List.nodup_cons.mpr ⟨fun h => ?_, (ddN_nodup l).filter _⟩
    have := (List.mem_filter.mp h).2
    simp at this
theorem news_nodup (n : Nat) (ws : List W) : (news n ws).Nodup := ddN_nodup _
theorem news_mem {n : Nat} {ws : List W} {r : Nat} : r ∈ news n ws ↔ r ∈ W.refsL ws ∧ n ≤ r := by
  unfold news
  rw [ddN_mem, List.mem_filter, decide_eq_true_eq]
end
/-! ### results -/
section
variable (C : Cf)
/-- what is wanted of a result, by the relation rel of what is given with what the layer gives -/
def PR {α β : Type} (rel : List Addr → Hp → α → β → Prop) (σ : L2.St) (X : WX) (ρ : List Addr) (H : Hp) (r : Res α) (Q : β → Hp → Prop) : Prop :=
  match r with
  | .ok a m => ∀ b ρ' H', Ext ρ H ρ' H' → RS C ρ' H' m → rel ρ' H' a b → Q b H'
  | .exc c ws m => ∀ d ρ' H', Ext ρ H ρ' H' → RS C ρ' H' m → RX C ρ' H' c ws d → X (.ref (C.ca c)) d σ H'
  | .bad => False
abbrev PW' (σ : L2.St) (X : WX) (ρ : List Addr) (H : Hp) (r : Res W) (Q : VK) : Prop := PR C (RW C) σ X ρ H r Q
abbrev PL (σ : L2.St) (X : WX) (ρ : List Addr) (H : Hp) (r : Res (List W)) (Q : List V → Hp → Prop) : Prop := PR C (RWs C) σ X ρ H r Q
abbrev PB (σ : L2.St) (X : WX) (ρ : List Addr) (H : Hp) (r : Res Bool) (Q : Bool → Hp → Prop) : Prop := PR C (fun _ _ a b => a = b) σ X ρ H r Q
end
section
variable {C : Cf} {ρ ρ' : List Addr} {H H' : Hp} {σ : L2.St} {X : WX}
theorem PR.up {α β : Type} {rel : List Addr → Hp → α → β → Prop} {r : Res α} {Q : β → Hp → Prop} (x : Ext ρ H ρ' H') (h : PR C rel σ X ρ H r Q) : PR C rel σ X ρ' H' r Q := by
  cases r with
  | ok a m => exact fun b ρ2 H2 y R q => h b ρ2 H2 (x.trans y) R q
  | exc c ws m => exact fun d ρ2 H2 y R q => h d ρ2 H2 (x.trans y) R q
  | bad => exact h
theorem PR.imp {α β : Type} {rel : List Addr → Hp → α → β → Prop} {r : Res α} {Q Q' : β → Hp → Prop} (h : PR C rel σ X ρ H r Q) (i : ∀ b H, Q b H → Q' b H) : PR C rel σ X ρ H r Q' := by
  cases r with
  | ok a m => exact fun b ρ2 H2 y R q => i _ _ (h b ρ2 H2 y R q)
  | exc c ws m => exact h
  | bad => exact h
/-- one after another -/
theorem PR.bind {α β γ δ : Type} {rel : List Addr → Hp → α → β → Prop} {rel' : List Addr → Hp → γ → δ → Prop} {r : Res α} {k : α → Store → Res γ} {Q : δ → Hp → Prop} (h : PR C rel' σ X ρ H (r.bind k) Q) :
    PR C rel σ X ρ H r (fun b H1 => ∃ ρ1 a m1, Ext ρ H ρ1 H1 ∧ RS C ρ1 H1 m1 ∧ rel ρ1 H1 a b ∧ r = .ok a m1 ∧ PR C rel' σ X ρ1 H1 (k a m1) Q) := by
  cases r with
  | ok a m => exact fun b ρ1 H1 x R q => ⟨ρ1, a, m, x, R, q, rfl, PR.up x h⟩
  | exc c ws m => exact h
  | bad => exact h
theorem PR.gc {r : Res W} {m0 : Store} {Q : VK} (R0 : RS C ρ H m0) (h : PR C (RW C) σ X ρ H (gc m0 r) Q) : PR C (RW C) σ X ρ H r Q := by
  cases r with
  | ok w m =>
    intro v ρ1 H1 x R q
    unfold Ev.gc at h
    simp only at h
    by_cases hc : keepOld m0 m ∧ flatNews m0.length m (news m0.length [w])
    · rw [if_pos hc] at h
      obtain ⟨g1, g2, g3, g4⟩ := gc_core R0 x R hc.1 hc.2 (news_nodup _ _) fun r hr => (news_mem.mp hr).2
      refine h v _ H1 g2 g1 (q.map (C := C) (H := H1) _ g3 fun r hr a e => g4 r ?_ a e)
      by_cases hl : r < m0.length
      · exact .inl hl
      · refine .inr (news_mem.mpr ⟨?_, Nat.not_lt.mp hl⟩)
        rw [W.refsL, W.refsL, List.append_nil]
        exact hr
    · rw [if_neg hc] at h
      exact h v ρ1 H1 x R q
  | exc c ws m =>
    intro d ρ1 H1 x R q
    unfold Ev.gc at h
    simp only at h
    by_cases hc : keepOld m0 m ∧ belowL m0.length ws
    · rw [if_pos hc] at h
      obtain ⟨g1, g2, g3, g4⟩ := gc_core (l := []) R0 x R hc.1 (fun r hr => by cases hr) .nil fun r hr => by cases hr
      simp only [List.filterMap_nil, List.append_nil] at g1 g2 g3 g4
      refine h d _ H1 g2 g1 ?_
      rcases q with q | ⟨dx, fs, ed, hd, e2, l, r⟩
      · exact .inl q
      · refine .inr ⟨dx, fs, ed, g3 _ hd, e2, l, r.same g3 fun r hr a e => ?_⟩
        have := g4 r (.inl (hc.2 r hr)) a e
        unfold rn at this
        rw [if_pos (hc.2 r hr)] at this
        exact this
    · rw [if_neg hc] at h
      exact h d ρ1 H1 x R q
  | bad => exact h
theorem PR.calm {α β : Type} {rel : List Addr → Hp → α → β → Prop} {r : Res α} {Q : β → Hp → Prop} {Y : WX} (h : PR C rel σ X ρ H (Res.calm r) Q) : PR C rel σ Y ρ H r Q := by
  cases r with
  | ok a m => exact h
  | exc c ws m => exact h.elim
  | bad => exact h
end
end Ev

set_option Elab.async false
set_option linter.all false
set_option maxRecDepth 100000
set_option maxHeartbeats 4000000
/-! Plain values in the heap: as keys, in order. -/
namespace Ev
open PySem PySem.Spec PyProof.Rows L2
open Classical
mutual
def Lies (h : Heap) : W → Value → Prop
  | .int i, u => ∃ t, u = .int i t
  | .str x, u => ∃ t, u = .str x t
  | .tup ws, u => ∃ a its, u = .ref a ∧ h.IsTuple a its ∧ LiesL h ws its.toList
  | _, _ => False
def LiesL (h : Heap) : List W → List Value → Prop
  | [], us => us = []
  | w :: ws, us => ∃ u r, us = u :: r ∧ Lies h w u ∧ LiesL h ws r
end
section
variable {C : Cf} {ρ : List Addr} {H : Hp} {X : Cx} {pins : List (Addr × Obj)} {σ : L2.St} {s : Shared}
theorem plainL_mem : ∀ {ws : List W}, W.plainL ws = true → ∀ w ∈ ws, w.plain = true
  | [], _, w, hw => by cases hw
  | u :: ws, h, w, hw => by
    rw [W.plainL, Bool.and_eq_true] at h
    rcases List.mem_cons.mp hw with rfl | hw
    · exact h.1
    · exact plainL_mem h.2 w hw
theorem plainL_of : ∀ {ws : List W}, (∀ w ∈ ws, w.plain = true) → W.plainL ws = true
  | [], _ => by rw [W.plainL]
  | u :: ws, h => by
    rw [W.plainL, h u List.mem_cons_self, plainL_of fun w hw => h w (List.mem_cons_of_mem _ hw)]
    rfl
mutual
theorem lies_of (I : Inv X pins σ H s) : ∀ {w : W} {v : V} {u : Value}, w.plain = true → RW C ρ H w v → RelV v u → Lies s.heap w u
  | .int i, v, u, _, h, r => by
    rw [RW] at h; subst h
    rw [Lies]; exact r
  | .str x, v, u, _, h, r => by
    rw [RW] at h; subst h
    rw [Lies]; exact r
  | .tup ws, v, u, hp, h, r => by
    rw [RW] at h
    obtain ⟨a, vs, rfl, e, q⟩ := h
    obtain rfl : u = .ref a := r
    obtain ⟨its, rv, ht, _⟩ := I.tuple (SqT.of e)
    rw [Lies]
    rw [W.plain] at hp
    exact ⟨a, its.toArray, rfl, ht, by simpa using liesL_of I hp q rv⟩
  | .non, _, _, hp, _, _ => by simp [W.plain] at hp
  | .bl _, _, _, hp, _, _ => by simp [W.plain] at hp
  | .ref _, _, _, hp, _, _ => by simp [W.plain] at hp
  | .obj _ _, _, _, hp, _, _ => by simp [W.plain] at hp
  | .exc _ _, _, _, hp, _, _ => by simp [W.plain] at hp
theorem liesL_of (I : Inv X pins σ H s) : ∀ {ws : List W} {vs : List V} {us : List Value}, W.plainL ws = true → RWs C ρ H ws vs → Vals vs us → LiesL s.heap ws us
  | [], vs, us, _, h, r => by
    rw [h.nil_iff] at r
    cases r
    rw [LiesL]
  | w :: ws, vs, us, hp, h, r => by
    obtain ⟨v, q, rfl, hv, hr⟩ := h.cons_iff
    rw [W.plainL, Bool.and_eq_true] at hp
    cases r with
    | cons r1 r2 =>
      rw [LiesL]
      exact ⟨_, _, rfl, lies_of I hp.1 hv r1, liesL_of I hp.2 hr r2⟩
end
mutual
theorem Lies.key {h : Heap} : ∀ {w : W} {u : Value}, Lies h w u → NestedIs h w.nk u
  | .int i, u, x => by rw [Lies] at x; obtain ⟨t, rfl⟩ := x; rw [W.nk]; exact .int _ _
  | .str i, u, x => by rw [Lies] at x; obtain ⟨t, rfl⟩ := x; rw [W.nk]; exact .text _ _
  | .tup ws, u, x => by
    rw [Lies] at x
    obtain ⟨a, its, rfl, ⟨o, ho, hc, n, hd⟩, r⟩ := x
    rw [W.nk]
    exact .tup ho hc hd (LiesL.keys r)
  | .non, _, x => by simp [Lies] at x
  | .bl _, _, x => by simp [Lies] at x
  | .ref _, _, x => by simp [Lies] at x
  | .obj _ _, _, x => by simp [Lies] at x
  | .exc _ _, _, x => by simp [Lies] at x
theorem LiesL.keys {h : Heap} : ∀ {ws : List W} {us : List Value}, LiesL h ws us → NestedAll h (W.nkL ws) us
  | [], us, x => by rw [LiesL] at x; subst x; rw [W.nkL]; exact .nil
  | w :: ws, us, x => by
    rw [LiesL] at x
    obtain ⟨u, r, rfl, h1, h2⟩ := x
    rw [W.nkL]
    exact .cons h1.key (LiesL.keys h2)
end
mutual
theorem nk_inj : ∀ {w u : W}, w.plain = true → u.plain = true → w.nk = u.nk → w = u
  | .int i, u, _, hu, e => by
    cases u <;> simp_all [W.nk, W.plain]
  | .str i, u, _, hu, e => by
    cases u <;> simp_all [W.nk, W.plain]
  | .tup ws, u, hw, hu, e => by
    cases u with
    | tup us =>
      rw [W.nk, W.nk] at e
      rw [W.plain] at hw hu
      rw [nkL_inj hw hu (NestedKey.tup.inj e)]
    | _ => simp_all [W.nk, W.plain]
  | .non, _, hp, _, _ => by simp [W.plain] at hp
  | .bl _, _, hp, _, _ => by simp [W.plain] at hp
  | .ref _, _, hp, _, _ => by simp [W.plain] at hp
  | .obj _ _, _, hp, _, _ => by simp [W.plain] at hp
  | .exc _ _, _, hp, _, _ => by simp [W.plain] at hp
theorem nkL_inj : ∀ {ws us : List W}, W.plainL ws = true → W.plainL us = true → W.nkL ws = W.nkL us → ws = us
  | [], [], _, _, _ => rfl
  | [], u :: us, _, _, e => by simp [W.nkL] at e
  | w :: ws, [], _, _, e => by simp [W.nkL] at e
  | w :: ws, u :: us, hw, hu, e => by
    rw [W.plainL, Bool.and_eq_true] at hw hu
    rw [W.nkL, W.nkL] at e
    injection e with e1 e2
    rw [nk_inj hw.1 hu.1 e1, nkL_inj hw.2 hu.2 e2]
end
theorem nk_eq {w u : W} (hw : w.plain = true) (hu : u.plain = true) : NestedKey.beq w.nk u.nk = decide (w = u) := by
  rw [← NestedKey.decide_eq]
  by_cases h : w = u
  · subst h; simp
  · rw [decide_eq_false h, decide_eq_false fun e => h (nk_inj hw hu e)]
mutual
theorem nk_depth : ∀ w : W, w.nk.depth = w.dep
  | .tup ws => by rw [W.nk, W.dep, NestedKey.depth, nkL_depth]
  | .int _ => by rw [W.nk, NestedKey.depth, W.dep]; all_goals (intros; contradiction)
  | .str _ => by rw [W.nk, NestedKey.depth, W.dep]; all_goals (intros; contradiction)
  | .non => by simp [W.nk, NestedKey.depth, W.dep]
  | .bl _ => by simp [W.nk, NestedKey.depth, W.dep]
  | .ref _ => by simp [W.nk, NestedKey.depth, W.dep]
  | .obj _ _ => by simp [W.nk, NestedKey.depth, W.dep]
  | .exc _ _ => by simp [W.nk, NestedKey.depth, W.dep]
theorem nkL_depth : ∀ ws : List W, NestedKey.depthAll (W.nkL ws) = W.depL ws
  | [] => by rw [W.nkL, W.depL, NestedKey.depthAll]
  | w :: ws => by rw [W.nkL, W.depL, NestedKey.depthAll, nk_depth, nkL_depth]
end
theorem depL_mem : ∀ {ws : List W}, ∀ w ∈ ws, w.dep ≤ W.depL ws
  | [], w, hw => by cases hw
  | u :: ws, w, hw => by
    rw [W.depL]
    rcases List.mem_cons.mp hw with rfl | hw
    · exact Nat.le_max_left _ _
    · exact Nat.le_trans (depL_mem w hw) (Nat.le_max_right _ _)
theorem lies_eq {A : Around} {w u : W} {a b : Value} (hw : w.plain = true) (hu : u.plain = true) (x : Lies s.heap w a) (y : Lies s.heap u b) (hr : A.units + w.dep < cLine) : SeqAt.EqAt A s a b (decide (w = u)) := by
  rw [← nk_eq hw hu]
  refine eqAt_key _ _ A s a b x.key y.key ?_
  rw [nk_depth, nk_depth]
  have := Nat.min_le_left w.dep u.dep
  omega
theorem LiesL.length {h : Heap} : ∀ {ws : List W} {us : List Value}, LiesL h ws us → ws.length = us.length
  | [], us, x => by rw [LiesL] at x; subst x; rfl
  | w :: ws, us, x => by
    rw [LiesL] at x
    obtain ⟨u, r, rfl, _, h2⟩ := x
    simp [h2.length]
theorem LiesL.get {h : Heap} : ∀ {ws : List W} {us : List Value} (i : Nat) (h1 : i < ws.length) (h2 : i < us.length), LiesL h ws us → Lies h ws[i] us[i]
  | [], us, i, h1, _, x => by simp at h1
  | w :: ws, us, i, h1, h2, x => by
    rw [LiesL] at x
    obtain ⟨u, r, rfl, q1, q2⟩ := x
    cases i with
    | zero => exact q1
    | succ i => exact LiesL.get i (by simpa using h1) (by simpa using h2) q2
theorem firstLt_map {e r : Nat → Bool} {fin : Bool} {f : Nat → Nat} : ∀ l : List Nat, SeqAt.firstLt e r fin (l.map f) = SeqAt.firstLt (fun i => e (f i)) (fun i => r (f i)) fin l
  | [] => rfl
  | j :: t => by
    rw [List.map_cons, SeqAt.firstLt, SeqAt.firstLt, firstLt_map t]
noncomputable def eAt (xs ys : List W) (i : Nat) : Bool := decide (xs[i]? = ys[i]?)
noncomputable def rAt (xs ys : List W) (i : Nat) : Bool := match xs[i]?, ys[i]? with
  | some x, some y => (W.ltb x y).getD false
  | _, _ => false
theorem firstLt_ltbL : ∀ (xs ys : List W) (k : Bool), W.ltbL xs ys = some k → SeqAt.firstLt (eAt xs ys) (rAt xs ys) (decide (xs.length < ys.length)) (List.range (min xs.length ys.length)) = k
  | [], [], k, h => by rw [W.ltbL] at h; cases h; rfl
  | [], _ :: _, k, h => by rw [W.ltbL] at h; cases h; simp [SeqAt.firstLt]
  | _ :: _, [], k, h => by rw [W.ltbL] at h; cases h; simp [SeqAt.firstLt]
  | x :: xs, y :: ys, k, h => by
    rw [W.ltbL, Option.bind_eq_some_iff] at h
    obtain ⟨b, hb, h⟩ := h
    rw [Option.map_eq_some_iff] at h
    obtain ⟨c, hc, hk⟩ := h
    have e1 : min (x :: xs).length (y :: ys).length = min xs.length ys.length + 1 := by simp only [List.length_cons]; omega
    rw [e1, List.range_succ_eq_map, SeqAt.firstLt]
    by_cases hxy : x = y
    · rw [if_pos hxy] at hk
      rw [if_pos (by simp [eAt, hxy]), firstLt_map]
      have := firstLt_ltbL xs ys c hc
      have e2 : decide ((x :: xs).length < (y :: ys).length) = decide (xs.length < ys.length) := by simp
      rw [e2, ← hk, ← this]
      rfl
    · rw [if_neg hxy] at hk
      rw [if_neg (by simp [eAt, hxy])]
      simp [rAt, hb, hk]
theorem ltbL_at : ∀ {xs ys : List W} {k : Bool}, W.ltbL xs ys = some k → ∀ (j : Nat) (h1 : j < xs.length) (h2 : j < ys.length), ∃ b, W.ltb xs[j] ys[j] = some b
  | [], _, _, _, j, h1, _ => by simp at h1
  | _ :: _, [], _, _, j, _, h2 => by simp at h2
  | x :: xs, y :: ys, k, h, j, h1, h2 => by
    rw [W.ltbL, Option.bind_eq_some_iff] at h
    obtain ⟨b, hb, h⟩ := h
    rw [Option.map_eq_some_iff] at h
    obtain ⟨c, hc, hk⟩ := h
    cases j with
    | zero => exact ⟨b, hb⟩
    | succ j => exact ltbL_at hc j (by simpa using h1) (by simpa using h2)
theorem ltb_plain : ∀ {w u : W} {k : Bool}, W.ltb w u = some k → (∃ i j, w = .int i ∧ u = .int j ∧ k = decide (i < j)) ∨ (∃ x y, w = .str x ∧ u = .str y ∧ k = decide (x.cps.toList < y.cps.toList)) ∨ ∃ ws us, w = .tup ws ∧ u = .tup us ∧ W.ltbL ws us = some k := by
  intro w u k h
  cases w <;> cases u <;> simp only [W.ltb, reduceCtorEq, Option.some.injEq] at h
  · exact .inl ⟨_, _, rfl, rfl, h.symm⟩
  · exact .inr (.inl ⟨_, _, rfl, rfl, h.symm⟩)
  · exact .inr (.inr ⟨_, _, rfl, rfl, h⟩)
/-- w < u, where they can be put in order -/
theorem lies_lt : ∀ (n : Nat) {A : Around} {w u : W} {a b : Value} {k : Bool}, w.dep ≤ n → w.plain = true → u.plain = true → W.ltb w u = some k → Lies s.heap w a → Lies s.heap u b → A.units + n + 1 < cLine → SeqAt.RcLt A s a b k := by
  intro n
  induction n with
  | zero =>
    intro A w u a b k hn hw hu hk x y hr
    rcases ltb_plain hk with ⟨i, j, rfl, rfl, rfl⟩ | ⟨p, q, rfl, rfl, rfl⟩ | ⟨ws, us, rfl, rfl, hk⟩
    · rw [Lies] at x y
      obtain ⟨t, rfl⟩ := x
      obtain ⟨t', rfl⟩ := y
      exact fun prog w E Q h => PyProof.Rows.lt_int h
    · rw [Lies] at x y
      obtain ⟨t, rfl⟩ := x
      obtain ⟨t', rfl⟩ := y
      exact fun prog w E Q h => PyProof.Rows.lt_str h
    · simp [W.dep] at hn
  | succ n ih =>
    intro A w u a b k hn hw hu hk x y hr
    rcases ltb_plain hk with ⟨i, j, rfl, rfl, rfl⟩ | ⟨p, q, rfl, rfl, rfl⟩ | ⟨ws, us, rfl, rfl, hk⟩
    · rw [Lies] at x y
      obtain ⟨t, rfl⟩ := x
      obtain ⟨t', rfl⟩ := y
      exact fun prog w E Q h => PyProof.Rows.lt_int h
    · rw [Lies] at x y
      obtain ⟨t, rfl⟩ := x
      obtain ⟨t', rfl⟩ := y
      exact fun prog w E Q h => PyProof.Rows.lt_str h
    · rw [Lies] at x y
      obtain ⟨c, its, rfl, hc, rx⟩ := x
      obtain ⟨d, its', rfl, hd, ry⟩ := y
      rw [W.plain] at hw hu
      rw [W.dep] at hn
      have l1 : ws.length = its.size := by simpa using rx.length
      have l2 : us.length = its'.size := by simpa using ry.length
      have ui : A.in1.units = A.units + 1 := rfl
      have key := SeqAt.RcLt.tuples (A := A) (e := eAt ws us) (r := rAt ws us) hc hd (by omega) (fun j h1 h2 => ?_) (fun j h1 h2 he => ?_)
      · rw [← l1, ← l2, firstLt_ltbL ws us k hk] at key
        exact key
      · have q1 := LiesL.get j (by rw [l1]; exact h1) (by simpa using h1) rx
        have q2 := LiesL.get j (by rw [l2]; exact h2) (by simpa using h2) ry
        have p1 := plainL_mem hw ws[j] (List.getElem_mem _)
        have p2 := plainL_mem hu us[j] (List.getElem_mem _)
        have dj := depL_mem ws[j] (List.getElem_mem (by rw [l1]; exact h1))
        have := lies_eq (A := A.in1) p1 p2 q1 q2 (by omega)
        have e3 : eAt ws us j = decide (ws[j] = us[j]) := by
          unfold eAt
          rw [List.getElem?_eq_getElem (by rw [l1]; exact h1), List.getElem?_eq_getElem (by rw [l2]; exact h2)]
          simp
        rw [e3]
        simpa using this
      · have q1 := LiesL.get j (by rw [l1]; exact h1) (by simpa using h1) rx
        have q2 := LiesL.get j (by rw [l2]; exact h2) (by simpa using h2) ry
        have p1 := plainL_mem hw ws[j] (List.getElem_mem _)
        have p2 := plainL_mem hu us[j] (List.getElem_mem _)
        have dj := depL_mem ws[j] (List.getElem_mem (by rw [l1]; exact h1))
        obtain ⟨b, hb⟩ := ltbL_at hk j (by rw [l1]; exact h1) (by rw [l2]; exact h2)
        have := ih (A := A.in1) (by omega) p1 p2 hb q1 q2 (by omega)
        have e3 : rAt ws us j = b := by
          unfold rAt
          rw [List.getElem?_eq_getElem (by rw [l1]; exact h1), List.getElem?_eq_getElem (by rw [l2]; exact h2)]
          simp [hb]
        rw [e3]
        simpa using this
end
end Ev

set_option Elab.async false
set_option linter.all false
set_option maxRecDepth 100000
set_option maxHeartbeats 4000000
/-! Sorting of plain values. -/
namespace Ev
open PySem PySem.Spec PyProof.Rows L2
open Classical
/-! ### the order -/
theorem nat_lt_nt {a b c : List Nat} (h1 : ¬ b < a) (h2 : ¬ c < b) : ¬ c < a := fun h => by
  rw [List.not_lt] at h1
  have h3 := List.lt_of_le_of_lt (List.not_lt.mp h2) h
  exact absurd h3 (List.not_lt.mpr h1)
mutual
theorem ltb_tri : ∀ {x y : W}, W.ltb x y = some false → W.ltb y x = some false → x = y
  | .int i, y, h, h' => by
    cases y <;> simp only [W.ltb, reduceCtorEq, Option.some.injEq, decide_eq_false_iff_not] at h h'
    rename_i j
    rw [show i = j from by omega]
  | .str a, y, h, h' => by
    cases y <;> simp only [W.ltb, reduceCtorEq, Option.some.injEq, decide_eq_false_iff_not] at h h'
    rename_i b
    have := List.le_antisymm (List.not_lt.mp h) (List.not_lt.mp h')
    obtain ⟨⟨p⟩⟩ := a
    obtain ⟨⟨q⟩⟩ := b
    simp at this
    rw [this]
  | .tup xs, y, h, h' => by
    cases y <;> simp only [W.ltb, reduceCtorEq, Option.some.injEq, decide_eq_false_iff_not] at h h'
    rw [ltbL_tri h h']
  | .non, y, h, _ => by simp [W.ltb] at h
  | .bl _, y, h, _ => by simp [W.ltb] at h
  | .ref _, y, h, _ => by simp [W.ltb] at h
  | .obj _ _, y, h, _ => by simp [W.ltb] at h
  | .exc _ _, y, h, _ => by simp [W.ltb] at h
theorem ltbL_tri : ∀ {xs ys : List W}, W.ltbL xs ys = some false → W.ltbL ys xs = some false → xs = ys
  | [], [], _, _ => rfl
  | [], _ :: _, h, _ => by simp [W.ltbL] at h
  | _ :: _, [], _, h => by simp [W.ltbL] at h
  | x :: xs, y :: ys, h, h' => by
    rw [W.ltbL, Option.bind_eq_some_iff] at h h'
    obtain ⟨b, hb, h⟩ := h
    obtain ⟨b', hb', h'⟩ := h'
    rw [Option.map_eq_some_iff] at h h'
    obtain ⟨c, hc, hk⟩ := h
    obtain ⟨c', hc', hk'⟩ := h'
    by_cases e : x = y
    · subst e
      rw [if_pos rfl] at hk hk'
      subst hk hk'
      rw [ltbL_tri hc hc']
    · rw [if_neg e] at hk
      rw [if_neg (Ne.symm e)] at hk'
      subst hk hk'
      exact absurd (ltb_tri hb hb') e
end
mutual
theorem ltb_nt : ∀ {x y z : W} {c : Bool}, W.ltb y x = some false → W.ltb z y = some false → W.ltb z x = some c → c = false
  | .int i, y, z, c, h1, h2, h3 => by
    cases y <;> simp only [W.ltb, reduceCtorEq, Option.some.injEq, decide_eq_false_iff_not] at h1
    cases z <;> simp only [W.ltb, reduceCtorEq, Option.some.injEq, decide_eq_false_iff_not] at h2 h3
    rw [← h3, decide_eq_false_iff_not]
    omega
  | .str a, y, z, c, h1, h2, h3 => by
    cases y <;> simp only [W.ltb, reduceCtorEq, Option.some.injEq, decide_eq_false_iff_not] at h1
    cases z <;> simp only [W.ltb, reduceCtorEq, Option.some.injEq, decide_eq_false_iff_not] at h2 h3
    rw [← h3, decide_eq_false_iff_not]
    exact nat_lt_nt h1 h2
  | .tup xs, y, z, c, h1, h2, h3 => by
    cases y <;> simp only [W.ltb, reduceCtorEq, Option.some.injEq, decide_eq_false_iff_not] at h1
    cases z <;> simp only [W.ltb, reduceCtorEq, Option.some.injEq, decide_eq_false_iff_not] at h2 h3
    exact ltbL_nt h1 h2 h3
  | .non, y, _, _, h, _, _ => by cases y <;> simp [W.ltb] at h
  | .bl _, y, _, _, h, _, _ => by cases y <;> simp [W.ltb] at h
  | .ref _, y, _, _, h, _, _ => by cases y <;> simp [W.ltb] at h
  | .obj _ _, y, _, _, h, _, _ => by cases y <;> simp [W.ltb] at h
  | .exc _ _, y, _, _, h, _, _ => by cases y <;> simp [W.ltb] at h
theorem ltbL_nt : ∀ {xs ys zs : List W} {c : Bool}, W.ltbL ys xs = some false → W.ltbL zs ys = some false → W.ltbL zs xs = some c → c = false
  | [], ys, zs, c, _, _, h => by cases zs <;> simp [W.ltbL] at h <;> exact h
  | x :: xs, [], zs, c, h, _, _ => by simp [W.ltbL] at h
  | x :: xs, y :: ys, [], c, _, h, _ => by simp [W.ltbL] at h
  | x :: xs, y :: ys, z :: zs, c, h1, h2, h3 => by
    rw [W.ltbL, Option.bind_eq_some_iff] at h1 h2 h3
    obtain ⟨a, ha, h1⟩ := h1
    obtain ⟨b, hb, h2⟩ := h2
    obtain ⟨d, hd, h3⟩ := h3
    rw [Option.map_eq_some_iff] at h1 h2 h3
    obtain ⟨a', ha', k1⟩ := h1
    obtain ⟨b', hb', k2⟩ := h2
    obtain ⟨d', hd', k3⟩ := h3
    by_cases e1 : y = x
    · subst e1
      rw [if_pos rfl] at k1
      subst k1
      by_cases e2 : z = y
      · subst e2
        rw [if_pos rfl] at k2 k3
        subst k2 k3
        exact ltbL_nt ha' hb' hd'
      · rw [if_neg e2] at k2 k3
        subst k2 k3
        rw [hb] at hd; cases hd; rfl
    · rw [if_neg e1] at k1
      subst k1
      by_cases e2 : z = y
      · subst e2
        rw [if_neg e1] at k3
        subst k3
        rw [ha] at hd; cases hd; rfl
      · rw [if_neg e2] at k2
        subst k2
        by_cases e3 : z = x
        · subst e3
          exact absurd (ltb_tri ha hb) e1
        · rw [if_neg e3] at k3
          subst k3
          exact ltb_nt ha hb hd
end
theorem lt_of_ltb {x y : W} {b : Bool} (h : W.ltb x y = some b) : W.lt x y = b := by unfold W.lt; rw [h]; rfl
section
variable {ws : List W}
theorem comp_some (h : comparable ws) {x y : W} (hx : x ∈ ws) (hy : y ∈ ws) : W.ltb x y = some (W.lt x y) := by
  have := h.2 x hx y hy
  rw [Option.isSome_iff_exists] at this
  obtain ⟨b, e⟩ := this
  rw [e, lt_of_ltb e]
theorem comp_nt (h : comparable ws) {x y z : W} (hx : x ∈ ws) (hy : y ∈ ws) (hz : z ∈ ws) (h1 : W.lt y x = false) (h2 : W.lt z y = false) : W.lt z x = false := by
  have e1 := comp_some h hy hx
  have e2 := comp_some h hz hy
  have e3 := comp_some h hz hx
  rw [h1] at e1
  rw [h2] at e2
  exact ltb_nt e1 e2 e3
theorem comp_tri (h : comparable ws) {x y : W} (hx : x ∈ ws) (hy : y ∈ ws) (h1 : W.lt x y = false) (h2 : W.lt y x = false) : x = y := by
  have e1 := comp_some h hx hy
  have e2 := comp_some h hy hx
  rw [h1] at e1
  rw [h2] at e2
  exact ltb_tri e1 e2
mutual
theorem ltb_asym : ∀ {x y : W} {b : Bool}, W.ltb x y = some true → W.ltb y x = some b → b = false
  | .int i, y, b, h, h' => by
    cases y <;> simp only [W.ltb, reduceCtorEq, Option.some.injEq, decide_eq_true_eq] at h h'
    rw [← h', decide_eq_false_iff_not]
    omega
  | .str a, y, b, h, h' => by
    cases y <;> simp only [W.ltb, reduceCtorEq, Option.some.injEq, decide_eq_true_eq] at h h'
    rw [← h', decide_eq_false_iff_not]
    exact List.lt_asymm h
  | .tup xs, y, b, h, h' => by
    cases y <;> simp only [W.ltb, reduceCtorEq, Option.some.injEq] at h h'
    exact ltbL_asym h h'
  | .non, y, _, h, _ => by simp [W.ltb] at h
  | .bl _, y, _, h, _ => by simp [W.ltb] at h
  | .ref _, y, _, h, _ => by simp [W.ltb] at h
  | .obj _ _, y, _, h, _ => by simp [W.ltb] at h
  | .exc _ _, y, _, h, _ => by simp [W.ltb] at h
theorem ltbL_asym : ∀ {xs ys : List W} {b : Bool}, W.ltbL xs ys = some true → W.ltbL ys xs = some b → b = false
  | [], [], _, h, _ => by simp [W.ltbL] at h
  | [], _ :: _, b, _, h => by simp [W.ltbL] at h; exact h
  | _ :: _, [], _, h, _ => by simp [W.ltbL] at h
  | x :: xs, y :: ys, b, h1, h2 => by
    rw [W.ltbL, Option.bind_eq_some_iff] at h1 h2
    obtain ⟨a, ha, h1⟩ := h1
    obtain ⟨a2, ha2, h2⟩ := h2
    rw [Option.map_eq_some_iff] at h1 h2
    obtain ⟨a', ha', k1⟩ := h1
    obtain ⟨b', hb', k2⟩ := h2
    by_cases e1 : x = y
    · subst e1
      rw [if_pos rfl] at k1 k2
      subst k1 k2
      exact ltbL_asym ha' hb'
    · rw [if_neg e1] at k1
      rw [if_neg (Ne.symm e1)] at k2
      subst k1 k2
      exact ltb_asym ha ha2
end
theorem comp_asym (h : comparable ws) {x y : W} (hx : x ∈ ws) (hy : y ∈ ws) (h1 : W.lt x y = true) : W.lt y x = false := by
  have e1 := comp_some h hx hy
  rw [h1] at e1
  exact ltb_asym e1 (comp_some h hy hx)
theorem comp_irrefl (h : comparable ws) {x : W} (hx : x ∈ ws) : W.lt x x = false := by
  cases e : W.lt x x with
  | false => rfl
  | true => exact e ▸ (comp_asym h hx hx e)
abbrev SortedW (l : List W) : Prop := l.Pairwise fun x y => W.lt y x = false
theorem insW_perm (x : W) : ∀ l : List W, (insW x l).Perm (x :: l)
  | [] => .refl _
  | y :: r => by
    rw [insW]
    split
    · exact (List.Perm.cons y (insW_perm x r)).trans (List.Perm.swap x y r)
    · exact .refl _
theorem sortW_perm : ∀ l : List W, (sortW l).Perm l
  | [] => .refl _
  | x :: r => (insW_perm x _).trans (List.Perm.cons x (sortW_perm r))
theorem insW_sorted (h : comparable ws) {x : W} (hx : x ∈ ws) : ∀ {l : List W}, (∀ y ∈ l, y ∈ ws) → SortedW l → SortedW (insW x l)
  | [], _, _ => List.pairwise_singleton _ _
  | y :: r, hl, hs => by
    rw [insW]
    have hy := hl y List.mem_cons_self
    have hr : ∀ z ∈ r, z ∈ ws := fun z hz => hl z (List.mem_cons_of_mem _ hz)
    obtain ⟨s1, s2⟩ := List.pairwise_cons.mp hs
    split
    · rename_i hlt
      refine List.pairwise_cons.mpr ⟨fun z hz => ?_, insW_sorted h hx hr s2⟩
      rcases List.mem_cons.mp ((insW_perm x r).mem_iff.mp hz) with rfl | hz
      · exact comp_asym h hy hx hlt
      · exact s1 z hz
    · rename_i hlt
      have hlt : W.lt y x = false := by simpa using hlt
      refine List.pairwise_cons.mpr ⟨fun z hz => ?_, hs⟩
      rcases List.mem_cons.mp hz with rfl | hz
      · exact hlt
      · exact comp_nt h hx hy (hr z hz) hlt (s1 z hz)
theorem sortW_sorted (h : comparable ws) : ∀ {l : List W}, (∀ y ∈ l, y ∈ ws) → SortedW (sortW l)
  | [], _ => List.Pairwise.nil
  | x :: r, hl => insW_sorted h (hl x List.mem_cons_self) (fun y hy => hl y (List.mem_cons_of_mem _ ((sortW_perm r).mem_iff.mp hy))) (sortW_sorted h fun y hy => hl y (List.mem_cons_of_mem _ hy))
/-- a sorted rearrangement is the one that sortW makes -/
theorem sortW_uniq (h : comparable ws) {l : List W} (hp : l.Perm ws) (hs : SortedW l) : l = sortW ws :=
  List.Perm.eq_of_pairwise (le := fun x y => W.lt y x = false) (fun a b ha hb h1 h2 => comp_tri h (hp.mem_iff.mp ha) ((sortW_perm ws).mem_iff.mp hb) h2 h1) hs (sortW_sorted h fun _ hy => hy) (hp.trans (sortW_perm ws).symm)
end

/-! ### in the heap -/
mutual
theorem Lies.keep {h h' : Heap} (k : ∀ b o, h.get? b = some o → o.cls = .type "tuple" → h'.get? b = some o) : ∀ {w : W} {u : Value}, Lies h w u → Lies h' w u
  | .int i, u, x => by rw [Lies] at x ⊢; exact x
  | .str i, u, x => by rw [Lies] at x ⊢; exact x
  | .tup ws, u, x => by
    rw [Lies] at x ⊢
    obtain ⟨a, its, rfl, ⟨o, ho, hc, n, hd⟩, r⟩ := x
    exact ⟨a, its, rfl, ⟨o, k a o ho hc, hc, n, hd⟩, LiesL.keep k r⟩
  | .non, _, x => by simp [Lies] at x
  | .bl _, _, x => by simp [Lies] at x
  | .ref _, _, x => by simp [Lies] at x
  | .obj _ _, _, x => by simp [Lies] at x
  | .exc _ _, _, x => by simp [Lies] at x
theorem LiesL.keep {h h' : Heap} (k : ∀ b o, h.get? b = some o → o.cls = .type "tuple" → h'.get? b = some o) : ∀ {ws : List W} {us : List Value}, LiesL h ws us → LiesL h' ws us
  | [], us, x => by rw [LiesL] at x ⊢; exact x
  | w :: ws, us, x => by
    rw [LiesL] at x ⊢
    obtain ⟨u, r, rfl, h1, h2⟩ := x
    exact ⟨u, r, rfl, h1.keep k, LiesL.keep k h2⟩
end
mutual
theorem Lies.plain {h : Heap} : ∀ {w : W} {u : Value}, Lies h w u → w.plain = true
  | .int i, u, x => by rw [W.plain]
  | .str i, u, x => by rw [W.plain]
  | .tup ws, u, x => by
    rw [Lies] at x
    obtain ⟨a, its, rfl, _, r⟩ := x
    rw [W.plain]
    exact LiesL.plain r
  | .non, _, x => by simp [Lies] at x
  | .bl _, _, x => by simp [Lies] at x
  | .ref _, _, x => by simp [Lies] at x
  | .obj _ _, _, x => by simp [Lies] at x
  | .exc _ _, _, x => by simp [Lies] at x
theorem LiesL.plain {h : Heap} : ∀ {ws : List W} {us : List Value}, LiesL h ws us → W.plainL ws = true
  | [], us, x => by rw [W.plainL]
  | w :: ws, us, x => by
    rw [LiesL] at x
    obtain ⟨u, r, rfl, h1, h2⟩ := x
    rw [W.plainL, h1.plain, LiesL.plain h2]
    rfl
end
theorem Lies.inj {h : Heap} {w w' : W} {u : Value} (x : Lies h w u) (y : Lies h w' u) : w = w' := nk_inj x.plain y.plain (NestedIs.inj _ _ _ x.key y.key)
/-- what lies there, of ws -/
noncomputable def wAt (h : Heap) (w0 : W) (u : Value) : W := if e : ∃ w, Lies h w u then choose e else w0
theorem wAt_of {h : Heap} {w0 w : W} {u : Value} (x : Lies h w u) : wAt h w0 u = w := by
  have e : ∃ w, Lies h w u := ⟨w, x⟩
  unfold wAt
  rw [dif_pos e]
  exact (choose_spec e).inj x
theorem LiesL.mem {h : Heap} : ∀ {ws : List W} {us : List Value}, LiesL h ws us → ∀ u ∈ us, ∃ w ∈ ws, Lies h w u
  | [], us, x, u, hu => by rw [LiesL] at x; subst x; cases hu
  | w :: ws, us, x, u, hu => by
    rw [LiesL] at x
    obtain ⟨v, r, rfl, h1, h2⟩ := x
    rcases List.mem_cons.mp hu with rfl | hu
    · exact ⟨w, List.mem_cons_self, h1⟩
    · obtain ⟨w', hw, q⟩ := LiesL.mem h2 u hu
      exact ⟨w', List.mem_cons_of_mem _ hw, q⟩
theorem LiesL.map {h : Heap} {w0 : W} : ∀ {ws : List W} {us : List Value}, LiesL h ws us → us.map (wAt h w0) = ws
  | [], us, x => by rw [LiesL] at x; subst x; rfl
  | w :: ws, us, x => by
    rw [LiesL] at x
    obtain ⟨v, r, rfl, h1, h2⟩ := x
    rw [List.map_cons, wAt_of h1, LiesL.map h2]
section
variable {prog : Program} {w : World} {A : Around} {E : Value → Shared → Prop} {s : Shared}
/-- the order of what lies there, of comparable things -/
noncomputable def ltAt (h : Heap) (ws : List W) (u v : Value) : Bool := W.lt (if wAt h (ws.headD .non) u ∈ ws then wAt h (ws.headD .non) u else ws.headD .non) (if wAt h (ws.headD .non) v ∈ ws then wAt h (ws.headD .non) v else ws.headD .non)
theorem ltAt_swo {h : Heap} {ws : List W} (c : comparable ws) (hne : ws ≠ []) : SrtO.Swo (ltAt h ws) := by
  have hm : ∀ u : Value, (if wAt h (ws.headD .non) u ∈ ws then wAt h (ws.headD .non) u else ws.headD .non) ∈ ws := fun u => by
    split
    · assumption
    · cases ws with
      | nil => exact absurd rfl hne
      | cons x r => exact List.mem_cons_self
  exact ⟨fun x y h1 => comp_asym c (hm x) (hm y) h1, fun x y z h1 h2 => comp_nt c (hm x) (hm y) (hm z) h1 h2⟩
theorem ltAt_of {h : Heap} {ws : List W} {x y : W} {u v : Value} (hx : x ∈ ws) (hy : y ∈ ws) (lx : Lies h x u) (ly : Lies h y v) : ltAt h ws u v = W.lt x y := by
  unfold ltAt
  rw [wAt_of lx, wAt_of ly, if_pos hx, if_pos hy]
theorem lex_lies {b : Bool} {Q : Bool → Shared → Prop} : ∀ {ws us : List W} {as bs : List Value} (i : Nat) {k fin : Bool}, LiesL s.heap ws as → LiesL s.heap us bs → W.plainL ws = true → W.plainL us = true → W.ltbL ws us = some k →
    fin = decide (ws.length < us.length) → (b = true → i = 0 → ∀ x, ws.head? = some x → ∃ n, x = .int n) → A.units + W.depL ws + 1 < cLine → Q k s → PySem.W.KatLex prog w A b fin Q (as.zip bs) i s
  | [], us, as, bs, i, k, fin, hx, hy, _, _, hk, hf, _, _, h => by
    rw [LiesL] at hx; subst hx
    refine PySem.W.kat_nil ?_
    cases us with
    | nil => rw [W.ltbL] at hk; cases hk; rw [hf]; simpa using h
    | cons u us => rw [W.ltbL] at hk; cases hk; rw [hf]; simpa using h
  | x :: ws, [], as, bs, i, k, fin, hx, hy, _, _, hk, hf, _, _, h => by
    rw [LiesL] at hy; subst hy
    rw [List.zip_nil_right]
    refine PySem.W.kat_nil ?_
    rw [W.ltbL] at hk; cases hk; rw [hf]; simpa using h
  | x :: ws, y :: us, as, bs, i, k, fin, hx, hy, px, py, hk, hf, hb, hr, h => by
    rw [LiesL] at hx hy
    obtain ⟨a, as, rfl, x1, x2⟩ := hx
    obtain ⟨c, bs, rfl, y1, y2⟩ := hy
    rw [W.plainL, Bool.and_eq_true] at px py
    rw [W.depL] at hr
    rw [W.ltbL, Option.bind_eq_some_iff] at hk
    obtain ⟨q, hq, hk⟩ := hk
    rw [Option.map_eq_some_iff] at hk
    obtain ⟨q', hq', hk⟩ := hk
    rw [List.zip_cons_cons]
    refine PySem.W.kat_cons (lies_eq px.1 py.1 x1 y1 (by omega) prog w _ _ ?_)
    refine PySem.W.kat_go (fun e => ?_) fun e => ?_
    · have e : x = y := by simpa using e
      rw [if_pos e] at hk
      subst hk
      exact PySem.W.kat_yes (lex_lies (i + 1) x2 y2 px.2 py.2 hq' (by rw [hf]; simp) (fun _ z => by omega) (by omega) h)
    · have e : ¬ x = y := by simpa using e
      rw [if_neg e] at hk
      subst hk
      refine PySem.W.kat_no ?_
      cases hbi : b && i == 0 with
      | true =>
        rw [Bool.and_eq_true] at hbi
        obtain ⟨n, rfl⟩ := hb hbi.1 (by simpa using hbi.2) x rfl
        cases y <;> simp only [W.ltb, reduceCtorEq, Option.some.injEq] at hq
        rw [Lies] at x1 y1
        obtain ⟨t, rfl⟩ := x1
        obtain ⟨t', rfl⟩ := y1
        subst hq
        exact oneLt_int h
      | false =>
        refine PySem.W.kat_one _ _ ?_
        exact lies_lt x.dep (Nat.le_refl _) px.1 py.1 hq x1 y1 (by omega) prog w _ _ h
end
end Ev

set_option Elab.async false
set_option linter.all false
set_option maxRecDepth 100000
set_option maxHeartbeats 4000000
/-! sorted of plain values. -/
namespace Ev
open PySem PySem.Spec PyProof.Rows L2
open Classical
section
variable {prog : Program} {w : World} {A : Around} {E : Value → Shared → Prop} {s : Shared}
theorem looks_tuple {M : Model} {h : Heap} {a : Addr} {its : Array Value} (x : h.IsTuple a its) : PySem.W.Looks M h (typeOf (.ref a)) (.type "tuple") := by
  obtain ⟨o, ho, hc, _⟩ := x
  exact fun A Q E s k q => wpAny_typeOf_ref (k _ _ ho) (by rw [hc]; exact q)
/-- the first items of tuples -/
theorem katTups_of {h : Heap} : ∀ {ws : List W} {us : List Value}, LiesL h ws us → (∀ x ∈ ws, ∃ y r, x = .tup (y :: r)) → ∃ fs : List Value, PySem.W.KatTups h us fs ∧ fs.length = us.length ∧ ∀ f ∈ fs, ∃ y r, W.tup (y :: r) ∈ ws ∧ Lies h y f
  | [], us, x, _ => by rw [LiesL] at x; subst x; exact ⟨[], .nil, rfl, fun f hf => by cases hf⟩
  | w :: ws, us, x, hn => by
    rw [LiesL] at x
    obtain ⟨u, q, rfl, h1, h2⟩ := x
    obtain ⟨y, r, rfl⟩ := hn w List.mem_cons_self
    rw [Lies] at h1
    obtain ⟨a, its, rfl, ⟨o, ho, hc, n, hd⟩, hl⟩ := h1
    rw [LiesL] at hl
    obtain ⟨f, fr, e, hy, hr⟩ := hl
    obtain ⟨fs, k1, k2, k3⟩ := katTups_of h2 fun x hx => hn x (List.mem_cons_of_mem _ hx)
    have e0 : its[0]? = some f := by rw [← Array.getElem?_toList, e]; rfl
    refine ⟨f :: fs, .cons ho hc hd e0 k1, by simp [k2], fun g hg => ?_⟩
    rcases List.mem_cons.mp hg with rfl | hg
    · exact ⟨y, r, List.mem_cons_self, hy⟩
    · obtain ⟨y', r', m, l⟩ := k3 g hg
      exact ⟨y', r', List.mem_cons_of_mem _ m, l⟩
/-- how they are compared -/
theorem cmp_lies {ws : List W} {vs : List Value} {h0 : Heap} (c : comparable ws) (lies : LiesL s.heap ws vs) (l0 : LiesL h0 ws vs) (hr : A.units + 12 < cLine) {b : Bool} (ht : ∀ x ∈ ws, ∃ y r, x = .tup (y :: r) ∧ (b = true → ∃ n, y = .int n)) :
    SrtO.Cmp prog w A s (tuples' b) (fun p => p.1 ∈ vs) (SrtO.lt2 (ltAt h0 ws)) := by
  intro p q hp hq
  obtain ⟨x, hx, lx⟩ := lies.mem _ hp
  obtain ⟨y, hy, ly⟩ := lies.mem _ hq
  have hx0 : Lies h0 x p.1 := by
    obtain ⟨i, hi, e⟩ := List.getElem_of_mem hp
    have h1 := LiesL.get i (by rw [lies.length]; exact hi) hi lies
    have h2 := LiesL.get i (by rw [lies.length]; exact hi) hi l0
    rw [e] at h1 h2
    rw [lx.inj h1]; exact h2
  have hy0 : Lies h0 y q.1 := by
    obtain ⟨i, hi, e⟩ := List.getElem_of_mem hq
    have h1 := LiesL.get i (by rw [lies.length]; exact hi) hi lies
    have h2 := LiesL.get i (by rw [lies.length]; exact hi) hi l0
    rw [e] at h1 h2
    rw [ly.inj h1]; exact h2
  show wpAny (model prog w) A (keyLt' (tuples' b) p.1 q.1) (fun r s' => s' = s ∧ r = ltAt h0 ws p.1 q.1) (fun _ _ => False) s
  rw [ltAt_of hx hy hx0 hy0]
  have hk := comp_some c hx hy
  obtain ⟨x0, xr, rfl, hb⟩ := ht x hx
  obtain ⟨y0, yr, rfl, _⟩ := ht y hy
  have dp := (c.1 _ hx).2.1
  rw [W.dep] at dp
  have px := lx.plain
  have py := ly.plain
  rw [W.plain] at px py
  rw [Lies] at lx ly
  obtain ⟨a, its, ea, ⟨o, ho, hc, n, hd⟩, hl⟩ := lx
  obtain ⟨a', its', ea', ⟨o', ho', hc', n', hd'⟩, hl'⟩ := ly
  rw [ea, ea']
  rw [W.ltb] at hk
  have l1 := hl.length
  have l2 := hl'.length
  refine PySem.W.kat_lt ho hd ho' hd' (lex_lies 0 hl hl' px py hk (by rw [l1, l2]; simp) (fun hbt _ z hz => ?_) (by omega) ⟨rfl, rfl⟩)
  simp only [List.head?_cons, Option.some.injEq] at hz
  subst hz
  exact hb hbt
theorem sortable_lies {a : Addr} {vs : List Value} {ws : List W} {h0 : Heap} (c : comparable ws) (lies : LiesL s.heap ws vs) (l0 : LiesL h0 ws vs) (h2 : 2 ≤ vs.length) (hr : A.units + 12 < cLine) (ha : ∀ o, s.heap.get? a = some o → o.cls ≠ .type "tuple") : SrtO.SortableO prog w A s a vs (ltAt h0 ws) := by
  intro h' keep
  have lies' : LiesL h' ws vs := lies.keep fun b o e hc => keep b o (fun z => by subst z; exact ha o e hc) e
  have hl := lies.length
  obtain ⟨x0, hx0⟩ : ∃ x, x ∈ ws := by
    cases ws with
    | nil => simp at hl; omega
    | cons x r => exact ⟨x, List.mem_cons_self⟩
  have same : ∀ x ∈ ws, (W.ltb x x0).isSome = true := fun x hx => c.2 x hx x0 hx0
  cases x0 with
  | int n0 =>
    have all : ∀ x ∈ ws, ∃ n, x = .int n := fun x hx => by
      have := same x hx
      cases x <;> simp [W.ltb] at this
      exact ⟨_, rfl⟩
    have intsv : ∀ v ∈ vs, ∃ i t, v = .int i t := fun v hv => by
      obtain ⟨x, hx, lx⟩ := lies'.mem v hv
      obtain ⟨n, rfl⟩ := all x hx
      rw [Lies] at lx
      obtain ⟨t, rfl⟩ := lx
      exact ⟨_, _, rfl⟩
    refine ⟨oneType', fun Q E hq => ?_, fun p q hp hq => ?_⟩
    · refine PySem.W.kas_kind (T := .type "int") h2 (fun v hv => ?_) (by first | decide +kernel | rfl | decide) (by rfl) hq
      obtain ⟨i, t, rfl⟩ := intsv v hv
      exact PySem.W.Looks.now
    · obtain ⟨x, hx, lx⟩ := lies'.mem _ hp
      obtain ⟨y, hy, ly⟩ := lies'.mem _ hq
      show wpAny (model prog w) A (keyLt' oneType' p.1 q.1) (fun r s' => s' = { s with heap := h' } ∧ r = ltAt h0 ws p.1 q.1) (fun _ _ => False) { s with heap := h' }
      obtain ⟨n, rfl⟩ := all x hx
      obtain ⟨m, rfl⟩ := all y hy
      rw [Lies] at lx ly
      obtain ⟨t, e1⟩ := lx
      obtain ⟨t', e2⟩ := ly
      have z1 : Lies h0 (.int n) p.1 := by rw [Lies]; exact ⟨t, e1⟩
      have z2 : Lies h0 (.int m) q.1 := by rw [Lies]; exact ⟨t', e2⟩
      rw [ltAt_of hx hy z1 z2, e1, e2]
      refine PySem.W.kat_lt_int ⟨rfl, ?_⟩
      have := comp_some c hx hy
      rw [W.ltb] at this
      exact Option.some.inj this
  | tup xs0 =>
    have ok0 := (c.1 _ hx0).2.2
    cases xs0 with
    | nil => simp [okTop] at ok0
    | cons y0 r0 =>
      have tups : ∀ x ∈ ws, ∃ y r, x = .tup (y :: r) ∧ (W.ltb y y0).isSome = true := fun x hx => by
        have h1 := same x hx
        have h3 := (c.1 x hx).2.2
        cases x <;> simp only [W.ltb, Option.isSome_none, Bool.false_eq_true] at h1
        rename_i ys
        cases ys with
        | nil => simp [okTop] at h3
        | cons y r =>
          rw [W.ltbL] at h1
          refine ⟨y, r, rfl, ?_⟩
          cases e : W.ltb y y0 with
          | none => rw [e] at h1; simp at h1
          | some b => rfl
      obtain ⟨fs, k1, k2, k3⟩ := katTups_of lies' fun x hx => by obtain ⟨y, r, e, _⟩ := tups x hx; exact ⟨y, r, e⟩
      have hf : 0 < fs.length := by rw [k2]; omega
      cases y0 with
      | int n0 =>
        have first : ∀ x ∈ ws, ∃ y r, x = .tup (y :: r) ∧ (true = true → ∃ n, y = .int n) := fun x hx => by
          obtain ⟨y, r, e, h1⟩ := tups x hx
          refine ⟨y, r, e, fun _ => ?_⟩
          cases y <;> simp [W.ltb] at h1
          exact ⟨_, rfl⟩
        refine ⟨tuples' true, fun Q E hq => ?_, cmp_lies c lies' l0 hr first⟩
        refine PySem.W.kat_kind (T := .type "int") k1 hf (fun f hm => ?_) (by rfl) ?_
        · obtain ⟨y, r, hy, ly⟩ := k3 f hm
          obtain ⟨y', r', e, hn⟩ := first _ hy
          cases e
          obtain ⟨n, rfl⟩ := hn rfl
          rw [Lies] at ly
          obtain ⟨t, rfl⟩ := ly
          exact PySem.W.Looks.now
        · have e : (Value.type "int" != Value.type "tuple") = true := by first | decide +kernel | rfl | decide
          rw [e]
          exact hq
      | tup zs0 =>
        have first : ∀ x ∈ ws, ∃ y r, x = .tup (y :: r) ∧ (false = true → ∃ n, y = .int n) := fun x hx => by
          obtain ⟨y, r, e, h1⟩ := tups x hx
          exact ⟨y, r, e, fun z => by cases z⟩
        refine ⟨tuples' false, fun Q E hq => ?_, cmp_lies c lies' l0 hr first⟩
        refine PySem.W.kat_kind (T := .type "tuple") k1 hf (fun f hm => ?_) (by rfl) ?_
        · obtain ⟨y, r, hy, ly⟩ := k3 f hm
          obtain ⟨y', r', e, h1⟩ := tups _ hy
          cases e
          cases y <;> simp [W.ltb] at h1
          rw [Lies] at ly
          obtain ⟨a, its, rfl, hT, _⟩ := ly
          exact looks_tuple hT
        · have e : (Value.type "tuple" != Value.type "tuple") = false := by first | decide +kernel | rfl | decide
          rw [e]
          exact hq
      | non => simp [okTop] at ok0
      | bl _ => simp [okTop] at ok0
      | str _ => simp [okTop] at ok0
      | ref _ => simp [okTop] at ok0
      | obj _ _ => simp [okTop] at ok0
      | exc _ _ => simp [okTop] at ok0
  | non => have := (c.1 _ hx0).2.2; simp [okTop] at this
  | bl _ => have := (c.1 _ hx0).2.2; simp [okTop] at this
  | str _ => have := (c.1 _ hx0).2.2; simp [okTop] at this
  | ref _ => have := (c.1 _ hx0).2.2; simp [okTop] at this
  | obj _ _ => have := (c.1 _ hx0).2.2; simp [okTop] at this
  | exc _ _ => have := (c.1 _ hx0).2.2; simp [okTop] at this
theorem liesL_map {h : Heap} {w0 : W} : ∀ {us : List Value}, (∀ u ∈ us, ∃ w, Lies h w u) → LiesL h (us.map (wAt h w0)) us
  | [], _ => by rw [List.map_nil, LiesL]
  | u :: us, hm => by
    obtain ⟨w, lw⟩ := hm u List.mem_cons_self
    rw [List.map_cons, LiesL, wAt_of lw]
    exact ⟨u, us, rfl, lw, liesL_map fun v hv => hm v (List.mem_cons_of_mem _ hv)⟩
/-- sorted(l) -/
theorem sorted_lies {l : Addr} {vs : List Value} {ws : List W} {Q : Value → Shared → Prop} (c : comparable ws) (hl : s.heap.IsList l vs.toArray) (hz : vs.length ≤ sizeLine) (lies : LiesL s.heap ws vs) (hr : A.units + 14 < cLine)
    (h : ∀ (h' : Heap) (d : Addr) (out : List Value), LiesL s.heap (sortW ws) out → out.Perm vs → (∀ b o, s.heap.get? b = some o → h'.get? b = some o) → s.heap.objs.size ≤ d → (∃ n, h'.get? d = some (seqObj "list" out.toArray n)) → Q (.ref d) { s with heap := h' }) :
    wpAny (model prog w) A (call (.builtin "sorted") [.ref l]) Q E s := by
  by_cases hne : ws = []
  · subst hne
    rw [LiesL] at lies
    subst lies
    refine SrtO.sorted_ord (ltv := fun _ _ => false) ⟨fun _ _ _ => rfl, fun _ _ _ _ _ => rfl⟩ hl hz (fun h2 => by simp at h2) fun out hs hb => ?_
    have e : out = [] := List.Perm.eq_nil hb.perm
    subst e
    exact h _ _ [] (by rw [sortW, LiesL]) (.refl _) (fun b o e => sortedAll_old e) (Nat.le_succ _) (sortedAll_at s.heap [] #[])
  · refine SrtO.sorted_ord (ltAt_swo (h := s.heap) c hne) hl hz (fun h2 h₁ a ha kk => ?_) fun out hs hb => ?_
    · refine sortable_lies (s := { s with heap := h₁ }) c (lies.keep fun b o e _ => (kk b o e).2) lies h2 (show A.units + 1 + 1 + 12 < cLine by omega) fun o e => ?_
      have e' : some o = some (seqObj "list" vs.toArray 0) := e.symm.trans ha
      cases e'
      intro q
      exact absurd (Value.type.inj q) (by decide)
    · have hm : ∀ u ∈ out, ∃ w ∈ ws, Lies s.heap w u := fun u hu => lies.mem u (hb.perm.mem_iff.mp hu)
      have ll := liesL_map (h := s.heap) (w0 := .non) (us := out) fun u hu => by obtain ⟨w, _, q⟩ := hm u hu; exact ⟨w, q⟩
      have e1 : (out.map (wAt s.heap .non)).Perm ws := by
        have := hb.perm.map (wAt s.heap .non)
        rw [lies.map] at this
        exact this
      have e2 : SortedW (out.map (wAt s.heap .non)) := by
        refine List.pairwise_map.mpr (List.Pairwise.imp_of_mem (fun {u v} hu hv q => ?_) hs)
        obtain ⟨x, hx, lx⟩ := hm u hu
        obtain ⟨y, hy, ly⟩ := hm v hv
        rw [ltAt_of hy hx ly lx] at q
        rw [wAt_of lx, wAt_of ly]
        exact q
      rw [sortW_uniq c e1 e2] at ll
      exact h _ _ out ll hb.perm (fun b o e => sortedAll_old e) (Nat.le_succ _) (sortedAll_at s.heap vs out.toArray)
end
end Ev

set_option Elab.async false
set_option linter.all false
set_option maxRecDepth 100000
set_option maxHeartbeats 4000000
namespace Ev
open PySem PySem.Spec PyProof.Rows L2
open Classical
theorem comp_perm {ws us : List W} (h : ws.Perm us) (c : comparable us) : comparable ws := ⟨fun x hx => c.1 x (h.mem_iff.mp hx), fun x hx y hy => c.2 x (h.mem_iff.mp hx) y (h.mem_iff.mp hy)⟩
theorem sortW_perm_eq {ws us : List W} (h : ws.Perm us) (c : comparable us) : sortW ws = sortW us :=
  sortW_uniq c ((sortW_perm ws).trans h) (sortW_sorted (comp_perm h c) fun _ hy => hy)
section
variable {prog : Program} {w : World} {A : Around} {E : Value → Shared → Prop} {s : Shared}
/-- what collecting a thing comes to: values that lie as ws does, in some sequence -/
structure Coll (s : Shared) (src : List Value) (ws : List W) (us : List Value) (s1 : Shared) : Prop where
  keep : ∀ b o, s.heap.get? b = some o → s1.heap.get? b = some o
  size : s.heap.objs.size ≤ s1.heap.objs.size
  gens : s1.gens = s.gens
  os : s1.os = s.os
  lies : ∃ ws', ws'.Perm ws ∧ LiesL s1.heap ws' us
  len : us.length ≤ sizeLine
  mem : ∀ u ∈ us, u ∈ src
theorem list_sort_lies {a : Addr} {vs : List Value} {ws : List W} {R : PySem.Fin → Shared → Prop} (c : comparable ws) (ho : s.heap.get? a = some (seqObj "list" vs.toArray 0)) (hz : vs.length ≤ sizeLine) (lies : LiesL s.heap ws vs) (hr : A.units + 12 < cLine)
    (h : ∀ out : List Value, LiesL s.heap (sortW ws) out → out.Perm vs → R (.done (.ret .none)) { s with heap := sortedHeap s.heap a vs out.toArray }) : wpAny (model prog w) A (Builtin.«list.sort» ⟨[.ref a], []⟩) R E s := by
  by_cases hne : ws = []
  · subst hne
    rw [LiesL] at lies
    subst lies
    refine SrtO.list_sort_ord (ltv := fun _ _ => false) ⟨fun _ _ _ => rfl, fun _ _ _ _ _ => rfl⟩ ho hz (fun h2 => by simp at h2) fun out hs hb => ?_
    have e : out = [] := List.Perm.eq_nil hb.perm
    subst e
    exact h [] (by rw [sortW, LiesL]) (.refl _)
  · refine SrtO.list_sort_ord (ltAt_swo (h := s.heap) c hne) ho hz (fun h2 => sortable_lies c lies lies h2 hr fun o e => ?_) fun out hs hb => ?_
    · have e' : some o = some (seqObj "list" vs.toArray 0) := e.symm.trans ho
      cases e'
      intro q
      exact absurd (Value.type.inj q) (by decide)
    · have hm : ∀ u ∈ out, ∃ w ∈ ws, Lies s.heap w u := fun u hu => lies.mem u (hb.perm.mem_iff.mp hu)
      have ll := liesL_map (h := s.heap) (w0 := .non) (us := out) fun u hu => by obtain ⟨w, _, q⟩ := hm u hu; exact ⟨w, q⟩
      have e1 : (out.map (wAt s.heap .non)).Perm ws := by
        have := hb.perm.map (wAt s.heap .non)
        rw [lies.map] at this
        exact this
      have e2 : SortedW (out.map (wAt s.heap .non)) := by
        refine List.pairwise_map.mpr (List.Pairwise.imp_of_mem (fun {u v} hu hv q => ?_) hs)
        obtain ⟨x, hx, lx⟩ := hm u hu
        obtain ⟨y, hy, ly⟩ := hm v hv
        rw [ltAt_of hy hx ly lx] at q
        rw [wAt_of lx, wAt_of ly]
        exact q
      rw [sortW_uniq c e1 e2] at ll
      exact h out ll hb.perm
/-- sorted(v) of anything that is collected so -/
theorem sorted_gen {v : Value} {src : List Value} {ws : List W} {Q : Value → Shared → Prop} (c : comparable ws) (hr : A.units + 14 < cLine)
    (hcol : ∀ (A' : Around) (E' : Value → Shared → Prop) (Q' : List Value → Shared → Prop), A'.handled = A.handled → (∀ us s1, Coll s src ws us s1 → Q' us s1) → wpAny (model prog w) A' (collect v) Q' E' s)
    (h : ∀ (s' : Shared) (d : Addr) (out : List Value), LiesL s'.heap (sortW ws) out → (∀ b o, s.heap.get? b = some o → s'.heap.get? b = some o) → s.heap.objs.size ≤ d → s'.gens = s.gens → s'.os = s.os → out.length ≤ sizeLine → (∀ u ∈ out, u ∈ src) → (∃ n, s'.heap.get? d = some (seqObj "list" out.toArray n)) → Q (.ref d) s') :
    wpAny (model prog w) A (call (.builtin "sorted") [v]) Q E s := by
  refine Calls.call_function_entry kind_sorted plain_sorted entry_sorted (args_sorted1 _) ?_
  unfold Builtin.«sorted»
  refine wpAny_bind (m := checkCount "sorted" 1 1 _) (wpAny_pure ?_)
  refine wpAny_bind (hcol _ _ _ rfl fun us s1 cl => ?_)
  refine wpAny_bind (wpAny_newList ?_ cl.len)
  obtain ⟨ws', hp, lies⟩ := cl.lies
  have hoL : (s1.heap.push (seqObj "list" us.toArray 0)).get? s1.heap.objs.size = some (seqObj "list" us.toArray 0) := Heap.get?_push_size _ rfl
  have k1 : ∀ b o, s1.heap.get? b = some o → (s1.heap.push (seqObj "list" us.toArray 0)).get? b = some o := fun b o e => Heap.get?_push_of_some _ e
  have k0 : ∀ b o, s.heap.get? b = some o → b ≠ s1.heap.objs.size := fun b o e => Nat.ne_of_lt (Heap.lt_size (cl.keep b o e))
  show wpAny _ _ _ _ _ { s1 with heap := s1.heap.push (seqObj "list" us.toArray 0) }
  refine wpAny_bind (wpAny_holding (wpAny_call_entry slot_list_sort ⟨_, hoL, rfl⟩ entry_list_sort (list_sort_lies (s := { s1 with heap := s1.heap.push (seqObj "list" us.toArray 0) }) (comp_perm hp c) hoL cl.len (lies.keep fun b o e _ => k1 b o e) (show A.units + 1 + 1 + 12 < cLine by omega) fun out lo po => ⟨_, rfl, ?_⟩) (args_list_sort _)))
  refine wpAny_pure ⟨_, rfl, ?_⟩
  rw [sortW_perm_eq hp c] at lo
  have old : ∀ b o, s1.heap.get? b = some o → (sortedHeap (s1.heap.push (seqObj "list" us.toArray 0)) s1.heap.objs.size us out.toArray).get? b = some o := fun b o e => by
    have hlt : b < s1.heap.objs.size := Heap.lt_size e
    rw [sortedHeap_old (Nat.ne_of_lt hlt) (by rw [size_push']; exact Nat.lt_succ_of_lt hlt)]
    exact k1 b o e
  have lo2 : LiesL s1.heap (sortW ws) out := by
    have hm : ∀ u ∈ out, ∃ w, Lies s1.heap w u := fun u hu => by
      obtain ⟨w, _, q⟩ := lies.mem u (po.mem_iff.mp hu)
      exact ⟨w, q⟩
    have l1 := liesL_map (h := s1.heap) (w0 := .non) hm
    have l2 := l1.keep (h' := s1.heap.push (seqObj "list" us.toArray 0)) fun b o e _ => k1 b o e
    have e3 : out.map (wAt s1.heap .non) = sortW ws := by
      have h1 := LiesL.map (w0 := .non) l2
      have h2 := LiesL.map (w0 := .non) lo
      exact h1.symm.trans h2
    rw [e3] at l1
    exact l1
  exact h { s1 with heap := sortedHeap (s1.heap.push (seqObj "list" us.toArray 0)) s1.heap.objs.size us out.toArray } s1.heap.objs.size out (lo2.keep fun b o e _ => old b o e) (fun b o e => old b o (cl.keep b o e)) cl.size cl.gens cl.os (by rw [po.length_eq]; exact cl.len) (fun u hu => cl.mem u (po.mem_iff.mp hu)) (sortedHeap_at hoL)
theorem coll_seq {a : Addr} {vs : List Value} {ws : List W} {o : Obj} {n : Nat} {T : String} {Q : List Value → Shared → Prop} (ho : s.heap.get? a = some o) (hT : o.cls = .type T) (hTs : T = "list" ∨ T = "tuple") (hd : o.data = .seq vs.toArray n) (lies : LiesL s.heap ws vs) (hz : vs.length ≤ sizeLine)
    (h : ∀ us s1, Coll s vs ws us s1 → Q us s1) : wpAny (model prog w) A (collect (.ref a)) Q E s := by
  unfold collect
  refine wpAny_bind (wpAny_runValue (codeAny_builtin entry_proto_collect' ?_))
  show wpAny _ _ (do again (.builtin "list.__iadd__" ⟨[← newList [], .ref a], []⟩)) _ _ s
  refine wpAny_bind (wpAny_newList (wpAny_pure ⟨Code.quiet_builtin _ (by decide +kernel), codeAny_builtin entry_list_iadd' ?_⟩))
  show wpAny _ _ (Builtin.List.listExtendWith (.ref s.heap.objs.size) (.ref a) (.ref s.heap.objs.size)) _ _ { s with heap := s.heap.push (seqObj "list" #[] 0) }
  unfold Builtin.List.listExtendWith
  have ho' : (s.heap.push (seqObj "list" #[] 0)).get? a = some o := Heap.get?_push_of_some _ ho
  refine wpAny_bind (wpAny_typeOf (T := T) ⟨o, ho', hT⟩ ?_)
  have ht : (Value.type T == Value.type "list" || Value.type T == Value.type "tuple") = true := by
    rcases hTs with rfl | rfl <;> first | rfl | decide +kernel
  rw [if_pos (by rw [Bool.or_assoc, ht, Bool.or_true])]
  refine wpAny_bind (listItems_at ho' hd ?_)
  refine wpAny_bind (listItems_at (xs := #[]) (n := 0) (Heap.get?_push_size _ rfl) rfl ?_)
  rw [if_neg (by simp)]
  refine wpAny_bind (listUpdate_at (xs := #[]) (n := 0) (Heap.get?_push_size _ rfl) rfl ?_ (Nat.zero_le _) (by
    have : ((#[] : Array Value) ++ vs.toArray).size = vs.length := by simp
    show ((#[] : Array Value) ++ vs.toArray).size ≤ sizeLine + 1
    omega))
  refine wpAny_pure ?_
  show wpAny (model prog w) A (do
      let o ← load s.heap.objs.size
      match o.data with
      | .seq xs _ => pure xs.toList
      | _ => unsupported "internal:collect") Q E { s with heap := (s.heap.push (seqObj "list" #[] 0)).update s.heap.objs.size (Obj.mapSeq (· ++ vs.toArray)) }
  refine wpAny_bind (wpAny_load (get?_update_seq (Heap.get?_push_size _ rfl) _) ?_)
  show wpAny _ _ (pure ((#[] : Array Value) ++ vs.toArray).toList) Q E _
  have ev : ((#[] : Array Value) ++ vs.toArray).toList = vs := by simp
  rw [ev]
  have old : ∀ b o, s.heap.get? b = some o → ((s.heap.push (seqObj "list" #[] 0)).update s.heap.objs.size (Obj.mapSeq (· ++ vs.toArray))).get? b = some o := fun b o e => by
    rw [Heap.get?_update_ne _ _ _ _ (Nat.ne_of_lt (Heap.lt_size e))]
    exact Heap.get?_push_of_some _ e
  exact wpAny_pure (h vs _ ⟨old, by rw [Heap.size_update, size_push']; exact Nat.le_succ _, rfl, rfl, ⟨ws, .refl _, lies.keep fun b o e _ => old b o e⟩, hz, fun _ hu => hu⟩)
end
end Ev

set_option Elab.async false
set_option linter.all false
set_option maxRecDepth 100000
set_option maxHeartbeats 4000000
/-! The operators: what the evaluator gives, the layer gives. -/
namespace Ev
open PySem PySem.Spec PyProof.Rows L2
open Classical
theorem PE_imp {X : Cx} {e : Expr} {t t' : TE} (h : PE X e t) (i : ∀ σ H Q, t' σ H Q → t σ H Q) : PE X e t' := ⟨fun pins s σ H Q I q => h.run pins s σ H Q I (i σ H Q q)⟩
theorem PT_imp {X : Cx} {e : Expr} {t t' : TT} (h : PT X e t) (i : ∀ σ H Q, t' σ H Q → t σ H Q) : PT X e t' := ⟨fun pins s σ H Q I q => h.run pins s σ H Q I (i σ H Q q)⟩
theorem PA_imp {X : Cx} {es : List Expr} {t t' : TA} (h : PA X es t) (i : ∀ σ H Q, t' σ H Q → t σ H Q) : PA X es t' := ⟨fun pos pins s σ H Q I q => h.run pos pins s σ H Q I (i σ H Q q)⟩
section
variable (C : Cf)
/-- what is asked ahead of something that the evaluator reckons by f -/
def tE (Wx : WX) (f : En → Store → Res W) : TE := fun σ H Q => ∃ ρ en m, REn C ρ H en σ ∧ RS C ρ H m ∧ PR C (RW C) σ Wx ρ H (f en m) Q
def tAs (Wx : WX) (f : En → Store → Res (List W)) : TA := fun σ H Q => ∃ ρ en m, REn C ρ H en σ ∧ RS C ρ H m ∧ PR C (RWs C) σ Wx ρ H (f en m) Q
def tT (Wx : WX) (f : En → Store → Res Bool) : TT := fun σ H Q => ∃ ρ en m, REn C ρ H en σ ∧ RS C ρ H m ∧ PR C (fun _ _ a b => a = b) σ Wx ρ H (f en m) Q
/-- .. of two values -/
def r2 (g : W → W → Store → Res W) : R2 := fun x y H Q => ∃ σ Wx ρ m a b, RS C ρ H m ∧ RW C ρ H a x ∧ RW C ρ H b y ∧ PR C (RW C) σ Wx ρ H (g a b m) Q
/-- .. of one -/
def r1 (g : W → Store → Res W) : V → Hp → VK → Prop := fun x H Q => ∃ σ Wx ρ m a, RS C ρ H m ∧ RW C ρ H a x ∧ PR C (RW C) σ Wx ρ H (g a m) Q
/-- .. of a list -/
def rL (g : List W → Store → Res W) : List V → Hp → VK → Prop := fun xs H Q => ∃ σ Wx ρ m as, RS C ρ H m ∧ RWs C ρ H as xs ∧ PR C (RW C) σ Wx ρ H (g as m) Q
def rM (g : W → List W → Store → Res W) : V → List V → Hp → VK → Prop := fun x xs H Q => ∃ σ Wx ρ m a as, RS C ρ H m ∧ RW C ρ H a x ∧ RWs C ρ H as xs ∧ PR C (RW C) σ Wx ρ H (g a as m) Q
end
section
variable {C : Cf} {ρ ρ' : List Addr} {H H' : Hp} {σ : L2.St} {Wx : WX} {m : Store}
theorem PR.here {α β : Type} {rel : List Addr → Hp → α → β → Prop} {a : α} {b : β} {Q : β → Hp → Prop} (R : RS C ρ H m) (r : rel ρ H a b) (h : PR C rel σ Wx ρ H (.ok a m) Q) : Q b H := h b ρ H (.refl _ _) R r
/-- a new tuple -/
theorem PR.tup {ws : List W} {vs : List V} {p : Addr} {Q : VK} (R : RS C ρ H m) (r : RWs C ρ H ws vs) (hp : H p = none) (h : PR C (RW C) σ Wx ρ H (.ok (.tup ws) m) Q) : Q (.ref p) (upd H p (.tup vs)) := by
  have s := Sm.upd (o := .tup vs) hp
  refine h _ ρ _ (.of_sm s) (R.sm s) ?_
  rw [RW]
  exact ⟨p, vs, rfl, upd_same, r.mono0 s.ext0⟩
theorem Ext0.alloc {p : Addr} {o : HO} {m : Store} (R : RS C ρ H m) (hp : H p = none) : Ext0 ρ H (ρ ++ [p]) (upd H p o) :=
  ⟨fun n a h => by rw [List.getElem?_append_left (List.getElem?_eq_some_iff.mp h).1]; exact h, fun a vs h => by rw [upd_ne (ne_of_none h hp)]; exact h,
    fun a o' h hn _ => ⟨by rw [upd_ne (ne_of_none h hp)]; exact h, fun q => by
      rcases List.mem_append.mp q with q | q
      · exact hn q
      · rw [List.mem_singleton.mp q, hp] at h; cases h⟩⟩
/-- a new list -/
theorem PR.lst {ws : List W} {vs : List V} {p : Addr} {Q : VK} (R : RS C ρ H m) (r : RWs C ρ H ws vs) (hp : H p = none) (h : PR C (RW C) σ Wx ρ H (alloc (.lst ws) m) Q) : Q (.ref p) (upd H p (.lst vs)) := by
  obtain ⟨R', x⟩ := R.alloc (u := .lst vs) (o := .lst ws) hp ⟨vs, upd_same, r.mono0 (Ext0.alloc R hp)⟩
  refine h _ _ _ x R' ?_
  rw [RW]
  exact ⟨p, by rw [← R.len]; simp, rfl⟩
theorem RW.int_iff {i : Int} {v : V} (h : RW C ρ H (.int i) v) : v = .int i := by rw [RW] at h; exact h
theorem RW.bl_iff {i : Bool} {v : V} (h : RW C ρ H (.bl i) v) : v = .bl i := by rw [RW] at h; exact h
theorem RW.str_iff {i : Str} {v : V} (h : RW C ρ H (.str i) v) : v = .str i := by rw [RW] at h; exact h
theorem RW.non_iff {v : V} (h : RW C ρ H .non v) : v = .non := by rw [RW] at h; exact h
theorem RW.tup_iff {ws : List W} {v : V} (h : RW C ρ H (.tup ws) v) : ∃ a vs, v = .ref a ∧ H a = some (.tup vs) ∧ RWs C ρ H ws vs := by rw [RW] at h; exact h
theorem RW.ref_iff {n : Nat} {v : V} (h : RW C ρ H (.ref n) v) : ∃ a, ρ[n]? = some a ∧ v = .ref a := by rw [RW] at h; exact h
theorem RW.int {i : Int} : RW C ρ H (.int i) (.int i) := by rw [RW]
theorem RW.bl {i : Bool} : RW C ρ H (.bl i) (.bl i) := by rw [RW]
theorem RW.str {i : Str} : RW C ρ H (.str i) (.str i) := by rw [RW]
theorem RW.non : RW C ρ H .non .non := by rw [RW]
/-- a list of the store, where a value is one -/
theorem RS.lst {n : Nat} {ws : List W} {v : V} (R : RS C ρ H m) (h : RW C ρ H (.ref n) v) (e : m[n]? = some (.lst ws)) : ∃ a vs, v = .ref a ∧ ρ[n]? = some a ∧ H a = some (.lst vs) ∧ RWs C ρ H ws vs := by
  obtain ⟨a, ea, rfl⟩ := h.ref_iff
  obtain ⟨vs, h1, h2⟩ := R.obj n _ a e ea
  exact ⟨a, vs, rfl, ea, h1, h2⟩
theorem RS.seq {n : Nat} {ws : List W} {v : V} {K : PySem.W.Frag} (R : RS C ρ H m) (h : RW C ρ H (.ref n) v) (e : m[n]? = some (.lst ws) ∨ m[n]? = some (.lock ws)) : ∃ a vs, v = .ref a ∧ SqL K H a vs ∧ RWs C ρ H ws vs := by
  obtain ⟨a, ea, rfl⟩ := h.ref_iff
  rcases e with e | e
  · obtain ⟨vs, h1, h2⟩ := R.obj n _ a e ea
    exact ⟨a, vs, rfl, SqL.of h1, h2⟩
  · obtain ⟨o, vs, h1, h2⟩ := R.obj n _ a e ea
    exact ⟨a, vs, rfl, .inl (.inr ⟨o, h1⟩), h2⟩
theorem Ext0.write {n : Nat} {a : Addr} {u : HO} (ha : ρ[n]? = some a) (nt : ∀ vs, H a ≠ some (.tup vs)) : Ext0 ρ H ρ (upd H a u) :=
  ⟨fun n a h => h, fun b vs q => by rw [upd_ne (fun z => by subst z; exact nt vs q)]; exact q, fun b o' q hn _ => ⟨by rw [upd_ne (fun z => by subst z; exact hn (List.mem_of_getElem? ha))]; exact q, hn⟩⟩
/-- a list of the store written -/
theorem RS.wlst {n : Nat} {a : Addr} {vs vs' : List V} {ws' : List W} (R : RS C ρ H m) (ha : ρ[n]? = some a) (h : H a = some (.lst vs)) (r : RWs C ρ H ws' vs') : RS C ρ (upd H a (.lst vs')) (m.set n (.lst ws')) ∧ Ext ρ H ρ (upd H a (.lst vs')) := by
  have nt : ∀ us, H a ≠ some (.tup us) := fun us z => by rw [h] at z; cases z
  exact R.write (u := .lst vs') (o := .lst ws') ha nt ⟨vs', upd_same, r.mono0 (Ext0.write ha nt)⟩
theorem cap_le {n : Nat} (h : n ≤ cap) : n ≤ sizeLine := h
theorem cap_lt {n : Nat} (h : n < cap) : n < sizeLine := h
end
section
variable {C : Cf} {X : Cx}
/-! ### numbers, texts, lists -/
theorem so_int {f : Value → Value → Sem Value} {ok : Int → Int → Prop} {g : Int → Int → Int} (ho : OpR X f (rI ok fun i j => .int (g i j))) : OpR X f (r2 C (intOp ok g)) := by
  intro pins s σ H x y v u Q I rx ry h
  obtain ⟨σ', Wx, ρ, m, a, b, R, qa, qb, P⟩ := h
  unfold intOp at P
  split at P
  · split at P
    · rename_i hc
      rw [qa.int_iff] at rx
      rw [qb.int_iff] at ry
      exact ho pins s σ H _ _ v u Q I rx ry ⟨_, _, rfl, rfl, hc, P.here R RW.int⟩
    · exact P.elim
  · exact P.elim
theorem rI_of0 {f : Value → Value → Sem Value} {g : Int → Int → V} (ho : OpR X f (rI0 g)) : OpR X f (rI (fun _ _ => True) g) := by
  intro pins s σ H x y v u Q I rx ry ⟨i, j, e1, e2, _, q⟩
  exact ho pins s σ H x y v u Q I rx ry ⟨i, j, e1, e2, q⟩
theorem so_add : OpR X (binaryOp .Add) (r2 C evAdd) := by
  intro pins s σ H x y v u Q I rx ry h
  obtain ⟨σ', Wx, ρ, m, a, b, R, qa, qb, P⟩ := h
  unfold evAdd at P
  split at P
  · rw [qa.int_iff] at rx
    rw [qb.int_iff] at ry
    exact op_add pins s σ H _ _ v u Q I rx ry ⟨_, _, rfl, rfl, P.here R RW.int⟩
  · split at P
    · rename_i hc
      rw [qa.str_iff] at rx
      rw [qb.str_iff] at ry
      exact op_add_str pins s σ H _ _ v u Q I rx ry ⟨_, _, rfl, rfl, cap_le hc, P.here R RW.str⟩
    · exact P.elim
  · split at P
    · rename_i hc
      obtain ⟨p, xs, rfl, e1, q1⟩ := qa.tup_iff
      obtain ⟨p2, ys, rfl, e2, q2⟩ := qb.tup_iff
      refine op_catA pins s σ H _ _ v u Q I rx ry ⟨_, _, xs, ys, rfl, rfl, SqT.of e1, SqT.of e2, by rw [← q1.length, ← q2.length]; exact cap_le hc, fun hx => ?_, fun _ hy => ?_, fun _ _ p hp => P.tup R (q1.append q2) hp⟩
      · subst hx
        refine P _ ρ H (.refl _ _) R ?_
        rw [RW]
        exact ⟨p2, ys, rfl, e2, q1.append q2⟩
      · subst hy
        refine P _ ρ H (.refl _ _) R ?_
        rw [RW]
        refine ⟨p, xs, rfl, e1, ?_⟩
        have := q1.append q2
        rwa [List.append_nil] at this
    · exact P.elim
  · split at P
    · rename_i e1 e2
      split at P
      · rename_i hc
        obtain ⟨p, xs, rfl, _, h1, q1⟩ := R.lst qa e1
        obtain ⟨p2, ys, rfl, _, h2, q2⟩ := R.lst qb e2
        exact op_cat pins s σ H _ _ v u Q I rx ry ⟨_, _, xs, ys, rfl, rfl, h1, h2, by rw [← q1.length, ← q2.length]; exact cap_le hc, fun p hp => P.lst R (q1.append q2) hp⟩
      · exact P.elim
    · exact P.elim
  · exact P.elim
def bopO : Bop → Operator
  | .add => .Add | .sub => .Sub | .mul => .Mult | .div => .FloorDiv | .mod => .Mod | .pow => .Pow | .shl => .LShift | .shr => .RShift | .band => .BitAnd | .bor => .BitOr | .bxor => .BitXor
theorem so_bin (o : Bop) : OpR X (binaryOp (bopO o)) (r2 C (evBin o)) := by
  cases o
  · exact so_add
  · exact so_int (rI_of0 op_sub)
  · exact so_int op_mul
  · exact so_int op_fdivN
  · exact so_int op_modN
  · exact so_int op_pow
  · exact so_int op_shl
  · exact so_int op_shr
  · exact so_int (rI_of0 op_and)
  · exact so_int (rI_of0 op_or)
  · exact so_int (rI_of0 op_xor)
theorem so_neg : UnR X (unaryOp .USub) (r1 C (evUna .neg)) := by
  intro pins s σ H x v Q I rx h
  obtain ⟨σ', Wx, ρ, m, a, R, qa, P⟩ := h
  unfold evUna at P
  simp only at P
  split at P
  · rw [qa.int_iff] at rx
    exact un_neg pins s σ H _ v Q I rx ⟨_, rfl, P.here R RW.int⟩
  · exact P.elim
/-! ### data -/
mutual
theorem dp_dat {K : PySem.W.Frag} {ρ : List Addr} {H : Hp} {f : Nat → Option PyData} (hf : ∀ n d a, f n = some d → ρ[n]? = some a → Dp K H (.ref a) d) : ∀ {w : W} {v : V} {d : PyData}, RW C ρ H w v → w.dat f = some d → Dp K H v d
  | .non, v, d, h, e => by rw [W.dat] at e; cases e; rw [h.non_iff]; exact .non
  | .bl _, v, d, h, e => by rw [W.dat] at e; cases e; rw [h.bl_iff]; exact .bl _
  | .int _, v, d, h, e => by rw [W.dat] at e; cases e; rw [h.int_iff]; exact .int _
  | .str _, v, d, h, e => by rw [W.dat] at e; cases e; rw [h.str_iff]; exact .str _
  | .tup ws, v, d, h, e => by
    rw [W.dat, Option.map_eq_some_iff] at e
    obtain ⟨ds, e, rfl⟩ := e
    obtain ⟨a, vs, rfl, ea, q⟩ := h.tup_iff
    exact .tup (SqT.of ea) (dp_datL hf q e)
  | .ref n, v, d, h, e => by
    rw [W.dat] at e
    obtain ⟨a, ea, rfl⟩ := h.ref_iff
    exact hf n d a e ea
  | .obj _ _, v, d, h, e => by simp [W.dat] at e
  | .exc _ _, v, d, h, e => by simp [W.dat] at e
theorem dp_datL {K : PySem.W.Frag} {ρ : List Addr} {H : Hp} {f : Nat → Option PyData} (hf : ∀ n d a, f n = some d → ρ[n]? = some a → Dp K H (.ref a) d) : ∀ {ws : List W} {vs : List V} {ds : List PyData}, RWs C ρ H ws vs → W.datL f ws = some ds → DpAll K H vs ds
  | [], vs, ds, h, e => by rw [W.datL] at e; cases e; rw [h.nil_iff]; exact .nil
  | w :: ws, vs, ds, h, e => by
    rw [W.datL, Option.bind_eq_some_iff] at e
    obtain ⟨d, e1, e⟩ := e
    rw [Option.map_eq_some_iff] at e
    obtain ⟨ds', e2, rfl⟩ := e
    obtain ⟨v, r, rfl, hv, hr⟩ := h.cons_iff
    exact .cons (dp_dat hf hv e1) (dp_datL hf hr e2)
end
theorem dp_datR {K : PySem.W.Frag} {ρ : List Addr} {H : Hp} {m : Store} (R : RS C ρ H m) : ∀ k n d a, datR m k n = some d → ρ[n]? = some a → Dp K H (.ref a) d
  | 0, n, d, a, e, _ => by simp [datR] at e
  | k + 1, n, d, a, e, ea => by
    rw [datR] at e
    split at e
    · rename_i ws em
      rw [Option.map_eq_some_iff] at e
      obtain ⟨ds, e, rfl⟩ := e
      obtain ⟨vs, h1, h2⟩ := R.obj n _ a em ea
      exact .lst (SqL.of h1) (dp_datL (dp_datR R k) h2 e)
    · rename_i ws em
      rw [Option.map_eq_some_iff] at e
      obtain ⟨ds, e, rfl⟩ := e
      obtain ⟨o, vs, h1, h2⟩ := R.obj n _ a em ea
      exact .lst (.inl (.inr ⟨o, h1⟩)) (dp_datL (dp_datR R k) h2 e)
    · cases e
theorem dp_of {K : PySem.W.Frag} {ρ : List Addr} {H : Hp} {m : Store} {w : W} {v : V} {d : PyData} (R : RS C ρ H m) (h : RW C ρ H w v) (e : datOf m w = some d) : Dp K H v d := dp_dat (fun n d a => dp_datR R 8 n d a) h e
/-- a question of two values -/
def r2b (C : Cf) (g : W → W → Store → Option Bool) : R2 := fun x y H Q => ∃ ρ m a b t, RS C ρ H m ∧ RW C ρ H a x ∧ RW C ρ H b y ∧ g a b m = some t ∧ Q (.bl t) H
theorem eqD_some {m : Store} {a b : W} {t : Bool} (h : eqD m a b = some t) : ∃ d e, datOf m a = some d ∧ datOf m b = some e ∧ SeqAt.shaped d = true ∧ SeqAt.shaped e = true ∧ t = PyData.eqv d e := by
  unfold eqD at h
  split at h
  · rename_i d e e1 e2
    split at h
    · rename_i hs
      exact ⟨d, e, e1, e2, hs.1, hs.2, (Option.some.inj h).symm⟩
    · cases h
  · cases h
theorem so_eq (hu : X.A.units + 64 < cLine) : OpR X (compareOp .Eq) (r2b C (evCmp .eq)) := by
  intro pins s σ H x y v u Q I rx ry ⟨ρ, m, a, b, t, R, qa, qb, e, q⟩
  obtain ⟨d, e', e1, e2, h1, h2, rfl⟩ := eqD_some (show eqD m a b = some t from e)
  exact op_eqD hu pins s σ H x y v u Q I rx ry ⟨d, e', dp_of R qa e1, dp_of R qb e2, h1, h2, q⟩
theorem so_ne (hu : X.A.units + 64 < cLine) : OpR X (compareOp .NotEq) (r2b C (evCmp .ne)) := by
  intro pins s σ H x y v u Q I rx ry ⟨ρ, m, a, b, t, R, qa, qb, e, q⟩
  obtain ⟨t', e0, rfl⟩ := Option.map_eq_some_iff.mp (show (eqD m a b).map (!·) = some t from e)
  obtain ⟨d, e', e1, e2, h1, h2, rfl⟩ := eqD_some e0
  exact op_neD hu pins s σ H x y v u Q I rx ry ⟨d, e', dp_of R qa e1, dp_of R qb e2, h1, h2, q⟩
theorem so_lt (hu : X.A.units + 64 < cLine) : OpR X (compareOp .Lt) (r2b C (evCmp .lt)) := by
  intro pins s σ H x y v u Q I rx ry ⟨ρ, m, a, b, t, R, qa, qb, e, q⟩
  have e : (if a.plain = true ∧ b.plain = true ∧ a.dep ≤ 8 then W.ltb a b else none) = some t := e
  split at e
  · rename_i hc
    exact lies_lt 8 hc.2.2 hc.1 hc.2.1 e (lies_of I hc.1 qa rx) (lies_of I hc.2.1 qb ry) (by omega) X.prog X.w _ _ ⟨.bl t, H, I, rfl, q⟩
  · cases e
theorem ltInt_some {f : Int → Int → Bool} {a b : W} {t : Bool} (h : ltInt f a b = some t) : ∃ i j, a = .int i ∧ b = .int j ∧ t = f i j := by
  unfold ltInt at h
  split at h
  · exact ⟨_, _, rfl, rfl, (Option.some.inj h).symm⟩
  · cases h
theorem so_gt : OpR X (compareOp .Gt) (r2b C (evCmp .gt)) := by
  intro pins s σ H x y v u Q I rx ry ⟨ρ, m, a, b, t, R, qa, qb, e, q⟩
  obtain ⟨i, j, rfl, rfl, rfl⟩ := ltInt_some e
  rw [qa.int_iff] at rx
  rw [qb.int_iff] at ry
  exact op_gt pins s σ H _ _ v u Q I rx ry ⟨i, j, rfl, rfl, q⟩
theorem so_le : OpR X (compareOp .LtE) (r2b C (evCmp .le)) := by
  intro pins s σ H x y v u Q I rx ry ⟨ρ, m, a, b, t, R, qa, qb, e, q⟩
  obtain ⟨i, j, rfl, rfl, rfl⟩ := ltInt_some e
  rw [qa.int_iff] at rx
  rw [qb.int_iff] at ry
  exact op_le pins s σ H _ _ v u Q I rx ry ⟨i, j, rfl, rfl, q⟩
theorem so_ge : OpR X (compareOp .GtE) (r2b C (evCmp .ge)) := by
  intro pins s σ H x y v u Q I rx ry ⟨ρ, m, a, b, t, R, qa, qb, e, q⟩
  obtain ⟨i, j, rfl, rfl, rfl⟩ := ltInt_some e
  rw [qa.int_iff] at rx
  rw [qb.int_iff] at ry
  exact op_ge pins s σ H _ _ v u Q I rx ry ⟨i, j, rfl, rfl, q⟩
/-- a value that is not None, as the layer says it -/
theorem RW.notNon {ρ : List Addr} {H : Hp} {w : W} {v : V} (h : RW C ρ H w v) (hn : w ≠ .non) : v ≠ .non := by
  intro e
  subst e
  cases w <;> rw [RW] at h
  · exact hn rfl
  · cases h
  · cases h
  · cases h
  · obtain ⟨_, _, z, _⟩ := h; cases z
  · obtain ⟨_, _, z⟩ := h; cases z
  · obtain ⟨_, _, _, z, _⟩ := h; cases z
  · obtain ⟨_, _, z, _⟩ := h; cases z
theorem isSame_bl {M : Model} {A : Around} {E : Value → Shared → Prop} {s : Shared} {u : Value} {b : Bool} {Q : Value → Shared → Prop} (hu : u = .none ∨ (∃ i t, u = .int i t) ∨ ∃ x t, u = .str x t) (h : Q (.bool false) s) : wpAny M A (compareOp .Is u (.bool b)) Q E s := by
  rcases hu with rfl | ⟨i, t, rfl⟩ | ⟨x, t, rfl⟩ <;> exact wpAny_bind (wpAny_pure (wpAny_pure h))
theorem isNot_bl {M : Model} {A : Around} {E : Value → Shared → Prop} {s : Shared} {u : Value} {b : Bool} {Q : Value → Shared → Prop} (hu : u = .none ∨ (∃ i t, u = .int i t) ∨ ∃ x t, u = .str x t) (h : Q (.bool true) s) : wpAny M A (compareOp .IsNot u (.bool b)) Q E s := by
  rcases hu with rfl | ⟨i, t, rfl⟩ | ⟨x, t, rfl⟩ <;> exact wpAny_bind (wpAny_pure (wpAny_pure h))
end
end Ev

set_option Elab.async false
set_option linter.all false
set_option maxRecDepth 100000
set_option maxHeartbeats 4000000
namespace Ev
open PySem PySem.Spec PyProof.Rows L2
open Classical
section
variable {C : Cf} {X : Cx}
/-! ### is -/
theorem evIs_bl {x : W} {b t : Bool} (h : evIs x (.bl b) = some t) : (∃ a, x = .bl a ∧ t = (a == b)) ∨ ((x = .non ∨ (∃ i, x = .int i) ∨ ∃ z, x = .str z) ∧ t = false) := by
  cases x <;> simp [evIs] at h
  · exact .inr ⟨.inl rfl, h⟩
  · exact .inl ⟨_, rfl, by rw [← h]⟩
  · exact .inr ⟨.inr (.inl ⟨_, rfl⟩), h⟩
  · exact .inr ⟨.inr (.inr ⟨_, rfl⟩), h⟩
theorem so_is : OpR X (compareOp .Is) (r2b C (evCmp .is)) := by
  intro pins s σ H x y v u Q I rx ry ⟨ρ, m, a, b, t, R, qa, qb, e, q⟩
  replace e : evIs a b = some t := e
  cases b <;> try (simp [evIs] at e; done)
  · rw [qb.non_iff] at ry
    by_cases hn : a = .non
    · subst hn
      simp [evIs] at e
      subst e
      exact op_isN pins s σ H x .non v u Q I rx ry ⟨rfl, by rw [qa.non_iff]; simpa using q⟩
    · have : t = false := by cases a <;> simp [evIs] at e hn <;> first | exact e | exact e.symm
      subst this
      exact op_isN pins s σ H x .non v u Q I rx ry ⟨rfl, by rw [decide_eq_false (qa.notNon hn)]; exact q⟩
  · rename_i b
    rw [qb.bl_iff] at ry
    rcases evIs_bl e with ⟨a', rfl, rfl⟩ | ⟨ha, rfl⟩
    · rw [qa.bl_iff] at rx
      refine op_isBl pins s σ H _ _ v u Q I rx ry ⟨a', b, rfl, rfl, ?_⟩
      have e2 : decide (a' = b) = (a' == b) := by cases a' <;> cases b <;> rfl
      rw [e2]; exact q
    · obtain rfl : u = .bool b := ry
      refine isSame_bl ?_ ⟨.bl false, H, I, rfl, q⟩
      rcases ha with rfl | ⟨i, rfl⟩ | ⟨z, rfl⟩
      · rw [qa.non_iff] at rx; exact .inl rx
      · rw [qa.int_iff] at rx; exact .inr (.inl ⟨i, rx⟩)
      · rw [qa.str_iff] at rx; exact .inr (.inr ⟨z, rx⟩)
theorem so_isn : OpR X (compareOp .IsNot) (r2b C (evCmp .isn)) := by
  intro pins s σ H x y v u Q I rx ry ⟨ρ, m, a, b, t, R, qa, qb, e, q⟩
  obtain ⟨t', e0, rfl⟩ := Option.map_eq_some_iff.mp (show (evIs a b).map (!·) = some t from e)
  clear e
  have e := e0
  clear e0
  cases b <;> try (simp [evIs] at e; done)
  · rw [qb.non_iff] at ry
    by_cases hn : a = .non
    · subst hn
      simp [evIs] at e
      subst e
      exact op_notN pins s σ H x .non v u Q I rx ry ⟨rfl, by rw [qa.non_iff]; simpa using q⟩
    · have : t' = false := by cases a <;> simp [evIs] at e hn <;> first | exact e | exact e.symm
      subst this
      exact op_notN pins s σ H x .non v u Q I rx ry ⟨rfl, by rw [decide_eq_false (qa.notNon hn)]; exact q⟩
  · rename_i b
    rw [qb.bl_iff] at ry
    rcases evIs_bl e with ⟨a', rfl, rfl⟩ | ⟨ha, rfl⟩
    · rw [qa.bl_iff] at rx
      refine op_notBl pins s σ H _ _ v u Q I rx ry ⟨a', b, rfl, rfl, ?_⟩
      have e2 : decide (a' = b) = (a' == b) := by cases a' <;> cases b <;> rfl
      rw [e2]; exact q
    · obtain rfl : u = .bool b := ry
      refine isNot_bl ?_ ⟨.bl true, H, I, rfl, q⟩
      rcases ha with rfl | ⟨i, rfl⟩ | ⟨z, rfl⟩
      · rw [qa.non_iff] at rx; exact .inl rx
      · rw [qa.int_iff] at rx; exact .inr (.inl ⟨i, rx⟩)
      · rw [qa.str_iff] at rx; exact .inr (.inr ⟨z, rx⟩)
/-! ### dicts -/
theorem keyW_of {w : W} (h : (∃ i, w = .int i) ∨ ∃ x, w = .str x) : ∃ k : Key, w = keyW k := by
  rcases h with ⟨i, rfl⟩ | ⟨x, rfl⟩
  · exact ⟨.inl i, rfl⟩
  · exact ⟨.inr x, rfl⟩
theorem keyW_rel {ρ : List Addr} {H : Hp} {k : Key} {v : V} (h : RW C ρ H (keyW k) v) : v = kV k := by
  cases k with
  | inl i => exact h.int_iff
  | inr x => exact h.str_iff
theorem keyW_inj {k k' : Key} (h : keyW k = keyW k') : k = k' := by
  cases k <;> cases k' <;> simp [keyW] at h <;> rw [h]
/-- what is found in both -/
theorem find_dK {ρ : List Addr} {H : Hp} {k : Key} : ∀ {kvs : List (W × W)} {ks : List (Key × V)}, kvs.map (·.1) = ks.map (fun p => keyW p.1) → RWs C ρ H (kvs.map (·.2)) (ks.map (·.2)) →
    (findK (keyW k) kvs = none ∧ valV ks k = none) ∨ ∃ w v, findK (keyW k) kvs = some w ∧ valV ks k = some v ∧ RW C ρ H w v
  | [], ks, e, r => by
    have : ks = [] := by cases ks <;> simp at e ⊢
    subst this
    exact .inl ⟨rfl, rfl⟩
  | (k', w) :: kvs, ks, e, r => by
    cases ks with
    | nil => simp at e
    | cons p ks =>
      obtain ⟨k2, v⟩ := p
      simp only [List.map_cons, List.cons.injEq] at e
      rw [List.map_cons, List.map_cons] at r
      obtain ⟨v', r', e2, hv, hr⟩ := r.cons_iff
      simp only [List.cons.injEq] at e2
      obtain ⟨rfl, rfl⟩ := e2
      by_cases hk : k2 = k
      · subst hk
        right
        refine ⟨w, v, ?_, ?_, hv⟩
        · rw [findK, if_pos e.1]
        · simp [valV]
      · have h1 : findK (keyW k) ((k', w) :: kvs) = findK (keyW k) kvs := by
          rw [findK, if_neg fun z => hk (keyW_inj (e.1.symm.trans z))]
        have h2 : valV ((k2, v) :: ks) k = valV ks k := by
          simp [valV, hk]
        rw [h1, h2]
        exact find_dK e.2 hr
theorem mem_find {k : W} : ∀ {kvs : List (W × W)}, k ∈ kvs.map (·.1) ↔ (findK k kvs).isSome = true
  | [] => by simp [findK]
  | (k', w) :: kvs => by
    rw [findK]
    by_cases h : k' = k
    · subst h; simp
    · rw [if_neg h, ← mem_find]
      simp only [List.map_cons, List.mem_cons]
      constructor
      · rintro (rfl | h')
        · exact absurd rfl h
        · exact h'
      · exact .inr
theorem find_ent {ρ : List Addr} {H : Hp} {k : W} (hk : k.keyb = true) : ∀ {kvs : List (W × W)} {xs : List (NestedKey × Addr × Value)}, REnt C ρ H kvs xs →
    (findK k kvs = none ∧ atKey xs k.nk = none) ∨ ∃ w p v, findK k kvs = some w ∧ atKey xs k.nk = some p ∧ RW C ρ H w v ∧ RelV v p.2
  | [], xs, r => by
    rw [REnt] at r
    subst r
    exact .inl ⟨rfl, rfl⟩
  | (k', w) :: kvs, xs, r => by
    rw [REnt] at r
    obtain ⟨x, q, rfl, ⟨h1, h2, h3, v, h4, h5⟩, hr⟩ := r
    unfold W.keyb at hk h2
    rw [Bool.and_eq_true] at hk h2
    by_cases e : k' = k
    · subst e
      right
      refine ⟨w, x.2, v, ?_, ?_, h4, h5⟩
      · rw [findK, if_pos rfl]
      · unfold atKey; simp [← h1]
    · have ne : ¬ x.1 = k.nk := fun z => e (nk_inj h2.1 hk.1 (h1.trans z))
      have e1 : findK k ((k', w) :: kvs) = findK k kvs := by rw [findK, if_neg e]
      have e2 : atKey (x :: q) k.nk = atKey q k.nk := by
        unfold atKey
        simp [List.find?_cons, ne]
      rw [e1, e2]
      exact find_ent (by unfold W.keyb; rw [Bool.and_eq_true]; exact hk) hr
theorem nested_is {pins : List (Addr × Obj)} {σ : L2.St} {s : Shared} {ρ : List Addr} {H : Hp} {w : W} {b : Addr} (I : Inv X pins σ H s) (hk : w.keyb = true) (h : RW C ρ H w (.ref b)) : (nestedKind X.prog X.w).is s.heap w.nk b := by
  unfold W.keyb at hk
  rw [Bool.and_eq_true, decide_eq_true_eq] at hk
  exact ⟨(lies_of I hk.1 h (show RelV (.ref b) (.ref b) from rfl)).key, by rw [nk_depth]; exact hk.2⟩
/-- the dict of nested keys in the heap -/
theorem dictH {pins : List (Addr × Obj)} {σ : L2.St} {s : Shared} {ρ : List Addr} {H : Hp} {kvs : List (W × W)} {a : Addr} {o : Obj} {es : Array DictEntry} {ep : Nat} {xs : List (NestedKey × Addr × Value)} (I : Inv X pins σ H s)
    (h1 : H a = some (.ext fun h => h.get? a = some o)) (h2 : o.ExactDict) (h3 : o.data = .dict es ep) (h4 : es.toList = xs.map (entryOfKey (nestedKind X.prog X.w))) (h5 : (xs.map (·.1)).Nodup) (h6 : REnt C ρ H kvs xs) : s.heap.DictOfH (nestedKind X.prog X.w) a xs := by
  have h0 : s.heap.get? a = some o := (I.hok a _ h1).1
  refine ⟨o, es, ep, h0, h2, h3, h4, ?_, h5⟩
  clear h4 h5
  induction kvs generalizing xs with
  | nil => rw [REnt] at h6; subst h6; intro x hx; cases hx
  | cons kv kvs ih =>
    rw [REnt] at h6
    obtain ⟨x, q, rfl, ⟨e1, e2, e3, v, e4, e5⟩, hr⟩ := h6
    intro y hy
    rcases List.mem_cons.mp hy with rfl | hy
    · rw [← e1]
      exact nested_is I e2 e3
    · exact ih hr y hy
theorem keyb_cases {w : W} (h : w.keyb = true) : (∃ k : Key, w = keyW k) ∨ ∃ ws, w = .tup ws := by
  unfold W.keyb at h
  rw [Bool.and_eq_true] at h
  cases w <;> simp [W.plain] at h
  · exact .inl ⟨.inl _, rfl⟩
  · exact .inl ⟨.inr _, rfl⟩
  · exact .inr ⟨_, rfl⟩
/-- a dict that is asked: d[k], there or not -/
theorem dict_find {pins : List (Addr × Obj)} {σ : L2.St} {s : Shared} {ρ : List Addr} {H : Hp} {kvs : List (W × W)} {a : Addr} {k : W} {y : V} {u : Value} {E : Value → Shared → Prop} (hP : C.P = X.prog) (hw : C.w = X.w) (hu : X.A.units + 64 < cLine) (I : Inv X pins σ H s) (h : RO C ρ H (.dct kvs) a)
    (hok : okKey k kvs) (hy : RW C ρ H k y) (ry : RelV y u) :
    s.TypeIs (.ref a) "dict" ∧ (findK k kvs = none ∨ ∃ w v, findK k kvs = some w ∧ RW C ρ H w v ∧ ∀ {Q : Value → Shared → Prop}, (∀ w' s', Inv X pins σ H s' → RelV v w' → Q w' s') → wpAny (model X.prog X.w) X.A (getItem (.ref a) u) Q E s) ∧
    (∀ {Q : Value → Shared → Prop}, (∀ s', Inv X pins σ H s' → Q (.bool (findK k kvs).isSome) s') → wpAny (model X.prog X.w) X.A (compareOp .In u (.ref a)) Q E s) ∧
    (∀ {Q : Value → Shared → Prop}, (∀ s', Inv X pins σ H s' → Q (.bool (!(findK k kvs).isSome)) s') → wpAny (model X.prog X.w) X.A (compareOp .NotIn u (.ref a)) Q E s) := by
  have hu1 : X.A.units + 1 < cLine := by omega
  have hk := hok.1
  rcases h with ⟨ks, h1, h2, h3⟩ | ⟨h0, h1, o, es, ep, xs, h2, h3, h4, h5, h6, h7⟩
  · rcases keyb_cases hk with ⟨kk, rfl⟩ | ⟨ws, rfl⟩
    · have g := DGet.k (k := kk) h1
      have ey := keyW_rel hy
      subst ey
      refine ⟨dict_typeIs I g, ?_, fun {Q} hq => ?_, fun {Q} hq => ?_⟩
      · rcases find_dK (k := kk) h2 h3 with ⟨e1, _⟩ | ⟨w, v, e1, e2, r⟩
        · exact .inl e1
        · refine .inr ⟨w, v, e1, r, fun {Q} hq => ?_⟩
          rw [e2] at g
          exact d_getItem hu1 I g ry hq
      · refine d_in hu1 I g ry fun s' I' => ?_
        rcases find_dK (k := kk) h2 h3 with ⟨e1, e2⟩ | ⟨w, v, e1, e2, r⟩ <;> rw [e2] <;> have := hq s' I' <;> rw [e1] at this <;> exact this
      · refine d_notIn hu1 I g ry fun s' I' => ?_
        rcases find_dK (k := kk) h2 h3 with ⟨e1, e2⟩ | ⟨w, v, e1, e2, r⟩ <;> rw [e2] <;> have := hq s' I' <;> rw [e1] at this <;> exact this
    · -- a dict of numbers and texts, asked for a tuple: only where it is empty
      by_cases hz : ks = []
      · subst hz
        have hz2 : kvs = [] := by cases kvs <;> simp at h2 ⊢
        subst hz2
        obtain ⟨b, vs, rfl, eb, _⟩ := hy.tup_iff
        obtain rfl : u = .ref b := ry
        obtain ⟨z, hd, vs', rel, dd⟩ := dk_rd I.hok (.inl h1)
        cases rel
        obtain ⟨ob, es, ep, ho, hc, hdt, _, hpr, _⟩ := dd
        have hes : es.toList = [] := by
          generalize es.toList = l at hpr
          cases hpr
          rfl
        have dd2 : s.heap.DictOfH (nestedKind X.prog X.w) a [] := ⟨ob, es, ep, ho, hc, hdt, hes, (fun x hx => by cases hx), List.nodup_nil⟩
        have hr : (nestedKind X.prog X.w).room X.A.in1 := by show X.A.units + 1 + 8 < cLine; omega
        exact ⟨⟨ob, ho, hc.1⟩, .inl rfl, fun {Q} hq => wpAny_in_heap hr (nested_is I hk hy) hd dd2 (hq _ (I.tok _)), fun {Q} hq => wpAny_notIn_heap hr (nested_is I hk hy) hd dd2 (hq _ (I.tok _))⟩
      · cases kvs with
        | nil => cases ks <;> simp at h2 hz
        | cons kv kvs =>
          cases ks with
          | nil => exact absurd rfl hz
          | cons q ks =>
            have := hok.2 kv List.mem_cons_self
            simp only [List.map_cons, List.cons.injEq] at h2
            rw [h2.1] at this
            rcases q with ⟨q1 | q1, q2⟩ <;> simp [keyW, W.isT] at this
  · rw [hP, hw] at h5
    rcases keyb_cases hk with ⟨kk, rfl⟩ | ⟨ws, rfl⟩
    · cases kvs with
      | nil => exact absurd rfl h0
      | cons kv kvs =>
        have := hok.2 kv List.mem_cons_self
        rw [REnt] at h7
        obtain ⟨x, q, rfl, ⟨e1, e2, e3, _⟩, _⟩ := h7
        rcases keyb_cases e2 with ⟨k2, e4⟩ | ⟨ws, e4⟩
        · rw [e4] at e3
          have := keyW_rel e3
          cases k2 <;> cases this
        · rw [e4] at this
          cases kk <;> simp [keyW, W.isT] at this
    · obtain ⟨b, vs, rfl, eb, _⟩ := id hy.tup_iff
      obtain rfl : u = .ref b := ry
      have dd := dictH I h2 h3 h4 h5 h6 h7
      have hr : (nestedKind X.prog X.w).room X.A.in1 := by show X.A.units + 1 + 8 < cLine; omega
      have hn := nested_is I hk hy
      refine ⟨dd.typeIs, ?_, fun {Q} hq => wpAny_in_heap hr hn h1 dd ?_, fun {Q} hq => wpAny_notIn_heap hr hn h1 dd ?_⟩
      · rcases find_ent hk h7 with ⟨e1, _⟩ | ⟨w, p, v, e1, e2, r, rp⟩
        · exact .inl e1
        · exact .inr ⟨w, v, e1, r, fun {Q} hq => wpAny_getItem_heap hr hn dd e2 (hq _ _ (I.tok _) rp)⟩
      · have e3 : (atKey xs (W.tup ws).nk).isSome = (findK (W.tup ws) kvs).isSome := by
          rcases find_ent hk h7 with ⟨e1, e2⟩ | ⟨w, p, v, e1, e2, r, rp⟩ <;> rw [e1, e2] <;> rfl
        rw [e3]
        exact hq _ (I.tok _)
      · have e3 : (atKey xs (W.tup ws).nk).isSome = (findK (W.tup ws) kvs).isSome := by
          rcases find_ent hk h7 with ⟨e1, e2⟩ | ⟨w, p, v, e1, e2, r, rp⟩ <;> rw [e1, e2] <;> rfl
        rw [e3]
        exact hq _ (I.tok _)
end
end Ev

set_option Elab.async false
set_option linter.all false
set_option maxRecDepth 100000
set_option maxHeartbeats 4000000
namespace Ev
open PySem PySem.Spec PyProof.Rows L2
open Classical
section
variable {C : Cf} {X : Cx}
/-! ### d[k] = v -/
theorem put_dK {ρ : List Addr} {H : Hp} {k : Key} {w : W} {v : V} (hv : RW C ρ H w v) : ∀ {kvs : List (W × W)} {ks : List (Key × V)}, (ks.map (·.1)).Nodup → kvs.map (·.1) = ks.map (fun p => keyW p.1) → RWs C ρ H (kvs.map (·.2)) (ks.map (·.2)) →
    (putK (keyW k) w kvs).map (·.1) = (L2.putK ks k v).map (fun p => keyW p.1) ∧ RWs C ρ H ((putK (keyW k) w kvs).map (·.2)) ((L2.putK ks k v).map (·.2))
  | [], ks, _, e, r => by
    have : ks = [] := by cases ks <;> simp at e ⊢
    subst this
    exact ⟨rfl, .cons hv .nil⟩
  | (k', w') :: kvs, ks, nd, e, r => by
    cases ks with
    | nil => simp at e
    | cons p ks =>
      obtain ⟨k2, v2⟩ := p
      simp only [List.map_cons, List.cons.injEq] at e
      rw [List.map_cons, List.map_cons] at r
      obtain ⟨v', r', e2, hv', hr⟩ := r.cons_iff
      simp only [List.cons.injEq] at e2
      obtain ⟨rfl, rfl⟩ := e2
      rw [List.map_cons, List.nodup_cons] at nd
      by_cases hk : k2 = k
      · subst hk
        have h1 : putK (keyW k2) w ((k', w') :: kvs) = (k', w) :: kvs := by rw [putK, if_pos e.1]
        have h2 : L2.putK ((k2, v2) :: ks) k2 v = (k2, v) :: ks := by
          unfold L2.putK
          rw [if_pos (by simp), List.map_cons, if_pos rfl]
          congr 1
          have : ks.map (fun kv => if kv.1 = k2 then (kv.1, v) else kv) = ks.map id := List.map_congr_left fun q hq => by
            have : q.1 ≠ k2 := fun z => nd.1 (by rw [← z]; exact List.mem_map.mpr ⟨q, hq, rfl⟩)
            rw [if_neg this]; rfl
          rw [this, List.map_id]
        rw [h1, h2]
        exact ⟨by simp [e.1, e.2], .cons hv hr⟩
      · have h1 : putK (keyW k) w ((k', w') :: kvs) = (k', w') :: putK (keyW k) w kvs := by
          rw [putK, if_neg fun z => hk (keyW_inj (e.1.symm.trans z))]
        have h2 : L2.putK ((k2, v2) :: ks) k v = (k2, v2) :: L2.putK ks k v := by
          unfold L2.putK
          have : ((k2, v2) :: ks).any (fun kv => decide (kv.1 = k)) = ks.any (fun kv => decide (kv.1 = k)) := by simp [hk]
          rw [this]
          split
          · rw [List.map_cons, if_neg hk]
          · rfl
        obtain ⟨i1, i2⟩ := put_dK hv nd.2 e.2 hr
        rw [h1, h2]
        exact ⟨by simp [e.1, i1], .cons hv' i2⟩
theorem put_ent {ρ : List Addr} {H : Hp} {k w : W} {v : V} {u : Value} {b : Addr} (hk : k.keyb = true) (hb : RW C ρ H k (.ref b)) (hv : RW C ρ H w v) (rv : RelV v u) : ∀ {kvs : List (W × W)} {xs : List (NestedKey × Addr × Value)}, (xs.map (·.1)).Nodup → REnt C ρ H kvs xs → REnt C ρ H (putK k w kvs) (storedH xs k.nk b u)
  | [], xs, _, r => by
    rw [REnt] at r
    subst r
    rw [storedH_new rfl, putK]
    simp only [REnt]
    exact ⟨_, [], rfl, ⟨rfl, hk, hb, v, hv, rv⟩, rfl⟩
  | (k', w') :: kvs, xs, nd, r => by
    rw [REnt] at r
    obtain ⟨x, q, rfl, ⟨h1, h2, h3, v', h4, h5⟩, hr⟩ := r
    rw [List.map_cons, List.nodup_cons] at nd
    have hk' := hk
    unfold W.keyb at hk' h2
    rw [Bool.and_eq_true] at hk' h2
    by_cases e : k' = k
    · subst e
      have e1 : putK k' w ((k', w') :: kvs) = (k', w) :: kvs := by rw [putK, if_pos rfl]
      have e2 : storedH (x :: q) k'.nk b u = (x.1, x.2.1, u) :: q := by
        have hx : x.1 = k'.nk := h1.symm
        have : atKey (x :: q) k'.nk = some x.2 := by unfold atKey; simp [hx]
        rw [storedH_old this, List.map_cons]
        unfold putAt
        rw [if_pos hx]
        congr 1
        have : q.map (fun x => if x.1 = k'.nk then (x.1, x.2.1, u) else x) = q.map id := List.map_congr_left fun y hy => by
          have : y.1 ≠ k'.nk := fun z => nd.1 (by rw [hx, ← z]; exact List.mem_map.mpr ⟨y, hy, rfl⟩)
          rw [if_neg this]; rfl
        rw [this, List.map_id]
      rw [e1, e2, REnt]
      exact ⟨_, q, rfl, ⟨h1, hk, h3, v, hv, rv⟩, hr⟩
    · have ne : ¬ x.1 = k.nk := fun z => e (nk_inj h2.1 hk'.1 (h1.trans z))
      have e1 : putK k w ((k', w') :: kvs) = (k', w') :: putK k w kvs := by rw [putK, if_neg e]
      have ea : atKey (x :: q) k.nk = atKey q k.nk := by unfold atKey; simp [List.find?_cons, ne]
      have e2 : storedH (x :: q) k.nk b u = x :: storedH q k.nk b u := by
        unfold storedH
        rw [ea]
        split
        · rw [List.map_cons]
          congr 1
          unfold putAt
          rw [if_neg ne]
        · rfl
      rw [e1, e2, REnt]
      exact ⟨x, _, rfl, ⟨h1, by unfold W.keyb; rw [Bool.and_eq_true]; exact h2, h3, v', h4, h5⟩, put_ent hk hb hv rv nd.2 hr⟩
theorem kv_keys : ∀ {ks : List (Key × V)} {vs : List (Key × Value)}, KV ks vs → vs.map (·.1) = ks.map (·.1)
  | _, _, .nil => rfl
  | _, _, .cons r t => by rw [List.map_cons, List.map_cons, r.1, kv_keys t]
theorem ext_new {P : Program} {w : World} {H : Hp} {h : Heap} {a : Addr} {o : Obj} (e : h.get? a = some o) : ObjOk P w (upd H a (.ext fun h => h.get? a = some o)) h a (.ext fun h => h.get? a = some o) :=
  ⟨e, ⟨o, e⟩, fun h1 h2 e1 k => k o e1⟩
theorem putK_ne {k w : W} {kvs : List (W × W)} : putK k w kvs ≠ [] := by
  cases kvs with
  | nil => rw [putK]; simp
  | cons p r => obtain ⟨a, b⟩ := p; rw [putK]; split <;> simp
theorem dict_put {pins : List (Addr × Obj)} {σ : L2.St} {s : Shared} {ρ : List Addr} {H : Hp} {m : Store} {n : Nat} {kvs : List (W × W)} {a : Addr} {k w : W} {y v : V} {u u2 : Value} {E : Value → Shared → Prop} {Q : Unit → Shared → Prop}
    (hP : C.P = X.prog) (hw : C.w = X.w) (hu : X.A.units + 64 < cLine) (I : Inv X pins σ H s) (R : RS C ρ H m) (e : m[n]? = some (.dct kvs)) (ha : ρ[n]? = some a)
    (hok : okKey k kvs) (hl : kvs.length < cap) (hy : RW C ρ H k y) (ry : RelV y u) (hv : RW C ρ H w v) (rv : RelV v u2)
    (hq : ∀ s' H', Inv X pins σ H' s' → RS C ρ H' (m.set n (.dct (putK k w kvs))) → Ext ρ H ρ H' → Q () s') : wpAny (model X.prog X.w) X.A (setItem (.ref a) u u2) Q E s := by
  have h := R.obj n _ a e ha
  have hk := hok.1
  have hu1 : X.A.units + 1 < cLine := by omega
  have x0 : ∀ {o : HO}, Ext0 ρ H ρ (upd H a o) := fun {o} => by
    obtain ⟨_, x⟩ := R.write (o := .lst []) (u := .lst []) ha h.notTup ⟨[], upd_same, .nil⟩
    exact ⟨fun n a h => h, fun b vs q => by rw [upd_ne (fun z => by subst z; exact h.notTup vs q)]; exact q, fun b o' q hn nt => ⟨by rw [upd_ne (fun z => by subst z; exact hn (List.mem_of_getElem? ha))]; exact q, hn⟩⟩
  have nested : ∀ {b : Addr} {xs : List (NestedKey × Addr × Value)}, y = .ref b → Mut (H a) → (a == sysModules) = false → s.heap.DictOfH (nestedKind X.prog X.w) a xs → xs.length ≤ sizeLine → (xs.map (·.1)).Nodup → REnt C ρ H kvs xs →
      wpAny (model X.prog X.w) X.A (setItem (.ref a) u u2) Q E s := fun {b xs} ey mu hsm dd hz hnd hent => by
    subst ey
    obtain rfl : u = .ref b := ry
    have hr : (nestedKind X.prog X.w).room X.A.in1 := by show X.A.units + 1 + 8 < cLine; omega
    refine wpAny_setItem_heap hr (nested_is I hk hy) dd (fun h' dd' sb => ?_) hz
    obtain ⟨o', es', ep', g1, g2, g3, g4, _, g6⟩ := dd'
    have ent := put_ent hk hy hv rv hnd hent
    obtain ⟨R', x'⟩ := R.write (u := .ext fun h => h.get? a = some o') (o := .dct (putK k w kvs)) ha h.notTup (.inr ⟨putK_ne, hsm, o', es', ep', _, upd_same, g2, g3, by rw [hP, hw]; exact g4, g6, ent.mono0 x0⟩)
    refine hq _ _ (I.write (t' := s.toks + (nestedKind X.prog X.w).draws k.nk) mu (.inl rfl) (fun c o hc q => (sb.2 c hc).trans q) ⟨o', g1⟩ (ext_new g1)) R' x'
  rcases h with ⟨ks, h1, h2, h3⟩ | ⟨h0, h1, o, es, ep, xs, h2, h3, h4, h5, h6, h7⟩
  · have hlen : ks.length = kvs.length := by
      have := congrArg List.length h2
      simpa using this.symm
    rcases keyb_cases hk with ⟨kk, rfl⟩ | ⟨ws, rfl⟩
    · have ey := keyW_rel hy
      subst ey
      have g := DPut.k (k := kk) (v := v) h1 (by rw [hlen]; exact cap_lt hl)
      refine d_setItem hu1 I g ry rv fun s' I' => ?_
      have nd : (ks.map (·.1)).Nodup := by
        obtain ⟨_, _, vs', rel, _, _, _, _, _, _, _, _, hn⟩ := I.hok a _ h1
        rw [← kv_keys rel]; exact hn
      obtain ⟨p1, p2⟩ := put_dK (k := kk) hv nd h2 h3
      obtain ⟨R', x'⟩ := R.write (u := .dK (L2.putK ks kk v)) (o := .dct (putK (keyW kk) w kvs)) ha (fun vs q => by rw [h1] at q; cases q) (.inl ⟨_, upd_same, p1, p2.mono0 x0⟩)
      exact hq s' _ I' R' x'
    · by_cases hz : ks = []
      · subst hz
        have hz2 : kvs = [] := by cases kvs <;> simp at h2 ⊢
        subst hz2
        obtain ⟨b, vs, rfl, eb, _⟩ := id hy.tup_iff
        obtain ⟨z, hd, vs', rel, dd⟩ := I.hok a _ h1
        cases rel
        obtain ⟨ob, es, ep, ho, hc, hdt, _, hpr, _⟩ := dd
        have hes : es.toList = [] := by
          generalize es.toList = l at hpr
          cases hpr
          rfl
        have dd2 : s.heap.DictOfH (nestedKind X.prog X.w) a [] := ⟨ob, es, ep, ho, hc, hdt, hes, (fun x hx => by cases hx), List.nodup_nil⟩
        exact nested rfl (by rw [h1]; trivial) hd dd2 (Nat.zero_le _) List.nodup_nil (by rw [REnt])
      · cases kvs with
        | nil => cases ks <;> simp at h2 hz
        | cons kv kvs =>
          cases ks with
          | nil => exact absurd rfl hz
          | cons q ks =>
            have := hok.2 kv List.mem_cons_self
            simp only [List.map_cons, List.cons.injEq] at h2
            rw [h2.1] at this
            rcases q with ⟨q1 | q1, q2⟩ <;> simp [keyW, W.isT] at this
  · rw [hP, hw] at h5
    rcases keyb_cases hk with ⟨kk, rfl⟩ | ⟨ws, rfl⟩
    · cases kvs with
      | nil => exact absurd rfl h0
      | cons kv kvs =>
        have := hok.2 kv List.mem_cons_self
        rw [REnt] at h7
        obtain ⟨x, q, rfl, ⟨e1, e2, e3, _⟩, _⟩ := h7
        rcases keyb_cases e2 with ⟨k2, e4⟩ | ⟨ws, e4⟩
        · rw [e4] at e3
          have := keyW_rel e3
          cases k2 <;> cases this
        · rw [e4] at this
          cases kk <;> simp [keyW, W.isT] at this
    · obtain ⟨b, vs, rfl, eb, _⟩ := id hy.tup_iff
      have dd := dictH I h2 h3 h4 h5 h6 h7
      have hlen : ∀ {kvs : List (W × W)} {xs : List (NestedKey × Addr × Value)}, REnt C ρ H kvs xs → xs.length = kvs.length := by
        intro kvs
        induction kvs with
        | nil => intro xs r; rw [REnt] at r; subst r; rfl
        | cons kv kvs ih =>
          intro xs r
          rw [REnt] at r
          obtain ⟨x, q, rfl, _, hr⟩ := r
          simp [ih hr]
      exact nested rfl (by rw [h2]; trivial) h1 dd (by rw [hlen h7]; exact Nat.le_of_lt (cap_lt hl)) h6 h7
end
end Ev

set_option Elab.async false
set_option linter.all false
set_option maxRecDepth 100000
set_option maxHeartbeats 4000000
namespace Ev
open PySem PySem.Spec PyProof.Rows L2
open Classical
section
variable {C : Cf} {X : Cx}
/-! ### in -/
theorem any_of_bool {b t : Bool} {Q : VK} {H : Hp} (e : b = t) (q : Q (.bl t) H) : Q (.bl b) H := by rw [e]; exact q
theorem in_some {x y : W} {m : Store} {t : Bool} (h : evIn x y m = some t) :
    (∃ ys d ds, y = .tup ys ∧ datOf m x = some d ∧ W.datL (datR m 8) ys = some ds ∧ SeqAt.shaped d = true ∧ SeqAt.shaped (.tuple ds) = true ∧ t = ds.any fun z => PyData.eqv z d) ∨
    (∃ n ys d ds, y = .ref n ∧ m[n]? = some (.lst ys) ∧ datOf m x = some d ∧ W.datL (datR m 7) ys = some ds ∧ SeqAt.shaped d = true ∧ SeqAt.shaped (.list ds) = true ∧ t = ds.any fun z => PyData.eqv z d) ∨
    ∃ n kvs, y = .ref n ∧ m[n]? = some (.dct kvs) ∧ okKey x kvs ∧ t = (findK x kvs).isSome := by
  unfold evIn at h
  split at h
  · split at h
    · rename_i d ds e1 e2
      split at h
      · rename_i hs
        exact .inl ⟨_, d, ds, rfl, e1, e2, hs.1, hs.2, (Option.some.inj h).symm⟩
      · cases h
    · cases h
  · split at h
    · rename_i e0
      split at h
      · rename_i d ds e1 e2
        split at h
        · rename_i hs
          exact .inr (.inl ⟨_, _, d, ds, rfl, e0, e1, e2, hs.1, hs.2, (Option.some.inj h).symm⟩)
        · cases h
      · cases h
    · rename_i e0
      split at h
      · rename_i hk
        refine .inr (.inr ⟨_, _, rfl, e0, hk, ?_⟩)
        rw [← Option.some.inj h]
        by_cases hm : x ∈ List.map (fun p => p.1) (by assumption : List (W × W))
        · rw [decide_eq_true hm, mem_find.mp hm]
        · rw [decide_eq_false hm]
          cases e : findK x (by assumption : List (W × W)) with
          | none => rfl
          | some v => exact absurd (mem_find.mpr (by rw [e]; rfl)) hm
      · cases h
    · cases h
  · cases h
theorem so_in (hP : C.P = X.prog) (hw : C.w = X.w) (hu : X.A.units + 66 < cLine) : OpR X (compareOp .In) (r2b C (evCmp .inn)) := by
  intro pins s σ H x y v u Q I rx ry ⟨ρ, m, a, b, t, R, qa, qb, e, q⟩
  rcases in_some (show evIn a b m = some t from e) with ⟨ys, d, ds, rfl, e1, e2, s1, s2, rfl⟩ | ⟨n, ys, d, ds, rfl, e0, e1, e2, s1, s2, rfl⟩ | ⟨n, kvs, rfl, e0, hk, rfl⟩
  · obtain ⟨p, vs, rfl, ep, qv⟩ := qb.tup_iff
    obtain ⟨as, r1⟩ := Dp.reads I d x v (dp_of (K := X.K) R qa e1) rx
    obtain ⟨bs, r2⟩ := Dp.reads I (.tuple ds) _ u (.tup (SqT.of ep) (dp_datL (fun n d a => dp_datR R 8 n d a) qv e2)) ry
    refine SeqAt.in_tuple_reads r2 r1 (SeqAt.canLay_of_shaped s2) (SeqAt.canLay_of_shaped s1) ?_ ⟨.bl _, H, I, rfl, q⟩
    have h1 := SeqAt.depth_of_shaped s1
    have h2 := Nat.min_le_right (PyData.depthAll ds) d.depth
    omega
  · obtain ⟨p, vs, rfl, _, ep, qv⟩ := R.lst qb e0
    exact op_inD (by omega) pins s σ H x _ v u Q I rx ry ⟨d, ds, dp_of R qa e1, .lst (SqL.of ep) (dp_datL (fun n d a => dp_datR R 7 n d a) qv e2), s1, s2, q⟩
  · obtain ⟨p, ep, rfl⟩ := qb.ref_iff
    obtain rfl : u = .ref p := ry
    exact (dict_find (E := X.xe) hP hw (by omega) I (R.obj n _ p e0 ep) hk qa rx).2.2.1 fun s' I' => ⟨.bl _, H, I', rfl, q⟩
theorem so_nin (hP : C.P = X.prog) (hw : C.w = X.w) (hu : X.A.units + 66 < cLine) : OpR X (compareOp .NotIn) (r2b C (evCmp .nin)) := by
  intro pins s σ H x y v u Q I rx ry ⟨ρ, m, a, b, t, R, qa, qb, e, q⟩
  obtain ⟨t', e9, rfl⟩ := Option.map_eq_some_iff.mp (show (evIn a b m).map (!·) = some t from e)
  rcases in_some e9 with ⟨ys, d, ds, rfl, e1, e2, s1, s2, rfl⟩ | ⟨n, ys, d, ds, rfl, e0, e1, e2, s1, s2, rfl⟩ | ⟨n, kvs, rfl, e0, hk, rfl⟩
  · obtain ⟨p, vs, rfl, ep, qv⟩ := qb.tup_iff
    obtain ⟨as, r1⟩ := Dp.reads I d x v (dp_of (K := X.K) R qa e1) rx
    obtain ⟨bs, r2⟩ := Dp.reads I (.tuple ds) _ u (.tup (SqT.of ep) (dp_datL (fun n d a => dp_datR R 8 n d a) qv e2)) ry
    refine SeqAt.notIn_tuple_reads r2 r1 (SeqAt.canLay_of_shaped s2) (SeqAt.canLay_of_shaped s1) ?_ ⟨.bl _, H, I, rfl, q⟩
    have h1 := SeqAt.depth_of_shaped s1
    have h2 := Nat.min_le_right (PyData.depthAll ds) d.depth
    omega
  · obtain ⟨p, vs, rfl, _, ep, qv⟩ := R.lst qb e0
    exact op_notInD (by omega) pins s σ H x _ v u Q I rx ry ⟨d, ds, dp_of R qa e1, .lst (SqL.of ep) (dp_datL (fun n d a => dp_datR R 7 n d a) qv e2), s1, s2, q⟩
  · obtain ⟨p, ep, rfl⟩ := qb.ref_iff
    obtain rfl : u = .ref p := ry
    exact (dict_find (E := X.xe) hP hw (by omega) I (R.obj n _ p e0 ep) hk qa rx).2.2.2 fun s' I' => ⟨.bl _, H, I', rfl, q⟩
def copO : Cop → CmpOp
  | .eq => .Eq | .ne => .NotEq | .lt => .Lt | .le => .LtE | .gt => .Gt | .ge => .GtE | .is => .Is | .isn => .IsNot | .inn => .In | .nin => .NotIn
theorem so_cmp (hP : C.P = X.prog) (hw : C.w = X.w) (hu : X.A.units + 66 < cLine) (o : Cop) : OpR X (compareOp (copO o)) (r2b C (evCmp o)) := by
  cases o
  · exact so_eq (by omega)
  · exact so_ne (by omega)
  · exact so_lt (by omega)
  · exact so_le
  · exact so_gt
  · exact so_ge
  · exact so_is
  · exact so_isn
  · exact so_in hP hw hu
  · exact so_nin hP hw hu
/-! ### items -/
theorem atI_rw {ρ : List Addr} {H : Hp} {ws : List W} {vs : List V} {i : Int} {w : W} (h : RWs C ρ H ws vs) (e : atI ws i = some w) : ∃ v, atI vs i = some v ∧ RW C ρ H w v := by
  unfold atI at e ⊢
  rw [Option.bind_eq_some_iff] at e
  obtain ⟨j, e1, e2⟩ := e
  obtain ⟨v, e3, r⟩ := h.get e2
  refine ⟨v, ?_, r⟩
  rw [← h.length, e1]
  exact e3
theorem Resof_ok {α : Type} {o : Option α} {m : Store} {β : Type} {rel : List Addr → Hp → α → β → Prop} {σ : L2.St} {Wx : WX} {ρ : List Addr} {H : Hp} {Q : β → Hp → Prop} (h : PR C rel σ Wx ρ H (Res.of o m) Q) : ∃ a, o = some a ∧ PR C rel σ Wx ρ H (.ok a m) Q := by
  cases o with
  | none => exact h.elim
  | some a => exact ⟨a, rfl, h⟩
theorem so_idx (hP : C.P = X.prog) (hw : C.w = X.w) (hu : X.A.units + 66 < cLine) : IxR X (r2 C evIdx) := by
  intro value slice pins s σ H x y v u Q I rx ry h hs
  obtain ⟨σ', Wx, ρ, m, a, b, R, qa, qb, P⟩ := h
  unfold evIdx at P
  split at P
  · obtain ⟨w, e, P⟩ := Resof_ok P
    obtain ⟨p, vs, rfl, ep, qv⟩ := qa.tup_iff
    rw [qb.int_iff] at ry
    obtain ⟨z, ez, rz⟩ := atI_rw qv e
    exact ix_tup value slice pins s σ H _ _ v u Q I rx ry ⟨p, vs, _, z, rfl, rfl, SqT.of ep, ez, P.here R rz⟩ hs
  · split at P
    · rename_i hc
      obtain ⟨w, e, P⟩ := Resof_ok P
      obtain ⟨c, e2, rfl⟩ := Option.map_eq_some_iff.mp e
      rw [qa.str_iff] at rx
      rw [qb.int_iff] at ry
      exact ix_str value slice pins s σ H _ _ v u Q I rx ry ⟨_, _, c, rfl, rfl, cap_le hc, e2, P.here R RW.str⟩ hs
    · exact P.elim
  · split at P
    · rename_i e0
      obtain ⟨w, e, P⟩ := Resof_ok P
      obtain ⟨p, vs, rfl, _, ep, qv⟩ := R.lst qa e0
      rw [qb.int_iff] at ry
      obtain ⟨z, ez, rz⟩ := atI_rw qv e
      exact ix_list value slice pins s σ H _ _ v u Q I rx ry ⟨p, vs, _, z, rfl, rfl, SqL.of ep, ez, P.here R rz⟩ hs
    · rename_i e0
      split at P
      · rename_i hk
        obtain ⟨w, e, P⟩ := Resof_ok P
        obtain ⟨p, ep, rfl⟩ := qa.ref_iff
        obtain rfl : v = .ref p := rx
        obtain ⟨hT, hf, _⟩ := dict_find (E := X.xe) hP hw (by omega) I (R.obj _ _ p e0 ep) hk qb ry
        rcases hf with hf | ⟨w', z, ez, rz, hg⟩
        · rw [hf] at e; cases e
        · rw [ez] at e
          cases e
          exact tail_any hT PySem.F.slot_dict_getitem.lookup (hg fun w' s' I' r' => ⟨z, H, I', r', P.here R rz⟩) hs
      · exact P.elim
    · exact P.elim
  · exact P.elim
/-! ### slices -/
theorem RWs.cut {ρ : List Addr} {H : Hp} {ws : List W} {vs : List V} (lo hi : Option Int) (h : RWs C ρ H ws vs) : RWs C ρ H (cut ws lo hi) (cutV vs lo hi) := by
  unfold Ev.cut cutV
  rw [h.length]
  exact (h.drop _).take _
def rS (C : Cf) (g : W → Option Int → Option Int → Store → Res W) : V → Option Int → Option Int → Hp → VK → Prop := fun x lo hi H Q => ∃ σ Wx ρ m a, RS C ρ H m ∧ RW C ρ H a x ∧ PR C (RW C) σ Wx ρ H (g a lo hi m) Q
theorem so_slc : SlR X (rS C evSlc) := by
  intro pins s σ H x v vl vu lo hi sl Q I rx hs pl pu h
  obtain ⟨σ', Wx, ρ, m, a, R, qa, P⟩ := h
  unfold evSlc at P
  split at P
  · obtain ⟨p, vs, rfl, ep, qv⟩ := qa.tup_iff
    refine sl_tupA pins s σ H _ v vl vu lo hi sl Q I rx hs pl pu ⟨p, vs, rfl, SqT.of ep, fun hw => ?_, fun _ p hp => P.tup R (qv.cut lo hi) hp⟩
    refine P _ ρ H (.refl _ _) R ?_
    rw [RW]
    refine ⟨p, vs, rfl, ep, ?_⟩
    have := qv.cut lo hi
    unfold cutV at this
    rwa [hw.1, hw.2, List.drop_zero, Nat.sub_zero, List.take_length] at this
  · split at P
    · rename_i e0
      obtain ⟨p, vs, rfl, _, ep, qv⟩ := R.lst qa e0
      exact sl_list pins s σ H _ v vl vu lo hi sl Q I rx hs pl pu ⟨p, vs, rfl, SqL.of ep, fun p hp => P.lst R (qv.cut lo hi) hp⟩
    · exact P.elim
  · exact P.elim
/-! ### stores -/
theorem so_set (hP : C.P = X.prog) (hw : C.w = X.w) (hu : X.A.units + 66 < cLine) : PSet X (fun o i v H Q => ∃ σ Wx ρ m a b c, RS C ρ H m ∧ RW C ρ H a o ∧ RW C ρ H b i ∧ RW C ρ H c v ∧ PR C (fun _ _ _ _ => True) σ Wx ρ H (evSet a b c m) (fun (_ : Unit) => Q)) := by
  intro pins s σ H o i v ov iv u Q I ro ri rv h
  obtain ⟨σ', Wx, ρ, m, a, b, c, R, qa, qb, qc, P⟩ := h
  unfold evSet at P
  split at P
  · split at P
    · rename_i e0
      obtain ⟨p, vs, rfl, ep, h1, qv⟩ := R.lst qa e0
      rw [qb.int_iff] at ri
      cases ej : ixN (_ : List W).length _ with
      | none => rw [ej] at P; exact P.elim
      | some q =>
        rw [ej] at P
        refine set_list pins s σ H _ _ v ov iv u Q I ro ri rv ⟨p, vs, _, q, rfl, rfl, h1, by rw [← qv.length]; exact ej, ?_⟩
        obtain ⟨R', x'⟩ := R.wlst ep h1 (qv.set q qc)
        exact P () ρ _ x' R' trivial
    · rename_i e0
      split at P
      · rename_i hk
        obtain ⟨p, ep, rfl⟩ := qa.ref_iff
        obtain rfl : ov = .ref p := ro
        exact dict_put hP hw (by omega) I R e0 ep hk.1 hk.2 qb ri qc rv fun s' H' I' R' x' => ⟨H', I', P () ρ H' x' R' trivial⟩
      · exact P.elim
    · exact P.elim
  · exact P.elim
end
end Ev

set_option Elab.async false
set_option linter.all false
set_option maxRecDepth 100000
set_option maxHeartbeats 4000000
namespace Ev
open PySem PySem.Spec PyProof.Rows L2
open Classical
section
variable {C : Cf} {X : Cx}
theorem iterOf_some {m : Store} {w : W} {ws : List W} (h : iterOf m w = some ws) : w = .tup ws ∨ ∃ n, w = .ref n ∧ (m[n]? = some (.lst ws) ∨ m[n]? = some (.lock ws)) := by
  unfold iterOf at h
  split at h
  · cases h; exact .inl rfl
  · split at h
    · cases h; rename_i e; exact .inr ⟨_, rfl, .inl e⟩
    · cases h; rename_i e; exact .inr ⟨_, rfl, .inr e⟩
    · cases h
  · cases h
/-- a list or a tuple, as the layer says it -/
theorem seq_of {ρ : List Addr} {H : Hp} {m : Store} {w : W} {ws : List W} {v : V} (K : PySem.W.Frag) (R : RS C ρ H m) (q : RW C ρ H w v) (h : iterOf m w = some ws) : ∃ a vs, v = .ref a ∧ RWs C ρ H ws vs ∧ ((w = .tup ws ∧ H a = some (.tup vs)) ∨ SqL K H a vs) := by
  rcases iterOf_some h with rfl | ⟨n, rfl, e⟩
  · obtain ⟨a, vs, rfl, ea, qv⟩ := q.tup_iff
    exact ⟨a, vs, rfl, qv, .inl ⟨rfl, ea⟩⟩
  · obtain ⟨a, vs, rfl, hs, qv⟩ := R.seq (K := K) q e
    exact ⟨a, vs, rfl, qv, .inr hs⟩
theorem rl_one {ρ : List Addr} {H : Hp} {σ : L2.St} {Wx : WX} {m : Store} {g : W → Store → Res W} {as : List W} {xs : List V} {Q : VK} (q : RWs C ρ H as xs) (P : PR C (RW C) σ Wx ρ H (one g as m) Q) : ∃ a x, as = [a] ∧ xs = [x] ∧ RW C ρ H a x ∧ PR C (RW C) σ Wx ρ H (g a m) Q := by
  unfold one at P
  split at P
  · obtain ⟨v, r, rfl, qv, qr⟩ := q.cons_iff
    rw [qr.nil_iff]
    exact ⟨_, v, rfl, rfl, qv, P⟩
  · exact P.elim
theorem so_len : CallR X (.builtin "len") (rL C (evBi .len)) := by
  intro pins s σ H xs us Q I r h
  obtain ⟨σ', Wx, ρ, m, as, R, qa, P⟩ := h
  obtain ⟨a, x, rfl, rfl, q, P⟩ := rl_one qa P
  unfold evLen at P
  split at P
  · split at P
    · rename_i hc
      have e := q.str_iff
      subst e
      exact call_len pins s σ H _ us Q I r ⟨_, _, rfl, ⟨cap_le hc, rfl⟩, P.here R RW.int⟩
    · exact P.elim
  · obtain ⟨a, vs, rfl, ea, qv⟩ := q.tup_iff
    refine call_len pins s σ H _ us Q I r ⟨_, _, rfl, .inr ⟨vs, SqT.of ea, rfl⟩, ?_⟩
    rw [← qv.length]
    exact P.here R RW.int
  · split at P
    · rename_i e
      obtain ⟨a, vs, rfl, hs, qv⟩ := R.seq (K := X.K) q (.inl e)
      refine call_len pins s σ H _ us Q I r ⟨_, _, rfl, .inl ⟨vs, hs, rfl⟩, ?_⟩
      rw [← qv.length]
      exact P.here R RW.int
    · rename_i e
      obtain ⟨a, vs, rfl, hs, qv⟩ := R.seq (K := X.K) q (.inr e)
      refine call_len pins s σ H _ us Q I r ⟨_, _, rfl, .inl ⟨vs, hs, rfl⟩, ?_⟩
      rw [← qv.length]
      exact P.here R RW.int
    · rename_i kvs e
      split at P
      · rename_i hk
        obtain ⟨p, ep, rfl⟩ := q.ref_iff
        obtain ⟨u, rfl, ru⟩ := vals1 r
        obtain rfl : u = .ref p := ru
        rcases R.obj _ _ p e ep with ⟨ks, h1, h2, h3⟩ | ⟨h0, h1, o, es, ep', xs, h2, h3, h4, h5, h6, h7⟩
        · have hl : kvs.length = ks.length := by
            have := congrArg List.length h2
            simpa using this
          refine d_len I (.inl h1) fun t s' I' => ⟨.int ks.length, H, I', ⟨t, rfl⟩, ?_⟩
          rw [← hl]
          exact P.here R RW.int
        · cases kvs with
          | nil => exact absurd rfl h0
          | cons kv kvs =>
            have := hk kv List.mem_cons_self
            rw [REnt] at h7
            obtain ⟨x, q, rfl, ⟨e1, e2, e3, _⟩, _⟩ := h7
            rcases keyb_cases e2 with ⟨k2, e4⟩ | ⟨ws, e4⟩
            · rw [e4] at e3
              have := keyW_rel e3
              cases k2 <;> cases this
            · rw [e4] at this
              simp [W.isT] at this
      · exact P.elim
    · exact P.elim
  · exact P.elim
theorem bools_some : ∀ {ws : List W} {bs : List Bool}, bools ws = some bs → ws = bs.map W.bl
  | [], bs, h => by simp [bools] at h; subst h; rfl
  | .bl b :: r, bs, h => by
    rw [bools, Option.map_eq_some_iff] at h
    obtain ⟨bs', h, rfl⟩ := h
    rw [bools_some h]; rfl
  | .non :: _, _, h => by simp [bools] at h
  | .int _ :: _, _, h => by simp [bools] at h
  | .str _ :: _, _, h => by simp [bools] at h
  | .tup _ :: _, _, h => by simp [bools] at h
  | .ref _ :: _, _, h => by simp [bools] at h
  | .obj _ _ :: _, _, h => by simp [bools] at h
  | .exc _ _ :: _, _, h => by simp [bools] at h
theorem rws_bools {ρ : List Addr} {H : Hp} : ∀ {bs : List Bool} {vs : List V}, RWs C ρ H (bs.map W.bl) vs → vs = bs.map V.bl
  | [], vs, h => h.nil_iff
  | b :: bs, vs, h => by
    obtain ⟨v, r, rfl, hv, hr⟩ := h.cons_iff
    rw [hv.bl_iff, rws_bools hr]; rfl
theorem intsW_some : ∀ {ws : List W} {bs : List Int}, intsW ws = some bs → ws = bs.map W.int
  | [], bs, h => by simp [intsW] at h; subst h; rfl
  | .int b :: r, bs, h => by
    rw [intsW, Option.map_eq_some_iff] at h
    obtain ⟨bs', h, rfl⟩ := h
    rw [intsW_some h]; rfl
  | .non :: _, _, h => by simp [intsW] at h
  | .bl _ :: _, _, h => by simp [intsW] at h
  | .str _ :: _, _, h => by simp [intsW] at h
  | .tup _ :: _, _, h => by simp [intsW] at h
  | .ref _ :: _, _, h => by simp [intsW] at h
  | .obj _ _ :: _, _, h => by simp [intsW] at h
  | .exc _ _ :: _, _, h => by simp [intsW] at h
theorem rws_ints {ρ : List Addr} {H : Hp} : ∀ {bs : List Int} {vs : List V}, RWs C ρ H (bs.map W.int) vs → vs = bs.map V.int
  | [], vs, h => h.nil_iff
  | b :: bs, vs, h => by
    obtain ⟨v, r, rfl, hv, hr⟩ := h.cons_iff
    rw [hv.int_iff, rws_ints hr]; rfl
theorem so_allF {id : String} {f : List Bool → Bool} (hc : CallR X (.builtin id) (fun vs H Q => ∃ (a : Addr) (bs : List Bool), vs = [V.ref a] ∧ SqL X.K H a (bs.map V.bl) ∧ Q (.bl (f bs)) H)) : CallR X (.builtin id) (rL C (one (evAll f))) := by
  intro pins s σ H xs us Q I r h
  obtain ⟨σ', Wx, ρ, m, as, R, qa, P⟩ := h
  obtain ⟨a, x, rfl, rfl, q, P⟩ := rl_one qa P
  unfold evAll at P
  split at P
  · split at P
    · rename_i e
      cases eb : bools (_ : List W) with
      | none => rw [eb] at P; exact P.elim
      | some bs =>
        rw [eb] at P
        obtain ⟨a, vs, rfl, hs, qv⟩ := R.seq (K := X.K) q (.inl e)
        rw [bools_some eb] at qv
        rw [rws_bools qv] at hs
        exact hc pins s σ H _ us Q I r ⟨a, bs, rfl, hs, P.here R RW.bl⟩
    · exact P.elim
  · exact P.elim
theorem so_tuple : CallR X (.type "tuple") (rL C (evBi .tuple)) := by
  intro pins s σ H xs us Q I r h
  obtain ⟨σ', Wx, ρ, m, as, R, qa, P⟩ := h
  simp only [evBi] at P
  obtain ⟨a, x, rfl, rfl, q, P⟩ := rl_one qa P
  cases e : iterOf m a with
  | none => simp only [seqOf, e, Res.of, Res.bind] at P; exact P.elim
  | some ws =>
    simp only [seqOf, e, Res.of, Res.bind] at P
    obtain ⟨a', vs, rfl, qv, hs⟩ := seq_of X.K R q e
    rcases hs with ⟨rfl, ha⟩ | hs
    · exact call_tuple_of pins s σ H _ us Q I r ⟨_, vs, rfl, .inr ⟨SqT.of ha, PR.here R q P⟩⟩
    · exact call_tuple_of pins s σ H _ us Q I r ⟨_, vs, rfl, .inl ⟨hs, fun p hp => PR.tup R qv hp P⟩⟩
theorem so_list : CallR X (.type "list") (rL C (evBi .list)) := by
  intro pins s σ H xs us Q I r h
  obtain ⟨σ', Wx, ρ, m, as, R, qa, P⟩ := h
  simp only [evBi] at P
  obtain ⟨a, x, rfl, rfl, q, P⟩ := rl_one qa P
  cases e : iterOf m a with
  | none => simp only [seqOf, e, Res.of, Res.bind] at P; exact P.elim
  | some ws =>
    simp only [seqOf, e, Res.of, Res.bind] at P
    obtain ⟨a', vs, rfl, qv, hs⟩ := seq_of X.K R q e
    rcases hs with ⟨_, ha⟩ | hs
    · exact call_list_of pins s σ H _ us Q I r ⟨_, vs, rfl, .inr (SqT.of ha), fun p hp => PR.lst R qv hp P⟩
    · exact call_list_of pins s σ H _ us Q I r ⟨_, vs, rfl, .inl hs, fun p hp => PR.lst R qv hp P⟩
/-- what lies there, as the layer's values: a plain value's place is told by the heap -/
theorem out_vals {pins : List (Addr × Obj)} {σ : L2.St} {s s' : Shared} {ρ : List Addr} {H : Hp} {ws : List W} {vs : List V} {us : List Value} (I : Inv X pins σ H s) (qv : RWs C ρ H ws vs) (rv : Vals vs us) (hp : ∀ w ∈ ws, w.plain = true) (keep : ∀ b o, s.heap.get? b = some o → s'.heap.get? b = some o) :
    ∀ {ws' : List W} {out : List Value}, LiesL s'.heap ws' out → (∀ u ∈ out, u ∈ us) → ∃ vs', Vals vs' out ∧ RWs C ρ H ws' vs'
  | [], out, lo, _ => by rw [LiesL] at lo; subst lo; exact ⟨[], .nil, .nil⟩
  | w :: ws', out, lo, hm => by
    rw [LiesL] at lo
    obtain ⟨u, q, rfl, l1, l2⟩ := lo
    obtain ⟨vs', h1, h2⟩ := out_vals I qv rv hp keep l2 fun x hx => hm x (List.mem_cons_of_mem _ hx)
    obtain ⟨i, hi, e⟩ := List.getElem_of_mem (hm u List.mem_cons_self)
    have hiv : i < vs.length := by rw [rv.length]; exact hi
    have ev : vs[i]? = some vs[i] := List.getElem?_eq_getElem hiv
    obtain ⟨u', eu, ru⟩ := rv.get ev
    rw [List.getElem?_eq_getElem hi, e] at eu
    cases eu
    obtain ⟨w0, ew, qw⟩ := qv.getV ev
    have pl := hp w0 (List.mem_of_getElem? ew)
    have l0 := (lies_of I pl qw ru).keep fun b o e _ => keep b o e
    rw [l1.inj l0]
    exact ⟨vs[i] :: vs', .cons ru h1, .cons qw h2⟩
end
end Ev

set_option Elab.async false
set_option linter.all false
set_option maxRecDepth 100000
set_option maxHeartbeats 4000000
namespace Ev
open PySem PySem.Spec PyProof.Rows L2
open Classical
theorem RWs.mem {C : Cf} {ρ : List Addr} {H : Hp} {ws : List W} {vs : List V} (h : RWs C ρ H ws vs) {v : V} (hv : v ∈ vs) : ∃ w ∈ ws, RW C ρ H w v := by
  obtain ⟨i, hi, e⟩ := List.getElem_of_mem hv
  obtain ⟨w, ew, r⟩ := h.getV (by rw [List.getElem?_eq_getElem hi, e])
  exact ⟨w, List.mem_of_getElem? ew, r⟩
section
variable {C : Cf} {X : Cx}
/-- a state that keeps all objects, with one new list -/
theorem inv_newlist {pins : List (Addr × Obj)} {σ : L2.St} {H : Hp} {s s' : Shared} {p : Addr} {vs : List V} {out : List Value} (I : Inv X pins σ H s) (keep : ∀ b o, s.heap.get? b = some o → s'.heap.get? b = some o) (hp : s.heap.objs.size ≤ p)
    (hg : s'.gens = s.gens) (ho : s'.os = s.os) (rv : Vals vs out) (hz : out.length ≤ sizeLine) (hn : ∃ n, s'.heap.get? p = some (seqObj "list" out.toArray n)) : Inv X pins σ (upd H p (.lst vs)) s' := by
  obtain ⟨n, hn⟩ := hn
  exact I.call' (ch := []) ho (Un.laid keep hp (I.hok.fresh hp)) (I.hok.laid keep hp ⟨by rw [rv.length]; exact hz, out, n, rv, hn⟩) (by rw [hg]; exact I.bare) fun b z => absurd z (by simp)
theorem so_sorted (hu : X.A.units + 66 < cLine) : CallR X (.builtin "sorted") (rL C (evBi .sorted)) := by
  intro pins s σ H xs us Q I r h
  obtain ⟨σ', Wx, ρ, m, as, R, qa, P⟩ := h
  simp only [evBi] at P
  obtain ⟨a, x, rfl, rfl, q, P⟩ := rl_one qa P
  unfold evSorted at P
  cases e : iterOf m a with
  | none => simp only [seqOf, e, Res.of, Res.bind] at P; exact P.elim
  | some ws =>
    simp only [seqOf, e, Res.of, Res.bind] at P
    split at P
    · rename_i c
      obtain ⟨a', vs, rfl, qv, hs⟩ := seq_of X.K R q e
      obtain ⟨u, rfl, ru⟩ := vals1 r
      obtain rfl : u = .ref a' := ru
      have pl : ∀ w ∈ ws, w.plain = true := fun w hw => (c.1 w hw).1
      have fin : ∀ {src : List Value}, Vals vs src → ∀ (s' : Shared) (d : Addr) (out : List Value), LiesL s'.heap (sortW ws) out → (∀ b o, s.heap.get? b = some o → s'.heap.get? b = some o) → s.heap.objs.size ≤ d → s'.gens = s.gens → s'.os = s.os → out.length ≤ sizeLine → (∀ u ∈ out, u ∈ src) →
          (∃ n, s'.heap.get? d = some (seqObj "list" out.toArray n)) → EP X pins σ Q (.ref d) s' := fun {src} rs s' d out lo keep hd hg ho hz hm hn => by
        obtain ⟨vs', h1, h2⟩ := out_vals I qv rs pl keep lo hm
        exact ⟨.ref d, _, inv_newlist I keep hd hg ho h1 hz hn, rfl, PR.lst R h2 (I.hok.fresh hd) P⟩
      rcases hs with ⟨_, ha⟩ | hs
      · obtain ⟨its, rv, ⟨o, ho, hc, n, hd⟩, hz⟩ := I.tuple (SqT.of ha)
        have lies := liesL_of I (plainL_of pl) qv rv
        exact sorted_gen c (by omega) (fun A' E' Q' _ hq => coll_seq ho hc (.inr rfl) hd lies (by rw [← rv.length]; exact hz) hq) (fin rv)
      · obtain ⟨its, rv, ⟨o, n, ho, hc, _, hd⟩, hz⟩ := I.list hs
        have lies := liesL_of I (plainL_of pl) qv rv
        exact sorted_gen c (by omega) (fun A' E' Q' _ hq => coll_seq ho hc (.inl rfl) hd lies (by rw [← rv.length]; exact hz) hq) (fin rv)
    · exact P.elim
theorem so_min2 {id : String} {f : Int → Int → Int} (hc : CallR X (.builtin id) (fun xs H Q => ∃ i j, xs = [.int i, .int j] ∧ Q (.int (f i j)) H)) : CallR X (.builtin id) (rL C (evMin f)) := by
  intro pins s σ H xs us Q I r h
  obtain ⟨σ', Wx, ρ, m, as, R, qa, P⟩ := h
  unfold evMin at P
  split at P
  · obtain ⟨v, q, rfl, hv, hr⟩ := qa.cons_iff
    obtain ⟨v2, q2, rfl, hv2, hr2⟩ := hr.cons_iff
    rw [hr2.nil_iff, hv.int_iff, hv2.int_iff] at r
    exact hc pins s σ H _ us Q I r ⟨_, _, rfl, P.here R RW.int⟩
  · exact P.elim
theorem so_abs : CallR X (.builtin "abs") (rL C (one evAbs)) := by
  intro pins s σ H xs us Q I r h
  obtain ⟨σ', Wx, ρ, m, as, R, qa, P⟩ := h
  obtain ⟨a, x, rfl, rfl, q, P⟩ := rl_one qa P
  unfold evAbs at P
  split at P
  · rw [q.int_iff] at r
    exact call_abs pins s σ H _ us Q I r ⟨_, rfl, P.here R RW.int⟩
  · exact P.elim
theorem so_intc : CallR X (.type "int") (rL C (one evInt)) := by
  intro pins s σ H xs us Q I r h
  obtain ⟨σ', Wx, ρ, m, as, R, qa, P⟩ := h
  obtain ⟨a, x, rfl, rfl, q, P⟩ := rl_one qa P
  unfold evInt at P
  split at P
  · rw [q.int_iff] at r
    exact call_int1 pins s σ H _ us Q I r (.inl ⟨_, rfl, P.here R RW.int⟩)
  · rw [q.bl_iff] at r
    exact call_int1 pins s σ H _ us Q I r (.inr ⟨_, rfl, P.here R RW.int⟩)
  · exact P.elim
theorem so_sum (hc : X.calm = true) : CallR X (.builtin "sum") (rL C (one evSum)) := by
  intro pins s σ H xs us Q I r h
  obtain ⟨σ', Wx, ρ, m, as, R, qa, P⟩ := h
  obtain ⟨a, x, rfl, rfl, q, P⟩ := rl_one qa P
  unfold evSum at P
  split at P
  · split at P
    · rename_i e
      cases eb : intsW (_ : List W) with
      | none => rw [eb] at P; exact P.elim
      | some bs =>
        rw [eb] at P
        obtain ⟨a, vs, rfl, hs, qv⟩ := R.seq (K := X.K) q (.inl e)
        rw [intsW_some eb] at qv
        rw [rws_ints qv] at hs
        exact cr_sum hc pins s σ H _ us Q I r ⟨a, bs, rfl, hs, P.here R RW.int⟩
    · exact P.elim
  · exact P.elim
/-! ### methods of lists, dicts -/
theorem so_append : MtR X "list.append" (rM C (evMt .append)) := by
  intro pins s σ H x xs v us Q I rx rxs h
  obtain ⟨σ', Wx, ρ, m, a, as, R, qa, qas, P⟩ := h
  simp only [evMt] at P
  unfold evAppend at P
  split at P
  · split at P
    · rename_i e
      split at P
      · rename_i hl
        obtain ⟨p, vs, rfl, ep, h1, qv⟩ := R.lst qa e
        obtain ⟨y, q, rfl, hy, hr⟩ := qas.cons_iff
        have eq := hr.nil_iff
        subst eq
        obtain ⟨R', x'⟩ := R.wlst ep h1 (qv.append (.cons hy .nil))
        exact mt_append pins s σ H _ _ v us Q I rx rxs ⟨p, vs, y, rfl, rfl, h1, by rw [← qv.length]; exact cap_lt hl, P _ ρ _ x' R' RW.non⟩
      · exact P.elim
    · exact P.elim
  · exact P.elim
theorem so_extend : MtR X "list.extend" (rM C (evMt .extend)) := by
  intro pins s σ H x xs v us Q I rx rxs h
  obtain ⟨σ', Wx, ρ, m, a, as, R, qa, qas, P⟩ := h
  simp only [evMt] at P
  unfold evExtend at P
  split at P
  · split at P
    · rename_i e e2
      split at P
      · rename_i hl
        obtain ⟨p, vs, rfl, ep, h1, qv⟩ := R.lst qa e
        obtain ⟨y, q, rfl, hy, hr⟩ := qas.cons_iff
        have eq := hr.nil_iff
        subst eq
        obtain ⟨p2, vs2, rfl, ep2, h2, qv2⟩ := R.lst hy e2
        obtain ⟨R', x'⟩ := R.wlst ep h1 (qv.append qv2)
        exact mt_extend pins s σ H _ _ v us Q I rx rxs ⟨p, p2, vs, vs2, rfl, rfl, h1, h2, by rw [← qv.length, ← qv2.length]; exact cap_le hl, P _ ρ _ x' R' RW.non⟩
      · exact P.elim
    · exact P.elim
  · exact P.elim
theorem so_pop : MtR X "list.pop" (rM C (evMt .pop)) := by
  intro pins s σ H x xs v us Q I rx rxs h
  obtain ⟨σ', Wx, ρ, m, a, as, R, qa, qas, P⟩ := h
  simp only [evMt] at P
  unfold evPop at P
  split at P
  · split at P
    · rename_i ws e
      obtain ⟨w, ew, P⟩ : ∃ w, ws.getLast? = some w ∧ PR C (RW C) σ' Wx ρ H (.ok w (m.set _ (.lst ws.dropLast))) Q := by
        cases e1 : ws.getLast? with
        | none => rw [e1] at P; exact P.elim
        | some w => rw [e1] at P; exact ⟨w, rfl, P⟩
      obtain ⟨p, vs, rfl, ep, h1, qv⟩ := R.lst qa e
      have eq := qas.nil_iff
      subst eq
      have hd : RWs C ρ H ws.dropLast vs.dropLast := by
        rw [List.dropLast_eq_take, List.dropLast_eq_take, qv.length]
        exact qv.take _
      rw [List.getLast?_eq_getElem?] at ew
      obtain ⟨z, ez, rz⟩ := qv.get ew
      obtain ⟨R', x'⟩ := R.wlst ep h1 hd
      exact mt_pop pins s σ H _ _ v us Q I rx rxs ⟨p, vs, z, rfl, rfl, h1, by rw [← qv.length]; exact ez, P _ ρ _ x' R' (rz.mono0 (x'.ext0 R))⟩
    · exact P.elim
  · split at P
    · rename_i j _ ws e
      obtain ⟨k, ek, P⟩ : ∃ k, ixN ws.length j = some k ∧ PR C (RW C) σ' Wx ρ H ((Res.of ws[k]? m).bind fun w m => .ok w (m.set _ (.lst (ws.eraseIdx k)))) Q := by
        cases e1 : ixN ws.length j with
        | none => rw [e1] at P; exact P.elim
        | some w => rw [e1] at P; exact ⟨w, rfl, P⟩
      obtain ⟨w, ew, P⟩ : ∃ w, ws[k]? = some w ∧ PR C (RW C) σ' Wx ρ H (.ok w (m.set _ (.lst (ws.eraseIdx k)))) Q := by
        cases e1 : ws[k]? with
        | none => rw [e1] at P; exact P.elim
        | some w => rw [e1] at P; exact ⟨w, rfl, P⟩
      obtain ⟨p, vs, rfl, ep, h1, qv⟩ := R.lst qa e
      obtain ⟨y, q, rfl, hy, hr⟩ := qas.cons_iff
      have eq := hr.nil_iff
      subst eq
      have ey := hy.int_iff
      subst ey
      obtain ⟨s1, s2, s3, s4⟩ := ixN_seq ek
      obtain ⟨z, ez, rz⟩ := qv.get ew
      obtain ⟨R', x'⟩ := R.wlst ep h1 (qv.eraseIdx k)
      have hz : vs.length ≤ sizeLine := (I.list (SqL.of h1)).choose_spec.2.2
      have h63 := line63
      have hl := qv.length
      exact mt_popAt pins s σ H _ _ v us Q I rx rxs ⟨p, vs, j, k, z, rfl, rfl, h1, by omega, by omega, by rw [← hl]; exact s1, ez, P _ ρ _ x' R' (rz.mono0 (x'.ext0 R))⟩
    · exact P.elim
  · exact P.elim
end
end Ev

set_option Elab.async false
set_option linter.all false
set_option maxRecDepth 100000
set_option maxHeartbeats 4000000
/-! Expressions. -/
namespace Ev
open PySem PySem.Spec PyProof.Rows L2
open Classical
section
variable {C : Cf} {X : Cx} {Wx : WX}
/-- from an operand's reading to what is asked behind it -/
theorem PR.then {α β γ δ : Type} {rel : List Addr → Hp → α → β → Prop} {rel' : List Addr → Hp → γ → δ → Prop} {σ : L2.St} {ρ : List Addr} {H : Hp} {r : Res α} {k : α → Store → Res γ} {Q : δ → Hp → Prop} {Q' : β → Hp → Prop} (h : PR C rel' σ Wx ρ H (r.bind k) Q)
    (i : ∀ b H1 ρ1 a m1, Ext ρ H ρ1 H1 → RS C ρ1 H1 m1 → rel ρ1 H1 a b → PR C rel' σ Wx ρ1 H1 (k a m1) Q → Q' b H1) : PR C rel σ Wx ρ H r Q' :=
  (PR.bind (rel := rel) h).imp fun b H1 ⟨ρ1, a, m1, x, R, q, _, P⟩ => i b H1 ρ1 a m1 x R q P
theorem l_var {i : Nat} {x : Str} {pos : Pos} (hN : X.N[i]? = some x) (hv : Vis X.env.scope x) (hd : (x == ("__debug__" : Str)) = false) (hcd : (x == ("__classdict__" : Str)) = false) :
    PE X (.Name x pos) (tE C Wx fun en m => match en[i]? with
      | some (some w) => .ok w m
      | _ => .bad) := by
  refine PE_imp (pe_var hN hv hd hcd) fun σ H Q ⟨ρ, en, m, E, R, P⟩ => ?_
  dsimp only at P
  split at P
  · rename_i w e
    obtain ⟨v, ev, r⟩ := E.2 i w e
    exact ⟨v, ev, P.here R r⟩
  · exact P.elim
theorem l_non {j pos} : PE X (.Constant .none j pos) (tE C Wx fun _ m => .ok .non m) := PE_imp pe_non fun σ H Q ⟨ρ, en, m, E, R, P⟩ => P.here R RW.non
theorem l_bl {b j pos} : PE X (.Constant (.bool b) j pos) (tE C Wx fun _ m => .ok (.bl b) m) := PE_imp pe_bl fun σ H Q ⟨ρ, en, m, E, R, P⟩ => P.here R RW.bl
theorem l_int {i j pos} : PE X (.Constant (.int i) j pos) (tE C Wx fun _ m => .ok (.int i) m) := PE_imp pe_int fun σ H Q ⟨ρ, en, m, E, R, P⟩ => P.here R RW.int
theorem l_str {x j pos} : PE X (.Constant (.str x) j pos) (tE C Wx fun _ m => .ok (.str x) m) := PE_imp pe_str fun σ H Q ⟨ρ, en, m, E, R, P⟩ => P.here R RW.str
variable {a b c : Expr} {fa fb fc : En → Store → Res W} {pos : Pos}
theorem l_neg (ha : PE X a (tE C Wx fa)) : PE X (.UnaryOp .USub a pos) (tE C Wx fun en m => gc m ((fa en m).bind fun x m => evUna .neg x m)) := by
  refine PE_imp (pe_un (so_neg (C := C)) ha) fun σ H Q ⟨ρ, en, m, E, R, P⟩ => ?_
  exact ⟨ρ, en, m, E, R, (PR.gc R P).then fun v H1 ρ1 w m1 x R1 q P1 => ⟨σ, Wx, ρ1, m1, w, R1, q, P1⟩⟩
theorem l_bin (o : Bop) (ha : PE X a (tE C Wx fa)) (hb : PE X b (tE C Wx fb)) : PE X (.BinOp a (bopO o) b pos) (tE C Wx fun en m => gc m ((fa en m).bind fun x m => (fb en m).bind fun y m => evBin o x y m)) := by
  refine PE_imp (pe_op (so_bin (C := C) o) ha hb) fun σ H Q ⟨ρ, en, m, E, R, P⟩ => ?_
  exact ⟨ρ, en, m, E, R, (PR.gc R P).then fun v H1 ρ1 w m1 x R1 q P1 => ⟨ρ1, en, m1, E.ext (x.ext0 R), R1, P1.then fun v2 H2 ρ2 w2 m2 x2 R2 q2 P2 => ⟨σ, Wx, ρ2, m2, w, w2, R2, q.mono0 (x2.ext0 R1), q2, P2⟩⟩⟩
theorem PR_cmp {σ : L2.St} {ρ : List Addr} {H : Hp} {m : Store} {o : Option Bool} {Q : VK} (R : RS C ρ H m) (P : PR C (RW C) σ Wx ρ H ((Res.of o m).bind fun t m => .ok (.bl t) m) Q) : ∃ t, o = some t ∧ Q (.bl t) H := by
  cases o with
  | none => exact P.elim
  | some t => exact ⟨t, rfl, P.here R RW.bl⟩
theorem l_cmp (hP : C.P = X.prog) (hw : C.w = X.w) (hu : X.A.units + 66 < cLine) (o : Cop) (hm : behindInMarks (copO o) b = false) (ha : PE X a (tE C Wx fa)) (hb : PE X b (tE C Wx fb)) :
    PE X (.Compare a [copO o] [b] pos) (tE C Wx fun en m => gc m ((fa en m).bind fun x m => (fb en m).bind fun y m => (Res.of (evCmp o x y m) m).bind fun t m => .ok (.bl t) m)) := by
  refine PE_imp (pe_cmpR (so_cmp hP hw hu o) ha hb hm) fun σ H Q ⟨ρ, en, m, E, R, P⟩ => ?_
  exact ⟨ρ, en, m, E, R, (PR.gc R P).then fun v H1 ρ1 w m1 x R1 q P1 => ⟨ρ1, en, m1, E.ext (x.ext0 R), R1, P1.then fun v2 H2 ρ2 w2 m2 x2 R2 q2 P2 => by
    obtain ⟨t, e, h⟩ := PR_cmp R2 P2
    exact ⟨ρ2, m2, w, w2, t, R2, q.mono0 (x2.ext0 R1), q2, e, h⟩⟩⟩
theorem l_chn (hP : C.P = X.prog) (hw : C.w = X.w) (hu : X.A.units + 66 < cLine) (o p : Cop) (hm : lastMarks [copO o, copO p] [b, c] = false) (ha : PE X a (tE C Wx fa)) (hb : PE X b (tE C Wx fb)) (hc : PE X c (tE C Wx fc)) :
    PE X (.Compare a [copO o, copO p] [b, c] pos) (tE C Wx fun en m => gc m ((fa en m).bind fun x m => (fb en m).bind fun y m => (Res.of (evCmp o x y m) m).bind fun t m =>
      if t = true then (fc en m).bind fun z m => (Res.of (evCmp p y z m) m).bind fun t m => .ok (.bl t) m else .ok (.bl false) m)) := by
  refine PE_imp (pe_chain (so_cmp hP hw hu o) (so_cmp hP hw hu p) ha hb hc hm) fun σ H Q ⟨ρ, en, m, E, R, P⟩ => ?_
  refine ⟨ρ, en, m, E, R, (PR.gc R P).then fun v H1 ρ1 w m1 x R1 q P1 => ⟨ρ1, en, m1, E.ext (x.ext0 R), R1, P1.then fun v2 H2 ρ2 w2 m2 x2 R2 q2 P2 => ?_⟩⟩
  cases e : evCmp o w w2 m2 with
  | none => rw [e] at P2; exact P2.elim
  | some t =>
    rw [e] at P2
    refine ⟨ρ2, m2, w, w2, t, R2, q.mono0 (x2.ext0 R1), q2, e, t, rfl, ?_⟩
    cases t with
    | false =>
      rw [if_neg Bool.false_ne_true]
      exact PR.here R2 RW.bl P2
    | true =>
      rw [if_pos rfl]
      refine ⟨ρ2, en, m2, (E.ext (x.ext0 R)).ext (x2.ext0 R1), R2, (show PR C (RW C) σ Wx ρ2 H2 ((fc en m2).bind fun z m => (Res.of (evCmp p w2 z m) m).bind fun t m => .ok (.bl t) m) Q from P2).then fun v3 H3 ρ3 w3 m3 x3 R3 q3 P3 => ?_⟩
      obtain ⟨t, e, h⟩ := PR_cmp R3 P3
      exact ⟨ρ3, m3, w2, w3, t, R3, q2.mono0 (x3.ext0 R2), q3, e, h⟩
/-! ### truth -/
theorem truV_of {ρ : List Addr} {H : Hp} {m : Store} {w : W} {v : V} {k : Bool} {K : PySem.W.Frag} (R : RS C ρ H m) (q : RW C ρ H w v) (h : truth m w = some k) : TruV K v H k := by
  cases w <;> simp only [truth, reduceCtorEq, Option.some.injEq] at h
  · rw [q.non_iff]; exact h.symm
  · rw [q.bl_iff]; exact h.symm
  · rw [q.int_iff]; exact h.symm
  · obtain ⟨a, vs, rfl, ea, qv⟩ := q.tup_iff
    exact .inr (.inl ⟨vs, SqT.of ea, by rw [← h, qv.isEmpty]⟩)
  · split at h
    · rename_i e
      obtain ⟨a, vs, rfl, hs, qv⟩ := R.seq (K := K) q (.inl e)
      exact .inl ⟨vs, hs, by rw [← Option.some.inj h, qv.isEmpty]⟩
    · rename_i e
      obtain ⟨a, vs, rfl, hs, qv⟩ := R.seq (K := K) q (.inr e)
      exact .inl ⟨vs, hs, by rw [← Option.some.inj h, qv.isEmpty]⟩
    · cases h
/-- the truth of a value -/
def fT (f : En → Store → Res W) : En → Store → Res Bool := fun en m => (f en m).bind fun x m => Res.of (truth m x) m
theorem PR_truth {σ : L2.St} {ρ : List Addr} {H : Hp} {m : Store} {w : W} {β : Type} {δ : Type} {rel : List Addr → Hp → β → δ → Prop} {k : Bool → Store → Res β} {Q : δ → Hp → Prop} (P : PR C rel σ Wx ρ H ((Res.of (truth m w) m).bind k) Q) : ∃ t, truth m w = some t ∧ PR C rel σ Wx ρ H (k t m) Q := by
  cases e : truth m w with
  | none => rw [e] at P; exact P.elim
  | some t => rw [e] at P; exact ⟨t, rfl, P⟩
theorem Res_bind_ok {α : Type} (r : Res α) : r.bind (fun a m => .ok a m) = r := by cases r <;> rfl
theorem l_and {y : Expr} {rest : List Expr} (ha : PE X a (tE C Wx fa)) (hb : PE X (.BoolOp .And (y :: rest) pos) (tE C Wx fb)) :
    PE X (.BoolOp .And (a :: y :: rest) pos) (tE C Wx fun en m => (fa en m).bind fun x m => (Res.of (truth m x) m).bind fun t m => if t = true then fb en m else .ok x m) := by
  refine PE_imp (pe_andT ha hb) fun σ H Q ⟨ρ, en, m, E, R, P⟩ => ?_
  refine ⟨ρ, en, m, E, R, P.then fun v H1 ρ1 w m1 x R1 q P1 => ?_⟩
  obtain ⟨t, e, P1⟩ := PR_truth P1
  refine ⟨t, truV_of R1 q e, ?_⟩
  cases t with
  | true => rw [if_pos rfl] at P1 ⊢; exact ⟨ρ1, en, m1, E.ext (x.ext0 R), R1, P1⟩
  | false => rw [if_neg Bool.false_ne_true] at P1 ⊢; exact P1.here R1 q
theorem l_or {y : Expr} {rest : List Expr} (ha : PE X a (tE C Wx fa)) (hb : PE X (.BoolOp .Or (y :: rest) pos) (tE C Wx fb)) :
    PE X (.BoolOp .Or (a :: y :: rest) pos) (tE C Wx fun en m => (fa en m).bind fun x m => (Res.of (truth m x) m).bind fun t m => if t = true then .ok x m else fb en m) := by
  refine PE_imp (pe_orT ha hb) fun σ H Q ⟨ρ, en, m, E, R, P⟩ => ?_
  refine ⟨ρ, en, m, E, R, P.then fun v H1 ρ1 w m1 x R1 q P1 => ?_⟩
  obtain ⟨t, e, P1⟩ := PR_truth P1
  refine ⟨t, truV_of R1 q e, ?_⟩
  cases t with
  | true => rw [if_pos rfl] at P1 ⊢; exact P1.here R1 q
  | false => rw [if_neg Bool.false_ne_true] at P1 ⊢; exact ⟨ρ1, en, m1, E.ext (x.ext0 R), R1, P1⟩
/-- a test of any expression without a road of its own -/
theorem t_plain (ha : PE X a (tE C Wx fa)) (he : ∀ whole, isTrue a X.env whole = (do let v ← whole; standAt a.pos; holding [v] (truthy v))) : PT X a (tT C Wx (fT fa)) := by
  refine PT_imp (pt_truth ha he) fun σ H Q ⟨ρ, en, m, E, R, P⟩ => ?_
  refine ⟨ρ, en, m, E, R, PR.then (rel := RW C) P fun v H1 ρ1 w m1 x R1 q P1 => ?_⟩
  obtain ⟨t, e, P1⟩ := Resof_ok P1
  exact ⟨t, truV_of R1 q e, P1.here R1 rfl⟩
theorem RW.of_bl {ρ : List Addr} {H : Hp} {w : W} {b : Bool} (h : RW C ρ H w (.bl b)) : w = .bl b := by
  cases w <;> rw [RW] at h
  · cases h
  · injection h with h; rw [h]
  · cases h
  · cases h
  · obtain ⟨_, _, z, _⟩ := h; cases z
  · obtain ⟨_, _, z⟩ := h; cases z
  · obtain ⟨_, _, _, z, _⟩ := h; cases z
  · obtain ⟨_, _, z, _⟩ := h; cases z
/-- the truth of what ends in a truth value, behind gc -/
theorem fT_gc {σ : L2.St} {ρ : List Addr} {H : Hp} {m : Store} {r : Res W} {Q : Bool → Hp → Prop} (R : RS C ρ H m) (P : PR C (fun _ _ a b => a = b) σ Wx ρ H ((gc m r).bind fun x m => Res.of (truth m x) m) Q) :
    PR C (RW C) σ Wx ρ H r fun v H1 => ∀ b, v = .bl b → Q b H1 := by
  have P1 := PR.gc R (PR.bind (rel := RW C) P)
  refine P1.imp fun v H1 ⟨ρ1, w, m1, x, R1, q, _, P2⟩ b hb => ?_
  subst hb
  rw [q.of_bl] at P2
  exact P2.here R1 rfl
theorem t_not (ha : PT X a (tT C Wx (fT fa))) : PT X (.UnaryOp .Not a pos) (tT C Wx (fT fun en m => gc m ((fa en m).bind fun x m => evUna .not x m))) := by
  refine PT_imp (pt_not ha) fun σ H Q ⟨ρ, en, m, E, R, P⟩ => ?_
  have P1 := fT_gc R P
  refine ⟨ρ, en, m, E, R, ?_⟩
  unfold fT
  cases e : fa en m with
  | bad => rw [e] at P1; exact P1.elim
  | exc c ws m1 => rw [e] at P1; exact P1
  | ok w m1 =>
    rw [e] at P1
    cases e2 : truth m1 w with
    | none => simp only [Res.bind, evUna, e2, Res.of] at P1; exact P1.elim
    | some t =>
      simp only [Res.bind, evUna, e2, Res.of] at P1 ⊢
      intro b' ρ' H' x' R' hb
      subst hb
      exact P1 (.bl (!t)) ρ' H' x' R' RW.bl _ rfl
theorem l_not (ha : PE X a (tE C Wx fa)) : PE X (.UnaryOp .Not a pos) (tE C Wx fun en m => gc m ((fa en m).bind fun x m => evUna .not x m)) := by
  refine PE_imp (pe_notT ha) fun σ H Q ⟨ρ, en, m, E, R, P⟩ => ?_
  refine ⟨ρ, en, m, E, R, (PR.gc R P).then fun v H1 ρ1 w m1 x R1 q P1 => ?_⟩
  obtain ⟨t, e, P1⟩ := PR_truth (show PR C (RW C) σ Wx ρ1 H1 ((Res.of (truth m1 w) m1).bind fun b m => .ok (.bl (!b)) m) Q from P1)
  exact ⟨t, truV_of R1 q e, P1.here R1 RW.bl⟩
theorem t_cmp (hP : C.P = X.prog) (hw : C.w = X.w) (hu : X.A.units + 66 < cLine) (o : Cop) (hm : behindInMarks (copO o) b = false) (ha : PE X a (tE C Wx fa)) (hb : PE X b (tE C Wx fb)) :
    PT X (.Compare a [copO o] [b] pos) (tT C Wx (fT fun en m => gc m ((fa en m).bind fun x m => (fb en m).bind fun y m => (Res.of (evCmp o x y m) m).bind fun t m => .ok (.bl t) m))) := by
  refine PT_imp (pt_cmpR (so_cmp hP hw hu o) ha hb hm) fun σ H Q ⟨ρ, en, m, E, R, P⟩ => ?_
  exact ⟨ρ, en, m, E, R, (fT_gc R P).then fun v H1 ρ1 w m1 x R1 q P1 => ⟨ρ1, en, m1, E.ext (x.ext0 R), R1, P1.then fun v2 H2 ρ2 w2 m2 x2 R2 q2 P2 => by
    obtain ⟨t, e, h⟩ := PR_cmp R2 P2
    exact ⟨ρ2, m2, w, w2, t, R2, q.mono0 (x2.ext0 R1), q2, e, t, rfl, h t rfl⟩⟩⟩
theorem t_chn (hP : C.P = X.prog) (hw : C.w = X.w) (hu : X.A.units + 66 < cLine) (o p : Cop) (hm : lastMarks [copO o, copO p] [b, c] = false) (ha : PE X a (tE C Wx fa)) (hb : PE X b (tE C Wx fb)) (hc : PE X c (tE C Wx fc)) :
    PT X (.Compare a [copO o, copO p] [b, c] pos) (tT C Wx (fT fun en m => gc m ((fa en m).bind fun x m => (fb en m).bind fun y m => (Res.of (evCmp o x y m) m).bind fun t m =>
      if t = true then (fc en m).bind fun z m => (Res.of (evCmp p y z m) m).bind fun t m => .ok (.bl t) m else .ok (.bl false) m))) := by
  refine PT_imp (pt_chain (so_cmp hP hw hu o) (so_cmp hP hw hu p) ha hb hc hm) fun σ H Q ⟨ρ, en, m, E, R, P⟩ => ?_
  refine ⟨ρ, en, m, E, R, (fT_gc R P).then fun v H1 ρ1 w m1 x R1 q P1 => ⟨ρ1, en, m1, E.ext (x.ext0 R), R1, P1.then fun v2 H2 ρ2 w2 m2 x2 R2 q2 P2 => ?_⟩⟩
  cases e : evCmp o w w2 m2 with
  | none => rw [e] at P2; exact P2.elim
  | some t =>
    rw [e] at P2
    refine ⟨ρ2, m2, w, w2, t, R2, q.mono0 (x2.ext0 R1), q2, e, t, rfl, ?_⟩
    cases t with
    | false =>
      rw [if_neg Bool.false_ne_true]
      exact ⟨false, rfl, PR.here R2 RW.bl P2 false rfl⟩
    | true =>
      rw [if_pos rfl]
      refine ⟨ρ2, en, m2, (E.ext (x.ext0 R)).ext (x2.ext0 R1), R2, (show PR C (RW C) σ Wx ρ2 H2 ((fc en m2).bind fun z m => (Res.of (evCmp p w2 z m) m).bind fun t m => .ok (.bl t) m) _ from P2).then fun v3 H3 ρ3 w3 m3 x3 R3 q3 P3 => ?_⟩
      obtain ⟨t, e, h⟩ := PR_cmp R3 P3
      exact ⟨ρ3, m3, w2, w3, t, R3, q2.mono0 (x3.ext0 R2), q3, e, t, rfl, h t rfl⟩
theorem t_and {y : Expr} {rest : List Expr} (ha : PT X a (tT C Wx (fT fa))) (hb : PW X (.BoolOp .And (y :: rest) pos) (tT C Wx (fT fb))) :
    PW X (.BoolOp .And (a :: y :: rest) pos) (tT C Wx (fT fun en m => (fa en m).bind fun x m => (Res.of (truth m x) m).bind fun t m => if t = true then fb en m else .ok x m)) := by
  have h := pw_and (pos := pos) ha hb
  refine ⟨fun whole pins s σ H Q I q => h.run whole pins s σ H Q I ?_⟩
  obtain ⟨ρ, en, m, E, R, P⟩ := q
  refine ⟨ρ, en, m, E, R, ?_⟩
  unfold fT at P ⊢
  dsimp only at P
  cases e : fa en m with
  | bad => rw [e] at P; exact P.elim
  | exc c ws m1 => rw [e] at P; exact P
  | ok w m1 =>
    rw [e] at P
    simp only [Res.bind] at P ⊢
    cases e2 : truth m1 w with
    | none => rw [e2] at P; exact P.elim
    | some t =>
      rw [e2] at P
      simp only [Res.of, Res.bind] at P ⊢
      intro b' ρ' H' x' R' hb'
      subst hb'
      cases t with
      | true =>
        rw [if_pos rfl] at P ⊢
        exact ⟨ρ', en, m1, E.ext (x'.ext0 R), R', P.up x'⟩
      | false =>
        rw [if_neg Bool.false_ne_true] at P ⊢
        simp only [Res.bind, e2] at P
        exact P false ρ' H' x' R' rfl
theorem t_or {y : Expr} {rest : List Expr} (ha : PT X a (tT C Wx (fT fa))) (hb : PW X (.BoolOp .Or (y :: rest) pos) (tT C Wx (fT fb))) :
    PW X (.BoolOp .Or (a :: y :: rest) pos) (tT C Wx (fT fun en m => (fa en m).bind fun x m => (Res.of (truth m x) m).bind fun t m => if t = true then .ok x m else fb en m)) := by
  have h := pw_or (pos := pos) ha hb
  refine ⟨fun whole pins s σ H Q I q => h.run whole pins s σ H Q I ?_⟩
  obtain ⟨ρ, en, m, E, R, P⟩ := q
  refine ⟨ρ, en, m, E, R, ?_⟩
  unfold fT at P ⊢
  dsimp only at P
  cases e : fa en m with
  | bad => rw [e] at P; exact P.elim
  | exc c ws m1 => rw [e] at P; exact P
  | ok w m1 =>
    rw [e] at P
    simp only [Res.bind] at P ⊢
    cases e2 : truth m1 w with
    | none => rw [e2] at P; exact P.elim
    | some t =>
      rw [e2] at P
      simp only [Res.of, Res.bind] at P ⊢
      intro b' ρ' H' x' R' hb'
      subst hb'
      cases t with
      | false =>
        rw [if_neg Bool.false_ne_true] at P ⊢
        exact ⟨ρ', en, m1, E.ext (x'.ext0 R), R', P.up x'⟩
      | true =>
        rw [if_pos rfl] at P ⊢
        simp only [Res.bind, e2] at P
        exact P true ρ' H' x' R' rfl
theorem t_ite (hc : PT X c (tT C Wx (fT fc))) (ha : PT X a (tT C Wx (fT fa))) (hb : PT X b (tT C Wx (fT fb))) :
    PT X (.IfExp c a b pos) (tT C Wx (fT fun en m => (fc en m).bind fun x m => (Res.of (truth m x) m).bind fun t m => if t = true then fa en m else fb en m)) := by
  refine ⟨fun pins s σ H Q I ⟨ρ, en, m, E, R, P⟩ => ?_⟩
  show wpAny _ _ (do if ← isTrue c X.env (eval c X.env) then isTrue a X.env (eval a X.env) else isTrue b X.env (eval b X.env)) _ _ s
  have key : PR C (fun _ _ a b => a = b) σ Wx ρ H (fT fc en m) fun t H1 => ∃ ρ1 m1, Ext ρ H ρ1 H1 ∧ RS C ρ1 H1 m1 ∧ PR C (fun _ _ a b => a = b) σ Wx ρ1 H1 (if t = true then fT fa en m1 else fT fb en m1) Q := by
    unfold fT at P ⊢
    dsimp only at P
    cases e : fc en m with
    | bad => rw [e] at P; exact P.elim
    | exc c ws m1 => rw [e] at P; exact P
    | ok w m1 =>
      rw [e] at P
      simp only [Res.bind] at P ⊢
      cases e2 : truth m1 w with
      | none => rw [e2] at P; exact P.elim
      | some t =>
        rw [e2] at P
        simp only [Res.of, Res.bind] at P ⊢
        intro b' ρ' H' x' R' hb'
        subst hb'
        refine ⟨ρ', m1, x', R', ?_⟩
        cases t with
        | true => rw [if_pos rfl] at P ⊢; exact P.up x'
        | false => rw [if_neg Bool.false_ne_true] at P ⊢; exact P.up x'
  refine wpAny_bind (thn (hc.run pins s σ H _ I ⟨ρ, en, m, E, R, key⟩) fun t s1 ⟨H1, I1, ρ1, m1, x, R1, P1⟩ => ?_)
  cases t with
  | true =>
    rw [if_pos rfl] at P1 ⊢
    exact ha.run pins s1 σ H1 Q I1 ⟨ρ1, en, m1, E.ext (x.ext0 R), R1, P1⟩
  | false =>
    rw [if_neg Bool.false_ne_true] at P1 ⊢
    exact hb.run pins s1 σ H1 Q I1 ⟨ρ1, en, m1, E.ext (x.ext0 R), R1, P1⟩
theorem l_ite (hc : PT X c (tT C Wx (fT fc))) (ha : PE X a (tE C Wx fa)) (hb : PE X b (tE C Wx fb)) :
    PE X (.IfExp c a b pos) (tE C Wx fun en m => (fc en m).bind fun x m => (Res.of (truth m x) m).bind fun t m => if t = true then fa en m else fb en m) := by
  refine PE_imp (pe_ifExp hc ha hb) fun σ H Q ⟨ρ, en, m, E, R, P⟩ => ?_
  refine ⟨ρ, en, m, E, R, ?_⟩
  unfold fT
  dsimp only at P
  cases e : fc en m with
  | bad => rw [e] at P; exact P.elim
  | exc c ws m1 => rw [e] at P; exact P
  | ok w m1 =>
    rw [e] at P
    simp only [Res.bind] at P ⊢
    cases e2 : truth m1 w with
    | none => rw [e2] at P; exact P.elim
    | some t =>
      rw [e2] at P
      simp only [Res.of, Res.bind] at P ⊢
      intro b' ρ' H' x' R' hb'
      subst hb'
      cases t with
      | true => rw [if_pos rfl] at P ⊢; exact ⟨ρ', en, m1, E.ext (x'.ext0 R), R', P.up x'⟩
      | false => rw [if_neg Bool.false_ne_true] at P ⊢; exact ⟨ρ', en, m1, E.ext (x'.ext0 R), R', P.up x'⟩
end
end Ev

set_option Elab.async false
set_option linter.all false
set_option maxRecDepth 100000
set_option maxHeartbeats 4000000
/-! Displays, subscripts, built-in calls. -/
namespace Ev
open PySem PySem.Spec PyProof.Rows L2
open Classical
/-- no starred one -/
def nst : Expr → Bool
  | .Starred _ _ => false
  | _ => true
def nca : Expr → Bool
  | .Call _ _ _ _ => false
  | _ => true
def nsl : Expr → Bool
  | .Slice _ _ _ _ => false
  | _ => true
theorem star_of {e : Expr} {es : List Expr} {env : Env} (h : nst e = true) : starEach (e :: es) env = (false, eval e env) :: starEach es env := by
  cases e <;> first | rfl | cases h
theorem stars_of : ∀ {es : List Expr} {env : Env} {pos : Pos}, es.all nst = true → (backTo pos (starEach es env)).any (·.1) = false
  | [], _, _, _ => rfl
  | e :: es, env, pos, h => by
    rw [List.all_cons, Bool.and_eq_true] at h
    rw [star_of h.1]
    show (false || (backTo pos (starEach es env)).any (·.1)) = false
    rw [stars_of h.2]; rfl
theorem base_of {o : Expr} {f : Str} {env : Env} {w : Sem Value} (h : nca o = true) : attributeBase o f env w = w := by
  cases o <;> first | rfl | cases h
theorem plain_of {b : Expr} (h : nsl b = true) : PlainIx b := by
  intro o i
  cases b <;> first | rfl | cases h
theorem Res.bind_assoc {α β γ : Type} (r : Res α) (f : α → Store → Res β) (g : β → Store → Res γ) : (r.bind f).bind g = r.bind fun a m => (f a m).bind g := by
  cases r <;> rfl
section
variable {C : Cf} {X : Cx} {Wx : WX} {a b e : Expr} {es : List Expr} {fa fb : En → Store → Res W} {fs : En → Store → Res (List W)} {pos : Pos}
theorem l_nil : PA X [] (tAs C Wx fun _ m => .ok [] m) := PA_imp pa_nil fun σ H Q ⟨ρ, en, m, E, R, P⟩ => P.here R RWs.nil
theorem l_cons (hs : nst e = true) (ha : PE X e (tE C Wx fa)) (hr : PA X es (tAs C Wx fs)) : PA X (e :: es) (tAs C Wx fun en m => (fa en m).bind fun w m => (fs en m).bind fun ws m => .ok (w :: ws) m) := by
  refine PA_imp (pa_cons ha hr (star_of hs)) fun σ H Q ⟨ρ, en, m, E, R, P⟩ => ?_
  exact ⟨ρ, en, m, E, R, PR.then (rel := RW C) P fun v H1 ρ1 w m1 x R1 q P1 => ⟨ρ1, en, m1, E.ext (x.ext0 R), R1, PR.then (rel := RWs C) P1 fun v2 H2 ρ2 w2 m2 x2 R2 q2 P2 => P2.here R2 (RWs.cons (q.mono0 (x2.ext0 R1)) q2)⟩⟩
theorem l_tup {k : Nat} (h : PA X es (tAs C Wx fs)) : PE X (.Tuple es k pos) (tE C Wx fun en m => (fs en m).bind fun ws m => if ws.length ≤ cap then .ok (.tup ws) m else .bad) := by
  refine PE_imp (pe_tup h) fun σ H Q ⟨ρ, en, m, E, R, P⟩ => ?_
  refine ⟨ρ, en, m, E, R, PR.then (rel := RWs C) P fun v H1 ρ1 w m1 x R1 q P1 => ?_⟩
  split at P1
  · rename_i hl
    exact ⟨by rw [← q.length]; exact cap_le hl, fun p hp => P1.tup R1 q hp⟩
  · exact P1.elim
theorem l_lst (h : PA X es (tAs C Wx fs)) : PE X (.List es pos) (tE C Wx fun en m => (fs en m).bind fun ws m => allocL ws m) := by
  refine PE_imp (pe_lst h) fun σ H Q ⟨ρ, en, m, E, R, P⟩ => ?_
  refine ⟨ρ, en, m, E, R, PR.then (rel := RWs C) P fun v H1 ρ1 w m1 x R1 q P1 => ?_⟩
  unfold allocL at P1
  split at P1
  · rename_i hl
    exact ⟨by rw [← q.length]; exact cap_le hl, fun p hp => P1.lst R1 q hp⟩
  · exact P1.elim
theorem l_idx (hP : C.P = X.prog) (hw : C.w = X.w) (hu : X.A.units + 66 < cLine) (hs : nsl b = true) (ha : PE X a (tE C Wx fa)) (hb : PE X b (tE C Wx fb)) :
    PE X (.Subscript a b pos) (tE C Wx fun en m => gc m ((fa en m).bind fun x m => (fb en m).bind fun y m => evIdx x y m)) := by
  refine PE_imp (pe_ix (so_idx hP hw hu) ha hb (plain_of hs)) fun σ H Q ⟨ρ, en, m, E, R, P⟩ => ?_
  exact ⟨ρ, en, m, E, R, (PR.gc R P).then fun v H1 ρ1 w m1 x R1 q P1 => ⟨ρ1, en, m1, E.ext (x.ext0 R), R1, PR.then (rel := RW C) P1 fun v2 H2 ρ2 w2 m2 x2 R2 q2 P2 => ⟨σ, Wx, ρ2, m2, w, w2, R2, q.mono0 (x2.ext0 R1), q2, P2⟩⟩⟩
/-! ### slices -/
def tO (C : Cf) (Wx : WX) (f : En → Store → Res (Option W)) : TO := fun σ H Q => ∃ ρ en m, REn C ρ H en σ ∧ RS C ρ H m ∧ PR C (fun _ _ a b => a = b) σ Wx ρ H ((f en m).bind fun l m => Res.of (part l) m) Q
variable {fo fo' : En → Store → Res (Option W)}
theorem l_none : PO X none (tO C Wx fun _ m => .ok none m) := by
  refine ⟨fun pins s σ H Q I ⟨ρ, en, m, E, R, P⟩ => po_none.run pins s σ H Q I ?_⟩
  exact PR.here (a := none) R rfl P
theorem l_some (h : PE X a (tE C Wx fa)) : PO X (some a) (tO C Wx fun en m => (fa en m).bind fun w m => .ok (some w) m) := by
  refine ⟨fun pins s σ H Q I ⟨ρ, en, m, E, R, P⟩ => (po_some h).run pins s σ H Q I ?_⟩
  rw [Res.bind_assoc] at P
  refine ⟨ρ, en, m, E, R, PR.then (rel := RW C) P fun v H1 ρ1 w m1 x R1 q P1 => ?_⟩
  cases w <;> first | exact P1.elim | skip
  exact ⟨_, q.int_iff, P1.here R1 rfl⟩
theorem l_slc {lo hi : Option Expr} {p2 : Pos} (ha : PE X a (tE C Wx fa)) (hl : PO X lo (tO C Wx fo)) (hh : PO X hi (tO C Wx fo')) :
    PE X (.Subscript a (.Slice lo hi none p2) pos) (tE C Wx fun en m => gc m ((fa en m).bind fun x m => (fo en m).bind fun l m => (Res.of (part l) m).bind fun l m => (fo' en m).bind fun h m => (Res.of (part h) m).bind fun h m => evSlc x l h m)) := by
  refine PE_imp (pe_slice (so_slc (C := C)) ha hl hh) fun σ H Q ⟨ρ, en, m, E, R, P⟩ => ?_
  refine ⟨ρ, en, m, E, R, (PR.gc R P).then fun v H1 ρ1 w m1 x R1 q P1 => ⟨ρ1, en, m1, E.ext (x.ext0 R), R1, ?_⟩⟩
  rw [← Res.bind_assoc] at P1
  refine PR.then (rel := fun _ _ a b => a = b) P1 fun l H2 ρ2 l2 m2 x2 R2 e2 P2 => ?_
  subst e2
  refine ⟨ρ2, en, m2, (E.ext (x.ext0 R)).ext (x2.ext0 R1), R2, ?_⟩
  rw [← Res.bind_assoc] at P2
  refine PR.then (rel := fun _ _ a b => a = b) P2 fun h H3 ρ3 h3 m3 x3 R3 e3 P3 => ?_
  subst e3
  exact ⟨σ, Wx, ρ3, m3, w, R3, (q.mono0 (x2.ext0 R1)).mono0 (x3.ext0 R2), P3⟩
/-! ### built-in calls -/
variable {g : List W → Store → Res W} {id T : String} {x : Str} {p : Pos}
theorem l_callB (hc : CallR X (.builtin id) (rL C g)) (hg : Gl X x) (hm : X.mg x = none) (hv : bootBuiltins x = some (.builtin id)) (hn : x ≠ "__name__") (hdb : (x == ("__debug__" : Str)) = false) (hs : (e :: es).all nst = true) (ha : PA X (e :: es) (tAs C Wx fs)) :
    PE X (.Call (.Name x p) (e :: es) [] pos) (tE C Wx fun en m => gc m ((fs en m).bind fun ws m => g ws m)) := by
  rw [List.all_cons, Bool.and_eq_true] at hs
  refine PE_imp (pe_callB hc hg hm hv ha hn hdb (star_of hs.1) (stars_of hs.2)) fun σ H Q ⟨ρ, en, m, E, R, P⟩ => ?_
  exact ⟨ρ, en, m, E, R, (PR.gc R P).then fun v H1 ρ1 w m1 x R1 q P1 => ⟨σ, Wx, ρ1, m1, w, R1, q, P1⟩⟩
theorem l_callT (hc : CallR X (.type T) (rL C g)) (hg : Gl X x) (hm : X.mg x = none) (hv : bootBuiltins x = some (.type T)) (hn : x ≠ "__name__") (hdb : (x == ("__debug__" : Str)) = false) (hs : (e :: es).all nst = true) (ha : PA X (e :: es) (tAs C Wx fs)) :
    PE X (.Call (.Name x p) (e :: es) [] pos) (tE C Wx fun en m => gc m ((fs en m).bind fun ws m => g ws m)) := by
  rw [List.all_cons, Bool.and_eq_true] at hs
  refine PE_imp (pe_callTy hc hg hm hv ha hn hdb (star_of hs.1) (stars_of hs.2)) fun σ H Q ⟨ρ, en, m, E, R, P⟩ => ?_
  exact ⟨ρ, en, m, E, R, (PR.gc R P).then fun v H1 ρ1 w m1 x R1 q P1 => ⟨σ, Wx, ρ1, m1, w, R1, q, P1⟩⟩
/-! ### methods of lists -/
theorem few_of {env : Env} {cpos : Pos} (hs : (e :: es).all nst = true) (hl : es.length < 20) : ((backTo cpos (starEach (e :: es) env)).all (fun x => !x.1) && (backToKw cpos (keywordEach [] env)).all (fun x => x.1.isSome)
      && decide ((e :: es).length + ([] : List Keyword).length + (if ([] : List Keyword).isEmpty then 0 else 1) < 30)) = true := by
  have h : (backTo cpos (starEach (e :: es) env)).all (fun x => !x.1) = true := by
    have := stars_of (env := env) (pos := cpos) hs
    rw [List.any_eq_false] at this
    rw [List.all_eq_true]
    intro y hy
    simpa using this y hy
  rw [h]
  simp [backToKw, keywordEach]
  omega
theorem recv_lst {K : PySem.W.Frag} {ρ : List Addr} {H : Hp} {m : Store} {w : W} {v : V} (R : RS C ρ H m) (q : RW C ρ H w v) (h : ∃ n ws, w = .ref n ∧ m[n]? = some (.lst ws)) : tyV K "list" v H := by
  obtain ⟨n, ws, rfl, e⟩ := h
  obtain ⟨a, vs, rfl, hs, qv⟩ := R.seq (K := K) q (.inl e)
  exact .inl ⟨rfl, vs, hs⟩
theorem l_meth {o : Expr} {name : Str} {apos cpos : Pos} (mt : Mt) (pa : PlainAttrs "list") (slot : Slot "list" name id) (hty : typeOf (.builtin id) = pure (.type "method_descriptor")) (hm : MtR X id (rM C (evMt mt)))
    (hr : ∀ x m, recvOk mt x m → ∃ n ws, x = .ref n ∧ m[n]? = some (.lst ws)) (ho : PE X o (tE C Wx fa)) (ha : PA X (e :: es) (tAs C Wx fs)) (hb : nca o = true) (hs : (e :: es).all nst = true) (hl : es.length < 20) (hline : (apos.endLine == cpos.line) = true) :
    PE X (.Call (.Attribute o name apos) (e :: es) [] cpos) (tE C Wx fun en m => gc m ((fa en m).bind fun x m => if recvOk mt x m then (fs en m).bind fun ws m => evMt mt x ws m else .bad)) := by
  have hs2 := hs
  rw [List.all_cons, Bool.and_eq_true] at hs2
  refine PE_imp (pe_bm pa slot hty hm ho ha (base_of hb) (few_of hs hl) hline (star_of hs2.1) (stars_of hs2.2)) fun σ H Q ⟨ρ, en, m, E, R, P⟩ => ?_
  refine ⟨ρ, en, m, E, R, (PR.gc R P).then fun v H1 ρ1 w m1 x R1 q P1 => ?_⟩
  split at P1
  · rename_i hrc
    exact ⟨recv_lst R1 q (hr _ _ hrc), ρ1, en, m1, E.ext (x.ext0 R), R1, PR.then (rel := RWs C) P1 fun v2 H2 ρ2 w2 m2 x2 R2 q2 P2 => ⟨σ, Wx, ρ2, m2, w, w2, R2, q.mono0 (x2.ext0 R1), q2, P2⟩⟩
  · exact P1.elim
theorem l_meth0 {o : Expr} {name : Str} {apos cpos : Pos} (mt : Mt) (pa : PlainAttrs "list") (slot : Slot "list" name id) (hty : typeOf (.builtin id) = pure (.type "method_descriptor")) (hm : MtR X id (rM C (evMt mt)))
    (hr : ∀ x m, recvOk mt x m → ∃ n ws, x = .ref n ∧ m[n]? = some (.lst ws)) (ho : PE X o (tE C Wx fa)) (hb : nca o = true) (hline : (apos.endLine == cpos.line) = true) :
    PE X (.Call (.Attribute o name apos) [] [] cpos) (tE C Wx fun en m => gc m ((fa en m).bind fun x m => if recvOk mt x m then (Res.ok [] m).bind fun ws m => evMt mt x ws m else .bad)) := by
  refine PE_imp (pe_bm0 pa slot hty hm ho (base_of hb) hline) fun σ H Q ⟨ρ, en, m, E, R, P⟩ => ?_
  refine ⟨ρ, en, m, E, R, (PR.gc R P).then fun v H1 ρ1 w m1 x R1 q P1 => ?_⟩
  split at P1
  · rename_i hrc
    exact ⟨recv_lst R1 q (hr _ _ hrc), σ, Wx, ρ1, m1, w, [], R1, q, RWs.nil, P1⟩
  · exact P1.elim
end
end Ev

set_option Elab.async false
set_option linter.all false
set_option maxRecDepth 100000
set_option maxHeartbeats 4000000
/-! What a loop walks. -/
namespace Ev
open PySem PySem.Spec PyProof.Rows L2
open Classical
section
variable (C : Cf)
/-- as Ext, but a list outside the store that stood at Hs may be another -/
structure ExtB (Hs : Hp) (ρ : List Addr) (H : Hp) (ρ' : List Addr) (H' : Hp) : Prop where
  pre : ρ <+: ρ'
  keep : ∀ a o, H a = some o → a ∉ ρ → (∀ ps, o ≠ .tbl ps) → ((∀ xs, Hs a ≠ some (.lst xs)) ∨ ∀ xs, o ≠ .lst xs) → H' a = some o
  new : ∀ a, a ∈ ρ' → a ∉ ρ → ∀ o, H a = some o → ∃ ps, o = .tbl ps
  stay : ∀ a o, H a = some o → (∀ ps, o ≠ .tbl ps) → a ∉ ρ → ∃ o', H' a = some o' ∧ ∀ ps, o' ≠ .tbl ps
/-- an iterator yields the items, as long as the lists behind it stand -/
def RJ (Hs : Hp) (ρ : List Addr) (H : Hp) (its : Walked) (J : It) : Prop := ∀ ρ' H' m', ExtB Hs ρ H ρ' H' → RS C ρ' H' m' → stillAt its.srcs m' → ∀ i : Nat,
  (its.items[i]? = none → J.stop i H') ∧ ∀ w, its.items[i]? = some w → J.go i H' ∧ ∀ x H'', J.yld i H' x H'' → Ext ρ' H' ρ' H'' ∧ RS C ρ' H'' m' ∧ RW C ρ' H'' w x
/-- .. whatever of the store goes -/
def RJ0 (Hs : Hp) (k0 : Nat) (ρ : List Addr) (H : Hp) (its : Walked) (J : It) : Prop := belowL ρ.length its.items ∧ ∀ k m2, k0 ≤ k → RS C (ρ.take k) H m2 → belowL k its.items → RJ C Hs (ρ.take k) H ⟨its.items, its.srcs.filter fun p => decide (p.1 < k)⟩ J
def tI (Wx : WX) (f : En → Store → Res Walked) : TI := fun σ H R => ∃ ρ en m, REn C ρ H en σ ∧ RS C ρ H m ∧ PR C (RJ C H) σ Wx ρ H (f en m) R
def SrcL (Hs : Hp) (K : PySem.W.Frag) (ρ : List Addr) (H : Hp) (ws : List W) (srcs : List Src) (a : Addr) : Prop := ∀ ρ' H' m', ExtB Hs ρ H ρ' H' → RS C ρ' H' m' → stillAt srcs m' → ∃ vs, SqL K H' a vs ∧ RWs C ρ' H' ws vs
def SrcT (Hs : Hp) (K : PySem.W.Frag) (ρ : List Addr) (H : Hp) (ws : List W) (srcs : List Src) (a : Addr) : Prop := ∀ ρ' H' m', ExtB Hs ρ H ρ' H' → RS C ρ' H' m' → stillAt srcs m' → ∃ vs, SqT K H' a vs ∧ RWs C ρ' H' ws vs
end
section
variable {C : Cf} {X : Cx} {Wx : WX} {σ : L2.St} {ρ ρ1 : List Addr} {H H1 : Hp} {m m1 : Store}
theorem PR.gcI {r : Res Walked} {R : It → Hp → Prop} (R0 : RS C ρ H m) (h : PR C (RJ C H) σ Wx ρ H (r.bind fun its m1 => gcI m its m1) R) : PR C (fun ρ1 H1 its J => Ext ρ H ρ1 H1 → RJ0 C H m.length ρ1 H1 its J) σ Wx ρ H r R := by
  cases r with
  | bad => exact h
  | exc c ws m1 => exact h
  | ok its m1 =>
    intro J ρ1 H1 x R1 q
    obtain ⟨hb, q⟩ := q x
    simp only [Res.bind] at h
    unfold Ev.gcI at h
    by_cases hc : keepOld m m1 ∧ belowL m.length its.items
    · rw [if_pos hc] at h
      obtain ⟨g1, g2, g3, g4⟩ := gc_core (l := []) R0 x R1 hc.1 (fun r hr => by cases hr) .nil fun r hr => by cases hr
      simp only [List.filterMap_nil, List.append_nil] at g1 g2 g3 g4
      have e : ρ = ρ1.take m.length := by rw [← R0.len]; exact List.prefix_iff_eq_take.mp x.pre
      refine h J ρ H1 g2 g1 ?_
      have := q m.length _ (Nat.le_refl _) (by rw [← e]; exact g1) hc.2
      rw [← e] at this
      exact this
    · rw [if_neg hc] at h
      refine h J ρ1 H1 x R1 ?_
      have e : ρ1 = ρ1.take m1.length := by rw [← R1.len, List.take_length]
      have := q m1.length m1 (by rw [← R0.len, ← R1.len]; exact x.pre.length_le) (by rw [← e]; exact R1) (by rw [← R1.len]; exact hb)
      rw [← e] at this
      exact this
theorem take_get {k n : Nat} {a : Addr} (h : n < k) (e : ρ[n]? = some a) : (ρ.take k)[n]? = some a := by
  rw [List.getElem?_take_of_lt h]; exact e
theorem take_out {k n : Nat} {a : Addr} (nd : ρ.Nodup) (h : k ≤ n) (e : ρ[n]? = some a) : a ∉ ρ.take k := by
  intro hm
  obtain ⟨i, hi, e2⟩ := List.mem_iff_getElem.mp hm
  rw [List.length_take] at hi
  rw [List.getElem_take] at e2
  have hi2 : i < ρ.length := by omega
  obtain ⟨hn, e⟩ := List.getElem?_eq_some_iff.mp e
  have := (List.getElem_inj (h₀ := hi2) (h₁ := hn) nd).mp (e2.trans e.symm)
  omega
theorem RWs.taken {k : Nat} {ws : List W} {vs : List V} (hb : belowL k ws) (q : RWs C ρ H ws vs) : RWs C (ρ.take k) H ws vs :=
  q.same (fun a ha hm => ha (List.mem_of_mem_take hm)) fun r hr a e => take_get (hb r hr) e
theorem ExtB.ext0 {Hs : Hp} {ρ' : List Addr} {H' : Hp} (R : RS C ρ H m) (x : ExtB Hs ρ H ρ' H') : Ext0 ρ H ρ' H' :=
  ⟨fun n a h => pre_get x.pre h, fun a vs h => x.keep a _ h (R.notTup h) (fun _ z => by cases z) (.inr fun _ z => by cases z), fun a o h hn nt => ⟨x.keep a o h hn nt.nt (.inr fun xs z => by
    subst z
    rcases nt with ⟨_, _, _, q⟩ | ⟨_, _, q⟩ | ⟨_, q⟩
    · cases q
    · unfold ExcO at q; cases q
    · cases q), fun hc => by
      obtain ⟨ps, e⟩ := x.new a hc hn o h
      exact nt.nt ps e⟩⟩
theorem Ext.b {Hs : Hp} {ρ' : List Addr} {H' : Hp} (x : Ext ρ H ρ' H') : ExtB Hs ρ H ρ' H' := ⟨x.pre, fun a o h hn nt _ => x.keep a o h hn nt, x.new, fun a o h nt hn => ⟨o, x.keep a o h hn nt, nt⟩⟩
theorem src_lst {K : PySem.W.Frag} {n k : Nat} {ws : List W} {v : V} {m2 : Store} {Hs : Hp} {ρs : List Addr} (xs : Ext ρs Hs ρ H) (hks : ρs.length ≤ k) (R : RS C ρ H m) (q : RW C ρ H (.ref n) v) (e : iterOf m (.ref n) = some ws) (R2 : RS C (ρ.take k) H m2) (hb : belowL k ws) :
    ∃ a, v = .ref a ∧ SrcL C Hs K (ρ.take k) H ws ((srcOf m (.ref n)).filter fun p => decide (p.1 < k)) a := by
  obtain ⟨a, ea, rfl⟩ := q.ref_iff
  refine ⟨a, rfl, fun ρ' H' m' x R' st => ?_⟩
  rcases iterOf_some e with e0 | ⟨n', e0, e2⟩
  · cases e0
  · cases e0
    by_cases hn : n < k
    · have em : m'[n]? = m[n]? := st (n, m[n]?) (by simp [srcOf, hn])
      have ea' := pre_get x.pre (take_get hn ea)
      have q' : RW C ρ' H' (.ref n) (.ref a) := by rw [RW]; exact ⟨a, ea', rfl⟩
      obtain ⟨a2, vs, e3, hs, qv⟩ := R'.seq (K := K) q' (by rw [em]; exact e2)
      cases e3
      exact ⟨vs, hs, qv⟩
    · have ho := take_out R.nd (Nat.not_lt.mp hn) ea
      have hs0 : ∀ xs, Hs a ≠ some (.lst xs) := fun us z => by
       have := xs.new a (List.mem_of_getElem? ea) (by
        have := take_out (k := ρs.length) R.nd (Nat.le_trans hks (Nat.not_lt.mp hn)) ea
        rw [← List.prefix_iff_eq_take.mp xs.pre] at this
        exact this) _ z
       obtain ⟨_, this⟩ := this
       cases this
      rcases e2 with e2 | e2
      · obtain ⟨vs, h1, h2⟩ := R.obj n _ a e2 ea
        exact ⟨vs, SqL.of (x.keep a _ h1 ho (fun _ z => by cases z) (.inl hs0)), (h2.taken hb).mono0 (x.ext0 R2)⟩
      · obtain ⟨o, vs, h1, h2⟩ := R.obj n _ a e2 ea
        exact ⟨vs, .inl (.inr ⟨o, x.keep a _ h1 ho (fun _ z => by cases z) (.inl hs0)⟩), (h2.taken hb).mono0 (x.ext0 R2)⟩
theorem src_tup {Hs : Hp} {K : PySem.W.Frag} {k : Nat} {ws : List W} {v : V} {m2 : Store} {srcs : List Src} (q : RW C ρ H (.tup ws) v) (R2 : RS C (ρ.take k) H m2) (hb : belowL k ws) :
    ∃ a, v = .ref a ∧ SrcT C Hs K (ρ.take k) H ws srcs a := by
  obtain ⟨a, vs, rfl, ea, qv⟩ := q.tup_iff
  exact ⟨a, rfl, fun ρ' H' m' x R' st => ⟨vs, SqT.of ((x.ext0 R2).tup a vs ea), (qv.taken hb).mono0 (x.ext0 R2)⟩⟩
theorem RWs.at {ws : List W} {vs : List V} {i : Nat} {w : W} {x : V} (q : RWs C ρ H ws vs) (e : ws[i]? = some w) (e2 : vs[i]? = some x) : RW C ρ H w x := by
  obtain ⟨v, e3, r⟩ := q.get e
  rw [e2] at e3; cases e3; exact r
theorem rj_list {Hs : Hp} {K : PySem.W.Frag} {ws : List W} {srcs : List Src} {a : Addr} (h : SrcL C Hs K ρ H ws srcs a) : RJ C Hs ρ H ⟨ws, srcs⟩ (Itl K a) := by
  intro ρ' H' m' x R' st i
  obtain ⟨vs, hs, q⟩ := h ρ' H' m' x R' st
  refine ⟨fun e => ⟨vs, hs, ?_⟩, fun w e => ?_⟩
  · rw [← q.length]; exact List.getElem?_eq_none_iff.mp e
  · obtain ⟨v, e2, r⟩ := q.get e
    refine ⟨⟨vs, v, hs, e2⟩, fun y H'' ⟨eh, ey⟩ => ?_⟩
    subst eh
    exact ⟨.refl _ _, R', q.at e (ey vs hs)⟩
theorem rj_tup {Hs : Hp} {K : PySem.W.Frag} {ws : List W} {srcs : List Src} {a : Addr} (h : SrcT C Hs K ρ H ws srcs a) : RJ C Hs ρ H ⟨ws, srcs⟩ (Itt K a) := by
  intro ρ' H' m' x R' st i
  obtain ⟨vs, hs, q⟩ := h ρ' H' m' x R' st
  refine ⟨fun e => ⟨vs, hs, ?_⟩, fun w e => ?_⟩
  · rw [← q.length]; exact List.getElem?_eq_none_iff.mp e
  · obtain ⟨v, e2, r⟩ := q.get e
    refine ⟨⟨vs, v, hs, e2⟩, fun y H'' ⟨eh, ey⟩ => ?_⟩
    subst eh
    exact ⟨.refl _ _, R', q.at e (ey vs hs)⟩
theorem new_pair {m' : Store} {ρ' : List Addr} {H' : Hp} {T : Addr} {w u : W} {x y : V} (R' : RS C ρ' H' m') (hT : H' T = none) (r : RW C ρ' H' w x) (r2 : RW C ρ' H' u y) :
    Ext ρ' H' ρ' (upd H' T (.tup [x, y])) ∧ RS C ρ' (upd H' T (.tup [x, y])) m' ∧ RW C ρ' (upd H' T (.tup [x, y])) (.tup [w, u]) (.ref T) := by
  have s := Sm.upd (o := .tup [x, y]) hT
  refine ⟨.of_sm s, R'.sm s, ?_⟩
  rw [RW]
  exact ⟨T, _, rfl, upd_same, (RWs.cons r (RWs.cons r2 RWs.nil)).mono0 s.ext0⟩
theorem rj_enum {Hs : Hp} {K : PySem.W.Frag} {ws : List W} {srcs : List Src} {a : Addr} (h : SrcL C Hs K ρ H ws srcs a) : RJ C Hs ρ H ⟨ws.mapIdx fun i w => .tup [.int (i : Nat), w], srcs⟩ (Ite K a) := by
  intro ρ' H' m' x R' st i
  obtain ⟨vs, hs, q⟩ := h ρ' H' m' x R' st
  simp only [List.getElem?_mapIdx]
  refine ⟨fun e => ⟨vs, hs, ?_⟩, fun w e => ?_⟩
  · rw [← q.length]; exact List.getElem?_eq_none_iff.mp (by simpa using e)
  · obtain ⟨w0, e0, rfl⟩ := Option.map_eq_some_iff.mp e
    obtain ⟨v, e2, r⟩ := q.get e0
    refine ⟨⟨vs, v, hs, e2⟩, fun y H'' ⟨T, z, ey, hT, eh, ez⟩ => ?_⟩
    subst eh ey
    exact new_pair R' hT RW.int (q.at e0 (ez vs hs))
theorem zip_get {α β : Type} {xs : List α} {ys : List β} {i : Nat} : (xs.zip ys)[i]? = none → xs.length ≤ i ∨ ys.length ≤ i := by
  intro h
  have := List.getElem?_eq_none_iff.mp h
  rw [List.length_zip] at this
  omega
theorem rj_zipL {Hs : Hp} {K : PySem.W.Frag} {ws us : List W} {srcs srcs2 : List Src} {a b : Addr} (h : SrcL C Hs K ρ H ws srcs a) (h2 : SrcL C Hs K ρ H us srcs2 b) : RJ C Hs ρ H ⟨(ws.zip us).map fun q => .tup [q.1, q.2], srcs ++ srcs2⟩ (Itz K a b) := by
  intro ρ' H' m' x R' st i
  obtain ⟨vs, hs, q⟩ := h ρ' H' m' x R' fun p hp => st p (List.mem_append_left _ hp)
  obtain ⟨vs2, hs2, q2⟩ := h2 ρ' H' m' x R' fun p hp => st p (List.mem_append_right _ hp)
  simp only [List.getElem?_map]
  refine ⟨fun e => ⟨vs, vs2, hs, hs2, ?_⟩, fun w e => ?_⟩
  · rw [← q.length, ← q2.length]
    exact zip_get (by simpa using e)
  · obtain ⟨⟨w0, u0⟩, e0, rfl⟩ := Option.map_eq_some_iff.mp e
    obtain ⟨e1, e2⟩ := List.getElem?_zip_eq_some.mp e0
    obtain ⟨v, e3, r⟩ := q.get e1
    obtain ⟨v2, e4, r2⟩ := q2.get e2
    refine ⟨⟨vs, vs2, v, v2, hs, hs2, e3, e4⟩, fun y H'' ⟨T, z, z2, ey, hT, eh, ez, ez2⟩ => ?_⟩
    subst eh ey
    exact new_pair R' hT (q.at e1 (ez vs hs)) (q2.at e2 (ez2 vs2 hs2))
theorem rj_zipT {Hs : Hp} {K : PySem.W.Frag} {ws us : List W} {srcs srcs2 : List Src} {a b : Addr} (h : SrcT C Hs K ρ H ws srcs a) (h2 : SrcT C Hs K ρ H us srcs2 b) : RJ C Hs ρ H ⟨(ws.zip us).map fun q => .tup [q.1, q.2], srcs ++ srcs2⟩ (RZ.ItzT K a b) := by
  intro ρ' H' m' x R' st i
  obtain ⟨vs, hs, q⟩ := h ρ' H' m' x R' fun p hp => st p (List.mem_append_left _ hp)
  obtain ⟨vs2, hs2, q2⟩ := h2 ρ' H' m' x R' fun p hp => st p (List.mem_append_right _ hp)
  simp only [List.getElem?_map]
  refine ⟨fun e => ⟨vs, vs2, hs, hs2, ?_⟩, fun w e => ?_⟩
  · rw [← q.length, ← q2.length]
    exact zip_get (by simpa using e)
  · obtain ⟨⟨w0, u0⟩, e0, rfl⟩ := Option.map_eq_some_iff.mp e
    obtain ⟨e1, e2⟩ := List.getElem?_zip_eq_some.mp e0
    obtain ⟨v, e3, r⟩ := q.get e1
    obtain ⟨v2, e4, r2⟩ := q2.get e2
    refine ⟨⟨vs, vs2, v, v2, hs, hs2, e3, e4⟩, fun y H'' ⟨T, z, z2, ey, hT, eh, ez, ez2⟩ => ?_⟩
    subst eh ey
    exact new_pair R' hT (q.at e1 (ez vs hs)) (q2.at e2 (ez2 vs2 hs2))
theorem rangeW_get {i j : Int} {k : Nat} : (rangeW i j)[k]? = if k < (j - i).toNat then some (.int (i + k)) else none := by
  unfold rangeW
  rw [List.getElem?_map]
  by_cases h : k < (j - i).toNat
  · rw [if_pos h, List.getElem?_range h]; rfl
  · rw [if_neg h, List.getElem?_eq_none (by simpa using Nat.not_lt.mp h)]; rfl
theorem rj_rng {Hs : Hp} {i j : Int} {n : Nat} (hn : n = (j - i).toNat) : RJ C Hs ρ H ⟨rangeW i j, []⟩ (Itr i n) := by
  intro ρ' H' m' x R' st k
  subst hn
  rw [rangeW_get]
  by_cases h : k < (j - i).toNat
  · rw [if_pos h]
    refine ⟨(fun e => nomatch e), fun w e => ?_⟩
    cases e
    refine ⟨h, fun y H'' ⟨eh, ey⟩ => ?_⟩
    subst eh ey
    exact ⟨.refl _ _, R', RW.int⟩
  · rw [if_neg h]
    exact ⟨fun _ => Nat.not_lt.mp h, fun w e => by cases e⟩
/-! ### refs of what is walked -/
theorem below_pairs {k : Nat} {ws : List W} (h : belowL k (ws.mapIdx fun i w => W.tup [.int (i : Nat), w])) : belowL k ws := by
  intro r hr
  obtain ⟨w, hw, hr⟩ := W.refsL_mem.mp hr
  obtain ⟨i, hi, e⟩ := List.mem_iff_getElem.mp hw
  refine h r (W.refsL_mem.mpr ⟨.tup [.int (i : Nat), w], ?_, ?_⟩)
  · refine List.mem_iff_getElem.mpr ⟨i, by simpa using hi, ?_⟩
    rw [List.getElem_mapIdx, e]
  · simp [W.refs, W.refsL, hr]
theorem below_idx {k : Nat} {ws : List W} (h : belowL k ws) : belowL k (ws.mapIdx fun i w => W.tup [.int (i : Nat), w]) := by
  intro r hr
  obtain ⟨w, hw, hr⟩ := W.refsL_mem.mp hr
  obtain ⟨i, hi, e⟩ := List.mem_iff_getElem.mp hw
  rw [List.getElem_mapIdx] at e
  subst e
  refine h r (W.refsL_mem.mpr ⟨_, List.getElem_mem (by simpa using hi), ?_⟩)
  simpa [W.refs, W.refsL] using hr
theorem below_take_zip {k : Nat} {ws us : List W} (h : belowL k ws) (h2 : belowL k us) : belowL k ((ws.zip us).map fun q => W.tup [q.1, q.2]) := by
  intro r hr
  obtain ⟨w, hw, hr⟩ := W.refsL_mem.mp hr
  obtain ⟨⟨a, b⟩, hq, rfl⟩ := List.mem_map.mp hw
  obtain ⟨ha, hb⟩ := List.of_mem_zip hq
  simp [W.refs, W.refsL] at hr
  rcases hr with hr | hr
  · exact h r (W.refsL_mem.mpr ⟨a, ha, hr⟩)
  · exact h2 r (W.refsL_mem.mpr ⟨b, hb, hr⟩)
end
end Ev

set_option Elab.async false
set_option linter.all false
set_option maxRecDepth 100000
set_option maxHeartbeats 4000000
namespace Ev
open PySem PySem.Spec PyProof.Rows L2
open Classical
section
variable {C : Cf} {X : Cx} {Wx : WX} {a b e : Expr} {tg : Expr} {fa fb : En → Store → Res W} {fs : En → Store → Res (List W)} {pos p tpos : Pos} {elts : List Expr} {kk : Nat}
theorem PR_of {α β δ : Type} {σ : L2.St} {ρ : List Addr} {H : Hp} {m : Store} {o : Option α} {rel : List Addr → Hp → β → δ → Prop} {k : α → Store → Res β} {Q : δ → Hp → Prop} (P : PR C rel σ Wx ρ H ((Res.of o m).bind k) Q) : ∃ t, o = some t ∧ PR C rel σ Wx ρ H (k t m) Q := by
  cases o with
  | none => exact P.elim
  | some t => exact ⟨t, rfl, P⟩
theorem i_of (ha : PE X a (tE C Wx fa)) : PI X tg a (tI C Wx fun en m => ((fa en m).bind fun x m1 => (Res.of (iterOf m1 x) m1).bind fun ws m1 => .ok (Walked.mk ws (srcOf m1 x)) m1).bind fun its m1 => gcI m its m1) := by
  refine ⟨fun pins s σ H R I ⟨ρ, en, m, E, R0, P⟩ => ?_⟩
  have P1 := PR.gcI R0 P
  by_cases ht : ∃ ws m1, fa en m = .ok (.tup ws) m1
  · refine (pi_tup ha).run pins s σ H R I ⟨ρ, en, m, E, R0, (PR.bind (rel := RW C) P1).imp fun v H1 ⟨ρ1, x, m1, xt, R1, q, ex, P2⟩ => ?_⟩
    obtain ⟨ws, m1', e2⟩ := ht
    rw [ex] at e2
    cases e2
    obtain ⟨a, vs, rfl, ea, qv⟩ := q.tup_iff
    refine ⟨a, rfl, ⟨vs, SqT.of ea⟩, PR.here (rel := fun ρ1 H1 its J => Ext ρ H ρ1 H1 → RJ0 C H m.length ρ1 H1 its J) R1 (a := Walked.mk ws []) (fun xb => ⟨fun r hr => q.lt r (by simpa [W.refs] using hr), fun k m2 hk R2 hb => ?_⟩) P2⟩
    obtain ⟨a', e3, hs⟩ := src_tup (K := X.K) (srcs := []) q R2 hb
    cases e3
    exact rj_tup hs
  · refine (pi_list ha).run pins s σ H R I ⟨ρ, en, m, E, R0, (PR.bind (rel := RW C) P1).imp fun v H1 ⟨ρ1, x, m1, xt, R1, q, ex, P2⟩ => ?_⟩
    obtain ⟨ws, e1, P3⟩ := PR_of P2
    rcases iterOf_some e1 with rfl | ⟨n, rfl, e2⟩
    · exact absurd ⟨ws, m1, ex⟩ ht
    · obtain ⟨a, vs, rfl, hs, qv⟩ := R1.seq (K := X.K) q e2
      refine ⟨a, rfl, ⟨vs, hs⟩, PR.here (rel := fun ρ1 H1 its J => Ext ρ H ρ1 H1 → RJ0 C H m.length ρ1 H1 its J) R1 (a := Walked.mk ws (srcOf m1 (.ref n))) (fun xb => ⟨fun r hr => qv.lt r hr, fun k m2 hk R2 hb => ?_⟩) P3⟩
      obtain ⟨a', e3, hs'⟩ := src_lst (K := X.K) xb (by rw [R0.len]; exact hk) R1 q e1 R2 hb
      cases e3
      exact rj_list hs'
theorem lstOf_some {m : Store} {x : W} {ws : List W} (h : lstOf m x = some ws) : ∃ n, x = .ref n ∧ iterOf m (.ref n) = some ws := by
  cases x <;> simp only [lstOf, reduceCtorEq] at h
  exact ⟨_, rfl, h⟩
theorem iterOf_ref {m : Store} {n : Nat} {ws : List W} (h : iterOf m (.ref n) = some ws) : m[n]? = some (.lst ws) ∨ m[n]? = some (.lock ws) := by
  rcases iterOf_some h with e | ⟨n', e, h⟩
  · cases e
  · cases e; exact h
theorem i_enum (hg : Gl X "enumerate") (hm : X.mg "enumerate" = none) (hs : nst a = true) (ha : PE X a (tE C Wx fa)) : PI X (.Tuple elts kk tpos) (.Call (.Name "enumerate" p) [a] [] pos)
    (tI C Wx fun en m => ((fa en m).bind fun x m1 => (Res.of (lstOf m1 x) m1).bind fun ws m1 => .ok (Walked.mk (ws.mapIdx fun i w => .tup [.int (i : Nat), w]) (srcOf m1 x)) m1).bind fun its m1 => gcI m its m1) := by
  refine ⟨fun pins s σ H R I ⟨ρ, en, m, E, R0, P⟩ => ?_⟩
  have P1 := PR.gcI R0 P
  refine (pi_enum hg hm (pa_cons ha pa_nil (star_of hs)) (star_of hs)).run pins s σ H R I ⟨ρ, en, m, E, R0, (PR.bind (rel := RW C) P1).imp fun v H1 ⟨ρ1, x, m1, xt, R1, q, ex, P2⟩ => ?_⟩
  obtain ⟨ws, e1, P3⟩ := PR_of P2
  obtain ⟨n, rfl, e1⟩ := lstOf_some e1
  obtain ⟨a, vs, rfl, hs, qv⟩ := R1.seq (K := X.K) q (iterOf_ref e1)
  refine ⟨a, vs, rfl, hs, PR.here (rel := fun ρ1 H1 its J => Ext ρ H ρ1 H1 → RJ0 C H m.length ρ1 H1 its J) R1 (a := Walked.mk (ws.mapIdx fun i w => .tup [.int (i : Nat), w]) (srcOf m1 (.ref n))) (fun xb => ⟨below_idx fun r hr => qv.lt r hr, fun k m2 hk R2 hb => ?_⟩) P3⟩
  obtain ⟨a', e3, hs'⟩ := src_lst (K := X.K) xb (by rw [R0.len]; exact hk) R1 q e1 R2 (below_pairs hb)
  cases e3
  exact rj_enum hs'
theorem i_zip (hg : Gl X "zip") (hm : X.mg "zip" = none) (hsa : nst a = true) (hsb : nst b = true) (ha : PE X a (tE C Wx fa)) (hb : PE X b (tE C Wx fb)) : PI X (.Tuple elts kk tpos) (.Call (.Name "zip" p) [a, b] [] pos)
    (tI C Wx fun en m => ((fa en m).bind fun x m1 => (fb en m1).bind fun y m1 => (Res.of (twoSeq m1 x y) m1).bind fun p m1 =>
      if belowL m.length p.1 ∧ belowL m.length p.2 then .ok (Walked.mk ((p.1.zip p.2).map fun q => .tup [q.1, q.2]) (srcOf m1 x ++ srcOf m1 y)) m1 else .bad).bind fun its m1 => gcI m its m1) := by
  refine ⟨fun pins s σ H R I ⟨ρ, en, m, E, R0, P⟩ => ?_⟩
  have P1 := PR.gcI R0 P
  refine (RZ.pi_zipA hg hm (pa_cons ha (pa_cons hb pa_nil (star_of hsb)) (star_of hsa)) (star_of hsa) (stars_of (by simp [hsb]))).run pins s σ H R I ⟨ρ, en, m, E, R0, (PR.bind (rel := RW C) P1).imp fun v H1 ⟨ρ1, x, m1, xt, R1, q, ex, P2⟩ => ?_⟩
  refine ⟨ρ1, en, m1, E.ext (xt.ext0 R0), R1, (PR.bind (rel := RW C) P2).imp fun v2 H2 ⟨ρ2, y, m2, xt2, R2, q2, ex2, P3⟩ => ?_⟩
  obtain ⟨⟨ws, us⟩, e1, P4⟩ := PR_of P3
  split at P4
  · rename_i hbl
    have q' := q.mono0 (xt2.ext0 R1)
    cases x <;> cases y <;> simp only [twoSeq, reduceCtorEq, Option.some.injEq, Prod.mk.injEq] at e1
    · obtain ⟨rfl, rfl⟩ := e1
      obtain ⟨a, vs, rfl, ea, qv⟩ := q'.tup_iff
      obtain ⟨b, vs2, rfl, eb, qv2⟩ := q2.tup_iff
      refine ⟨a, b, vs, vs2, rfl, .inr ⟨SqT.of ea, SqT.of eb, PR.here (rel := fun ρ1 H1 its J => Ext ρ H ρ1 H1 → RJ0 C H m.length ρ1 H1 its J) R2 (a := Walked.mk _ _) (fun xb => ⟨below_take_zip (fun r hr => qv.lt r hr) (fun r hr => qv2.lt r hr), fun k m3 hk R3 hb3 => ?_⟩) P4⟩⟩
      obtain ⟨a', e3, hs'⟩ := src_tup (K := X.K) (srcs := []) q' R3 fun r hr => Nat.lt_of_lt_of_le (hbl.1 r hr) hk
      obtain ⟨b', e4, hs2'⟩ := src_tup (K := X.K) (srcs := []) q2 R3 fun r hr => Nat.lt_of_lt_of_le (hbl.2 r hr) hk
      cases e3; cases e4
      exact rj_zipT hs' hs2'
    · obtain ⟨ws', e1, e2⟩ := Option.bind_eq_some_iff.mp e1
      obtain ⟨us', e2, e3⟩ := Option.map_eq_some_iff.mp e2
      cases e3
      obtain ⟨a, vs, rfl, ea, qv⟩ := R2.seq (K := X.K) q' (iterOf_ref e1)
      obtain ⟨b, vs2, rfl, eb, qv2⟩ := R2.seq (K := X.K) q2 (iterOf_ref e2)
      refine ⟨a, b, vs, vs2, rfl, .inl ⟨ea, eb, PR.here (rel := fun ρ1 H1 its J => Ext ρ H ρ1 H1 → RJ0 C H m.length ρ1 H1 its J) R2 (a := Walked.mk _ _) (fun xb => ⟨below_take_zip (fun r hr => qv.lt r hr) (fun r hr => qv2.lt r hr), fun k m3 hk R3 hb3 => ?_⟩) P4⟩⟩
      obtain ⟨a', e3, hs'⟩ := src_lst (K := X.K) xb (by rw [R0.len]; exact hk) R2 q' e1 R3 fun r hr => Nat.lt_of_lt_of_le (hbl.1 r hr) hk
      obtain ⟨b', e4, hs2'⟩ := src_lst (K := X.K) xb (by rw [R0.len]; exact hk) R2 q2 e2 R3 fun r hr => Nat.lt_of_lt_of_le (hbl.2 r hr) hk
      cases e3; cases e4
      rw [List.filter_append]
      exact rj_zipL hs' hs2'
  · exact P4.elim
theorem ends_some {ws : List W} {q : Int × Int} (h : ends ws = some q) : (ws = [.int q.2] ∧ q.1 = 0) ∨ ws = [.int q.1, .int q.2] := by
  unfold ends at h
  split at h
  · cases h; exact .inl ⟨rfl, rfl⟩
  · cases h; exact .inr rfl
  · cases h
theorem below_rng {k : Nat} {i j : Int} : belowL k (rangeW i j) := by
  intro r hr
  obtain ⟨w, hw, hr⟩ := W.refsL_mem.mp hr
  obtain ⟨_, _, rfl⟩ := List.mem_map.mp hw
  simp [W.refs] at hr
theorem i_rng1 (hg : Gl X "range") (hm : X.mg "range" = none) (hs : nst a = true) (ha : PE X a (tE C Wx fa)) : PI X tg (.Call (.Name "range" p) [a] [] pos)
    (tI C Wx fun en m => (((fa en m).bind fun w m => (Res.ok [] m).bind fun ws m => .ok (w :: ws) m).bind fun ws m1 => (Res.of (ends ws) m1).bind fun p m1 => if -(2 ^ 62) ≤ p.1 ∧ p.1 < 2 ^ 62 ∧ -(2 ^ 62) ≤ p.2 ∧ p.2 < 2 ^ 62 then .ok (Walked.mk (rangeW p.1 p.2) []) m1 else .bad).bind fun its m1 => gcI m its m1) := by
  refine ⟨fun pins s σ H R I ⟨ρ, en, m, E, R0, P⟩ => ?_⟩
  have P1 := PR.gcI R0 P
  rw [Res.bind_assoc] at P1
  refine (pi_range1 hg hm (pa_cons ha pa_nil (star_of hs)) (star_of hs)).run pins s σ H R I ⟨ρ, en, m, E, R0, (PR.bind (rel := RW C) P1).imp fun v H1 ⟨ρ1, w, m1, xt, R1, q, ex, P2⟩ => ?_⟩
  obtain ⟨⟨i, j⟩, e1, P3⟩ := PR_of (show PR C (fun ρ1 H1 its J => Ext ρ H ρ1 H1 → RJ0 C H m.length ρ1 H1 its J) σ Wx ρ1 H1 ((Res.of (ends [w]) m1).bind fun p m1 => if -(2 ^ 62) ≤ p.1 ∧ p.1 < 2 ^ 62 ∧ -(2 ^ 62) ≤ p.2 ∧ p.2 < 2 ^ 62 then .ok (Walked.mk (rangeW p.1 p.2) []) m1 else .bad) R from P2)
  split at P3
  · rename_i hb
    obtain ⟨b1, b2, b3, b4⟩ := hb
    rcases ends_some e1 with ⟨e2, e3⟩ | e2
    · cases e2
      simp only at e3
      subst e3
      rw [q.int_iff]
      refine ⟨_, rfl, b3, b4, PR.here (rel := fun ρ1 H1 its J => Ext ρ H ρ1 H1 → RJ0 C H m.length ρ1 H1 its J) R1 (a := Walked.mk (rangeW 0 _) []) (fun xb => ⟨below_rng, fun k m2 hk R2 hb => ?_⟩) P3⟩
      exact rj_rng (by simp)
    · cases e2
  · exact P3.elim
theorem i_rng2 (hg : Gl X "range") (hm : X.mg "range" = none) (hs : nst a = true) (hs2 : nst b = true) (ha : PE X a (tE C Wx fa)) (hb : PE X b (tE C Wx fb)) : PI X tg (.Call (.Name "range" p) [a, b] [] pos)
    (tI C Wx fun en m => (((fa en m).bind fun w m => ((fb en m).bind fun w m => (Res.ok [] m).bind fun ws m => .ok (w :: ws) m).bind fun ws m => .ok (w :: ws) m).bind fun ws m1 => (Res.of (ends ws) m1).bind fun p m1 => if -(2 ^ 62) ≤ p.1 ∧ p.1 < 2 ^ 62 ∧ -(2 ^ 62) ≤ p.2 ∧ p.2 < 2 ^ 62 then .ok (Walked.mk (rangeW p.1 p.2) []) m1 else .bad).bind fun its m1 => gcI m its m1) := by
  refine ⟨fun pins s σ H R I ⟨ρ, en, m, E, R0, P⟩ => ?_⟩
  have P1 := PR.gcI R0 P
  rw [Res.bind_assoc] at P1
  refine (pi_range2 hg hm (pa_cons ha (pa_cons hb pa_nil (star_of hs2)) (star_of hs)) (by rw [star_of hs, star_of hs2]; rfl) (star_of hs2)).run pins s σ H R I ⟨ρ, en, m, E, R0, (PR.bind (rel := RW C) P1).imp fun v H1 ⟨ρ1, w, m1, xt, R1, q, ex, P2⟩ => ?_⟩
  rw [Res.bind_assoc, Res.bind_assoc] at P2
  refine ⟨ρ1, en, m1, E.ext (xt.ext0 R0), R1, (PR.bind (rel := RW C) P2).imp fun v2 H2 ⟨ρ2, w2, m2, xt2, R2, q2, ex2, P4⟩ => ?_⟩
  obtain ⟨⟨i, j⟩, e1, P3⟩ := PR_of (show PR C (fun ρ1 H1 its J => Ext ρ H ρ1 H1 → RJ0 C H m.length ρ1 H1 its J) σ Wx ρ2 H2 ((Res.of (ends [w, w2]) m2).bind fun p m1 => if -(2 ^ 62) ≤ p.1 ∧ p.1 < 2 ^ 62 ∧ -(2 ^ 62) ≤ p.2 ∧ p.2 < 2 ^ 62 then .ok (Walked.mk (rangeW p.1 p.2) []) m1 else .bad) R from P4)
  split at P3
  · rename_i hb
    obtain ⟨b1, b2, b3, b4⟩ := hb
    rcases ends_some e1 with ⟨e2, e3⟩ | e2
    · cases e2
    · cases e2
      rw [q.int_iff, q2.int_iff]
      refine ⟨i, j, rfl, ⟨b1, b2, b3, b4⟩, PR.here (rel := fun ρ1 H1 its J => Ext ρ H ρ1 H1 → RJ0 C H m.length ρ1 H1 its J) R2 (a := Walked.mk (rangeW i j) []) (fun xb => ⟨below_rng, fun k m2 hk R2 hb => ?_⟩) P3⟩
      exact rj_rng rfl
  · exact P3.elim
end
end Ev

set_option Elab.async false
set_option linter.all false
set_option maxRecDepth 100000
set_option maxHeartbeats 4000000
/-! Targets, statements. -/
namespace Ev
open PySem PySem.Spec PyProof.Rows L2
open Classical
section
variable {C : Cf} {X : Cx} {Wx : WX} {E0 : XK} {σ σ' : L2.St} {ρ ρ1 : List Addr} {H H1 : Hp} {m m1 : Store} {pos : Pos}
theorem REn.put {en : En} {i : Nat} {w : W} {v : V} (h : REn C ρ H en σ) (r : RW C ρ H w v) : REn C ρ H (en.set i (some w)) (σ.set i (some v)) := by
  refine ⟨by simp [h.1], fun j u e => ?_⟩
  by_cases hj : i = j
  · subst hj
    have hl : i < en.length := by
      have := (List.getElem?_eq_some_iff.mp e).1
      simpa using this
    rw [List.getElem?_set_self hl] at e
    cases e
    exact ⟨v, List.getElem?_set_self (by rw [← h.1]; exact hl), r⟩
  · rw [List.getElem?_set_ne hj] at e
    obtain ⟨x, e2, r2⟩ := h.2 j u e
    exact ⟨x, by rw [List.getElem?_set_ne hj]; exact e2, r2⟩
def tTg (C : Cf) (t : Tg) : TG := fun v σ H Q => ∃ ρ en m w en', REn C ρ H en σ ∧ RS C ρ H m ∧ RW C ρ H w v ∧ bindT t w en = some en' ∧
  ∀ σ', REn C ρ H en' σ' → σ'.length = σ.length → (∀ i, i ∉ t.vars → σ'[i]? = σ[i]?) → Q σ' H
def tTgs (C : Cf) (ts : List Tg) : TGs := fun vs σ H Q => ∃ ρ en m ws en', REn C ρ H en σ ∧ RS C ρ H m ∧ RWs C ρ H ws vs ∧ bindTs ts ws en = some en' ∧
  ∀ σ', REn C ρ H en' σ' → σ'.length = σ.length → (∀ i, i ∉ varsL ts → σ'[i]? = σ[i]?) → Q σ' H
theorem PG_imp {e : Expr} {t t' : TG} (h : PG X e t) (i : ∀ v σ H Q, t' v σ H Q → t v σ H Q) : PG X e t' := ⟨fun pins s σ H v u Q I r q => h.run pins s σ H v u Q I r (i v σ H Q q)⟩
theorem PGs_imp {e : List Expr} {t t' : TGs} (h : PGs X e t) (i : ∀ v σ H Q, t' v σ H Q → t v σ H Q) : PGs X e t' := ⟨fun pins s σ H v u Q I r q => h.run pins s σ H v u Q I r (i v σ H Q q)⟩
theorem g_name {i : Nat} {x : Str} (hN : X.N.Nodup) (hi : X.N[i]? = some x) (hx : Loc X.env.scope x) (hf : X.fn x = true ∨ X.env.scope.names.lookup x = some .local) : PG X (.Name x pos) (tTg C (.v i)) := by
  refine PG_imp (pg_name hN hi hx hf) fun v σ H Q ⟨ρ, en, m, w, en', E, R, r, e, h⟩ => ?_
  rw [bindT] at e
  split at e
  · cases e
    exact h _ (E.put r) (by simp) fun j hj => List.getElem?_set_ne fun z => hj (by simp [Tg.vars, z])
  · cases e
theorem g_nil : PGs X [] (tTgs C []) := by
  refine PGs_imp pgs_nil fun vs σ H Q ⟨ρ, en, m, ws, en', E, R, r, e, h⟩ => ?_
  cases ws with
  | nil =>
    rw [bindTs] at e
    cases e
    exact ⟨r.nil_iff, h σ E rfl fun _ _ => rfl⟩
  | cons w ws => rw [bindTs] at e <;> cases e
theorem asg_star {e : Expr} {es : List Expr} {env : Env} (h : nst e = true) : assignEach (e :: es) env = (false, assign e env) :: assignEach es env := by
  cases e <;> first | rfl | cases h
theorem g_cons {e : Expr} {es : List Expr} {t : Tg} {ts : List Tg} (hs : nst e = true) (h1 : PG X e (tTg C t)) (h2 : PGs X es (tTgs C ts)) : PGs X (e :: es) (tTgs C (t :: ts)) := by
  refine PGs_imp (pgs_cons h1 h2 (by rw [asg_star hs]; rfl)) fun vs σ H Q ⟨ρ, en, m, ws, en', E, R, r, e, h⟩ => ?_
  cases ws with
  | nil => rw [bindTs] at e <;> cases e
  | cons w ws =>
    rw [bindTs] at e
    obtain ⟨en1, e1, e2⟩ := Option.bind_eq_some_iff.mp e
    obtain ⟨v, vr, rfl, rv, rr⟩ := r.cons_iff
    refine ⟨v, vr, rfl, ρ, en, m, w, en1, E, R, rv, e1, fun σ1 E1 l1 u1 => ⟨ρ, en1, m, ws, en', E1, R, rr, e2, fun σ2 E2 l2 u2 => h σ2 E2 (l2.trans l1) fun i hi => ?_⟩⟩
    rw [varsL, List.mem_append] at hi
    rw [u2 i fun z => hi (.inr z), u1 i fun z => hi (.inl z)]
theorem asg_len {env : Env} : ∀ {es : List Expr}, es.all nst = true → (assignEach es env).length = es.length ∧ (assignEach es env).findIdx? (·.1) = none
  | [], _ => ⟨rfl, rfl⟩
  | e :: es, h => by
    rw [List.all_cons, Bool.and_eq_true] at h
    obtain ⟨h1, h2⟩ := asg_len (env := env) h.2
    rw [asg_star h.1]
    refine ⟨congrArg Nat.succ h1, ?_⟩
    rw [List.findIdx?_cons, h2]; rfl
theorem bindTs_len : ∀ {ts : List Tg} {ws : List W} {en en' : En}, bindTs ts ws en = some en' → ts.length = ws.length
  | [], [], _, _, _ => rfl
  | [], w :: ws, _, _, h => by rw [bindTs] at h <;> cases h
  | t :: ts, [], _, _, h => by rw [bindTs] at h <;> cases h
  | t :: ts, w :: ws, en, en', h => by
    rw [bindTs] at h
    obtain ⟨en1, e1, e2⟩ := Option.bind_eq_some_iff.mp h
    exact congrArg Nat.succ (bindTs_len e2)
theorem g_tup {es : List Expr} {ts : List Tg} {k : Nat} (hc : X.calm = true) (hs : es.all nst = true) (hl : ts.length = es.length) (h : PGs X es (tTgs C ts)) : PG X (.Tuple es k pos) (tTg C (.t ts)) := by
  obtain ⟨l1, l2⟩ := asg_len (env := X.env) hs
  refine PG_imp (pg_tup hc h l1 l2) fun v σ H Q ⟨ρ, en, m, w, en', E, R, r, e, hq⟩ => ?_
  cases w <;> simp only [bindT, reduceCtorEq] at e
  obtain ⟨a, vs, rfl, ea, qv⟩ := r.tup_iff
  exact ⟨a, vs, rfl, SqT.of ea, by rw [← qv.length, ← hl, bindTs_len e], ρ, en, m, _, en', E, R, qv, e, fun σ' E' l u => hq σ' E' l fun i hi => u i (by simpa [Tg.vars] using hi)⟩
/-! ### results of statements -/
abbrev wx (E0 : XK) : WX := fun c d _ H => E0 c d H
def PSR (C : Cf) (E0 : XK) (ρ : List Addr) (H : Hp) (r : SR) (D : Ends) : Prop := match r with
  | .nx en m => ∀ ρ' H' σ', Ext ρ H ρ' H' → RS C ρ' H' m → REn C ρ' H' en σ' → D.nx σ' H'
  | .rt w m => ∀ ρ' H' v, Ext ρ H ρ' H' → RS C ρ' H' m → RW C ρ' H' w v → D.rt v H'
  | .bk en m => ∀ ρ' H' σ', Ext ρ H ρ' H' → RS C ρ' H' m → REn C ρ' H' en σ' → D.bk σ' H'
  | .ct en m => ∀ ρ' H' σ', Ext ρ H ρ' H' → RS C ρ' H' m → REn C ρ' H' en σ' → D.ct σ' H'
  | .exc c ws m => ∀ d ρ' H', Ext ρ H ρ' H' → RS C ρ' H' m → RX C ρ' H' c ws d → E0 (.ref (C.ca c)) d H'
  | .bad => False
def tS (C : Cf) (E0 : XK) (f : En → Store → SR) : TS := fun D σ H => ∃ ρ en m, REn C ρ H en σ ∧ RS C ρ H m ∧ PSR C E0 ρ H (f en m) D
theorem PSR.up {r : SR} {D : Ends} (x : Ext ρ H ρ1 H1) (h : PSR C E0 ρ H r D) : PSR C E0 ρ1 H1 r D := by
  cases r with
  | nx en m => exact fun ρ2 H2 s2 y R q => h ρ2 H2 s2 (x.trans y) R q
  | rt w m => exact fun ρ2 H2 s2 y R q => h ρ2 H2 s2 (x.trans y) R q
  | bk en m => exact fun ρ2 H2 s2 y R q => h ρ2 H2 s2 (x.trans y) R q
  | ct en m => exact fun ρ2 H2 s2 y R q => h ρ2 H2 s2 (x.trans y) R q
  | exc c ws m => exact fun d ρ2 H2 y R q => h d ρ2 H2 (x.trans y) R q
  | bad => exact h
theorem PSR.st {α β : Type} {rel : List Addr → Hp → α → β → Prop} {r : Res α} {k : α → Store → SR} {D : Ends} (h : PSR C E0 ρ H (r.st k) D) :
    PR C rel σ (wx E0) ρ H r fun b H1 => ∃ ρ1 a m1, Ext ρ H ρ1 H1 ∧ RS C ρ1 H1 m1 ∧ rel ρ1 H1 a b ∧ PSR C E0 ρ1 H1 (k a m1) D := by
  cases r with
  | ok a m => exact fun b ρ1 H1 x R q => ⟨ρ1, a, m, x, R, q, PSR.up x h⟩
  | exc c ws m => exact h
  | bad => exact h
theorem PSR.here {en : En} {D : Ends} (R : RS C ρ H m) (E : REn C ρ H en σ) (h : PSR C E0 ρ H (.nx en m) D) : D.nx σ H := h ρ H σ (.refl _ _) R E
theorem PS_imp {st : Stmt} {t t' : TS} (h : PS X st t) (i : ∀ D σ H, t' D σ H → t D σ H) : PS X st t' := ⟨fun pins s σ H D I q => h.run pins s σ H D I (i D σ H q)⟩
theorem PSs_imp {st : List Stmt} {t t' : TS} (h : PSs X st t) (i : ∀ D σ H, t' D σ H → t D σ H) : PSs X st t' := ⟨fun pins s σ H D I q => h.run pins s σ H D I (i D σ H q)⟩
variable {a b e : Expr} {fe fa fb : En → Store → Res W} {f g : En → Store → SR}
theorem s_nil : PSs X [] (tS C E0 fun en m => .nx en m) := PSs_imp pss_nil fun D σ H ⟨ρ, en, m, E, R, P⟩ => P.here R E
theorem s_cons {st : Stmt} {sts : List Stmt} (h1 : PS X st (tS C E0 f)) (h2 : PSs X sts (tS C E0 g)) : PSs X (st :: sts) (tS C E0 fun en m => (f en m).seq g) := by
  refine PSs_imp (pss_cons h1 h2) fun D σ H ⟨ρ, en, m, E, R, P⟩ => ⟨ρ, en, m, E, R, ?_⟩
  dsimp only at P
  cases e : f en m with
  | nx en1 m1 =>
    rw [e] at P
    exact fun ρ1 H1 σ1 x R1 E1 => ⟨ρ1, en1, m1, E1, R1, PSR.up x P⟩
  | rt w m1 => rw [e] at P; exact P
  | bk en1 m1 => rw [e] at P; exact P
  | ct en1 m1 => rw [e] at P; exact P
  | exc c ws m1 => rw [e] at P; exact P
  | bad => rw [e] at P; exact P
theorem s_pass : PS X (.Pass pos) (tS C E0 fun en m => .nx en m) := PS_imp ps_pass fun D σ H ⟨ρ, en, m, E, R, P⟩ => P.here R E
theorem s_brk : PS X (.Break pos) (tS C E0 fun en m => .bk en m) := PS_imp ps_break fun D σ H ⟨ρ, en, m, E, R, P⟩ => P ρ H σ (.refl _ _) R E
theorem s_cnt : PS X (.Continue pos) (tS C E0 fun en m => .ct en m) := PS_imp ps_continue fun D σ H ⟨ρ, en, m, E, R, P⟩ => P ρ H σ (.refl _ _) R E
theorem s_rtN : PS X (.Return none pos) (tS C E0 fun _ m => .rt .non m) := PS_imp ps_retN fun D σ H ⟨ρ, en, m, E, R, P⟩ => P ρ H _ (.refl _ _) R RW.non
theorem s_rt (he : PE X e (tE C (wx E0) fe)) : PS X (.Return (some e) pos) (tS C E0 fun en m => (fe en m).st fun w m => .rt w m) :=
  PS_imp (ps_ret he) fun D σ H ⟨ρ, en, m, E, R, P⟩ => ⟨ρ, en, m, E, R, (PSR.st (rel := RW C) P).imp fun v H1 ⟨ρ1, w, m1, x, R1, q, P1⟩ => P1 ρ1 H1 v (.refl _ _) R1 q⟩
def ncmp : Expr → Bool
  | .ListComp _ _ _ _ => false
  | .SetComp _ _ _ _ => false
  | .DictComp _ _ _ _ _ => false
  | _ => true
theorem swaps_of {o : Option Expr} {l : Nat} {env : Env} (h : ncmp e = true) : swapsWith e o l env = pure false := by
  cases e <;> first | rfl | cases h
theorem s_ex (hn : ncmp e = true) (he : PE X e (tE C (wx E0) fe)) : PS X (.Expr e pos) (tS C E0 fun en m => (fe en m).st fun _ m => .nx en m) :=
  PS_imp (ps_expr he (swaps_of hn)) fun D σ H ⟨ρ, en, m, E, R, P⟩ => ⟨ρ, en, m, E, R, (PSR.st (rel := RW C) P).imp fun v H1 ⟨ρ1, w, m1, x, R1, q, P1⟩ => P1.here R1 (E.ext (x.ext0 R))⟩
theorem s_doc {x j pos'} : PS X (.Expr (.Constant (.str x) j pos) pos') (tS C E0 fun en m => .nx en m) := PS_imp ps_doc fun D σ H ⟨ρ, en, m, E, R, P⟩ => P.here R E
/-- what is stored -/
theorem stored {t : Tg} {D : Ends} {en : En} {v : V} {w : W} (R : RS C ρ H m) (E : REn C ρ H en σ) (q : RW C ρ H w v) (P : PSR C E0 ρ H (match bindT t w en with
      | some en => .nx en m
      | none => .bad) D) : tTg C t v σ H D.nx := by
  cases e : bindT t w en with
  | none => rw [e] at P; exact P.elim
  | some en' => rw [e] at P; exact ⟨ρ, en, m, w, en', E, R, q, e, fun σ' E' _ _ => PSR.here R E' P⟩
theorem s_set {i : Nat} {x : Str} {p : Pos} (hN : X.N.Nodup) (hi : X.N[i]? = some x) (hx : Loc X.env.scope x) (hf : X.fn x = true ∨ X.env.scope.names.lookup x = some .local) (hw : swapsWith e (some (.Name x p)) pos.line X.env = pure false) (he : PE X e (tE C (wx E0) fe)) :
    PS X (.Assign [.Name x p] e pos) (tS C E0 fun en m => (fe en m).st fun w m => match bindT (.v i) w en with
      | some en => .nx en m
      | none => .bad) := by
  refine PS_imp (ps_set hN hi hx he hw hf) fun D σ H ⟨ρ, en, m, E, R, P⟩ => ⟨ρ, en, m, E, R, (PSR.st (rel := RW C) P).imp fun v H1 ⟨ρ1, w, m1, x, R1, q, P1⟩ => ?_⟩
  have E1 := E.ext (x.ext0 R)
  have : (bindT (.v i) w en) = if i < en.length then some (en.set i (some w)) else none := by rw [bindT]
  rw [this] at P1
  by_cases hl : i < en.length
  · rw [if_pos hl] at P1
    exact PSR.here R1 (E1.put q) P1
  · rw [if_neg hl] at P1
    exact P1.elim
theorem swapped_none {ts vs : List Expr} {tg : Expr} {env : Env} (h : (match tg, e with
    | .Tuple _ _ _, .Tuple _ _ _ => false
    | .List _ _, .Tuple _ _ _ => false
    | _, _ => true) = true) : swappedStores [tg] e env = pure none := by
  cases tg <;> cases e <;> first | rfl | cases h
def nsw (tg e : Expr) : Bool := match tg, e with
    | .Tuple _ _ _, .Tuple _ _ _ => false
    | .List _ _, .Tuple _ _ _ => false
    | _, _ => true
theorem s_asg {tg : Expr} {t : Tg} (hn : nst tg = true) (hw : swapsWith e (some tg) pos.line X.env = pure false) (hsw : swappedStores [tg] e X.env = pure none) (he : PE X e (tE C (wx E0) fe)) (hg : PG X tg (tTg C t)) :
    PS X (.Assign [tg] e pos) (tS C E0 fun en m => (fe en m).st fun w m => match bindT t w en with
      | some en => .nx en m
      | none => .bad) :=
  PS_imp (ps_asg he hg hw hsw (by rw [asg_star hn]; rfl)) fun D σ H ⟨ρ, en, m, E, R, P⟩ => ⟨ρ, en, m, E, R, (PSR.st (rel := RW C) P).imp fun v H1 ⟨ρ1, w, m1, x, R1, q, P1⟩ => stored R1 (E.ext (x.ext0 R)) q P1⟩
theorem Res.bind_st {α β : Type} (r : Res α) (f : α → Store → Res β) (g : β → Store → SR) : (r.bind f).st g = r.st fun a m => (f a m).st g := by
  cases r <;> rfl
/-- a, b = x, y: the stores swapped -/
theorem s_par {i j : Nat} {x y : Str} {px py pt : Pos} {kt k2 : Nat} {pt2 : Pos} {fs : En → Store → Res (List W)} (hc : X.calm = true) (hN : X.N.Nodup) (hi : X.N[i]? = some x) (hj : X.N[j]? = some y) (hij : i ≠ j)
    (hx : X.env.scope.names.lookup x = some .local) (hy : X.env.scope.names.lookup y = some .local) (hw : swappedStores [.Tuple [.Name x px, .Name y py] kt pt] (.Tuple [a, b] k2 pt2) X.env = pure (some [x, y]))
    (ha : PA X [a, b] (tAs C (wx E0) fs)) :
    PS X (.Assign [.Tuple [.Name x px, .Name y py] kt pt] (.Tuple [a, b] k2 pt2) pos) (tS C E0 fun en m => ((fs en m).bind fun ws m => if ws.length ≤ cap then .ok (.tup ws) m else .bad).st fun w m => match bindT (.t [.v i, .v j]) w en with
      | some en => .nx en m
      | none => .bad) := by
  refine PS_imp (ps_par hc hN hi hj hij hx hy ha hw rfl) fun D σ H ⟨ρ, en, m, E, R, P⟩ => ⟨ρ, en, m, E, R, ?_⟩
  dsimp only at P
  rw [Res.bind_st] at P
  refine (PSR.st (rel := RWs C) P).imp fun vs H1 ⟨ρ1, ws, m1, x1, R1, q, P1⟩ => ?_
  have E1 := E.ext (x1.ext0 R)
  split at P1
  · simp only [Res.st] at P1
    cases eb : bindT (.t [.v i, .v j]) (.tup ws) en with
    | none => rw [eb] at P1; exact P1.elim
    | some en' =>
      rw [eb] at P1
      rw [bindT] at eb
      have hl := bindTs_len eb
      match ws, hl with
      | [w1, w2], _ =>
        obtain ⟨v1, r1, rfl, q1, qr⟩ := q.cons_iff
        obtain ⟨v2, r2, rfl, q2, qr⟩ := qr.cons_iff
        rw [qr.nil_iff]
        refine ⟨v1, v2, rfl, ?_⟩
        have key : ∀ (k : Nat) (w : W) (en : En), bindT (.v k) w en = if k < en.length then some (en.set k (some w)) else none := fun k w en => by rw [bindT]
        rw [bindTs, key] at eb
        obtain ⟨en1, e1, e2⟩ := Option.bind_eq_some_iff.mp eb
        split at e1
        · cases e1
          rw [bindTs, key] at e2
          obtain ⟨en2, e3, e4⟩ := Option.bind_eq_some_iff.mp e2
          split at e3
          · cases e3
            rw [bindTs] at e4
            cases e4
            exact PSR.here R1 ((E1.put q1).put q2) P1
          · cases e3
        · cases e1
  · exact P1.elim
theorem blk_fun {env : Env} (h : env.scope.kind = .function) : env.blockKind = .function := by
  unfold Env.blockKind
  rw [h]; rfl
/-- when two stores are swapped -/
theorem swap2 {x y : Str} {px py pt pt2 : Pos} {kt k2 : Nat} {env : Env} (hk : env.blockKind = .function) (hx : env.scope.names.lookup x = some .local) (hy : env.scope.names.lookup y = some .local) (hl : (px.line == py.line) = true) (hne : x ≠ y)
    (ha : nst a = true) (hb : nst b = true) (h1 : (foldedForSure 8 a && foldedForSure 8 b) = false) (h2 : (constantsAlone 8 a && constantsAlone 8 b) = false) :
    swappedStores [.Tuple [.Name x px, .Name y py] kt pt] (.Tuple [a, b] k2 pt2) env = pure (some [x, y]) := by
  have e1 : env.kindOf x = some .local := hx
  have e2 : env.kindOf y = some .local := hy
  have e3 : px.line = py.line := by simpa using hl
  have hne' : ¬ y = x := fun z => hne z.symm
  unfold swappedStores
  simp [hk, e1, e2, h1, h2, Expr.pos, e3, List.eraseDups_cons, hne']
  rintro (h | h)
  · exfalso
    cases a <;> first | exact Bool.noConfusion (show false = true from h) | exact Bool.noConfusion (show false = true from ha)
  · exfalso
    cases b <;> first | exact Bool.noConfusion (show false = true from h) | exact Bool.noConfusion (show false = true from hb)
theorem s_aset {o i : Expr} {tpos : Pos} {fo fi : En → Store → Res W} (hP : C.P = X.prog) (hw : C.w = X.w) (hu : X.A.units + 66 < cLine) (he : PE X e (tE C (wx E0) fe)) (ho : PE X o (tE C (wx E0) fo)) (hi : PE X i (tE C (wx E0) fi)) (hs : nsl i = true) :
    PS X (.Assign [.Subscript o i tpos] e pos) (tS C E0 fun en m => (fe en m).st fun v m => (fo en m).st fun x m => (fi en m).st fun j m => (evSet x j v m).st fun _ m => .nx en m) := by
  refine PS_imp (ps_asg he (pg_sub ho hi (so_set (C := C) hP hw hu) (fun v => by cases i <;> first | rfl | cases hs)) (by cases e <;> rfl) (by cases e <;> rfl)) fun D σ H ⟨ρ, en, m, E, R, P⟩ => ⟨ρ, en, m, E, R, ?_⟩
  refine (PSR.st (rel := RW C) P).imp fun v H1 ⟨ρ1, w, m1, x1, R1, q1, P1⟩ => ?_
  have E1 := E.ext (x1.ext0 R)
  refine ⟨ρ1, en, m1, E1, R1, (PSR.st (rel := RW C) P1).imp fun vo H2 ⟨ρ2, wo, m2, x2, R2, q2, P2⟩ => ?_⟩
  have E2 := E1.ext (x2.ext0 R1)
  refine ⟨ρ2, en, m2, E2, R2, (PSR.st (rel := RW C) P2).imp fun vi H3 ⟨ρ3, wi, m3, x3, R3, q3, P3⟩ => ?_⟩
  have E3 := E2.ext (x3.ext0 R2)
  refine ⟨σ, wx E0, ρ3, m3, wo, wi, w, R3, q2.mono0 (x3.ext0 R2), q3, (q1.mono0 (x2.ext0 R1)).mono0 (x3.ext0 R2), ?_⟩
  exact (PSR.st (rel := fun _ _ _ _ => True) P3).imp fun _ H4 ⟨ρ4, _, m4, x4, R4, _, P4⟩ => P4.here R4 (E3.ext (x4.ext0 R3))
end
end Ev

set_option Elab.async false
set_option linter.all false
set_option maxRecDepth 100000
set_option maxHeartbeats 4000000
/-! Tests, loops. -/
namespace Ev
open PySem PySem.Spec PyProof.Rows L2
open Classical
section
variable {C : Cf} {X : Cx} {E0 : XK} {σ σ' : L2.St} {ρ ρ1 : List Addr} {H H1 : Hp} {m m1 : Store} {pos : Pos}
variable {a b e : Expr} {fe fa fb : En → Store → Res W} {f g : En → Store → SR}
theorem s_ite {c : Expr} {p q : List Stmt} {fc : En → Store → Res W} (hc : PT X c (tT C (wx E0) (fT fc))) (hp : PSs X p (tS C E0 f)) (hq : PSs X q (tS C E0 g)) :
    PS X (.If c p q pos) (tS C E0 fun en m => (fT fc en m).st fun t m => if t = true then f en m else g en m) := by
  refine PS_imp (ps_if hc hp hq) fun D σ H ⟨ρ, en, m, E, R, P⟩ => ⟨ρ, en, m, E, R, ?_⟩
  refine (PSR.st (rel := fun _ _ a b => a = b) P).imp fun t H1 ⟨ρ1, t', m1, x, R1, q, P1⟩ => ?_
  subst q
  cases t' with
  | true => rw [if_pos rfl] at P1 ⊢; exact ⟨ρ1, en, m1, E.ext (x.ext0 R), R1, P1⟩
  | false => rw [if_neg Bool.false_ne_true] at P1 ⊢; exact ⟨ρ1, en, m1, E.ext (x.ext0 R), R1, P1⟩
theorem wipeE_get {en : En} {i : Nat} {w : W} : ∀ {vs : List Nat}, (wipeE en vs)[i]? = some (some w) → en[i]? = some (some w)
  | [], h => h
  | v :: vs, h => by
    unfold wipeE at h
    by_cases hj : v = i
    · subst hj
      have hl : v < (wipeE en vs).length := by
        have := (List.getElem?_eq_some_iff.mp h).1
        simpa using this
      rw [List.getElem?_set_self hl] at h
      cases h
    · rw [List.getElem?_set_ne hj] at h
      exact wipeE_get h
theorem wipeE_len {en : En} : ∀ {vs : List Nat}, (wipeE en vs).length = en.length
  | [] => rfl
  | v :: vs => by
    unfold wipeE
    rw [List.length_set, wipeE_len]
theorem wipeE_out {en : En} {i : Nat} : ∀ {vs : List Nat}, i ∉ vs → (wipeE en vs)[i]? = en[i]?
  | [], h => rfl
  | v :: vs, h => by
    unfold wipeE
    rw [List.getElem?_set_ne (fun z => h (by simp [z])), wipeE_out fun z => h (List.mem_cons_of_mem _ z)]
theorem REn.wiped {en : En} {dead : List Nat} (E : REn C ρ H en σ) : REn C ρ H (wipeE en dead) σ :=
  ⟨by rw [wipeE_len]; exact E.1, fun i w e => E.2 i w (wipeE_get e)⟩
/-- the names of dead go, what nothing reaches goes -/
theorem gcE_ok {m0 : Store} {ρ0 : List Addr} {H0 : Hp} {en : En} {dead : List Nat} (R0 : RS C ρ0 H0 m0) (x : Ext ρ0 H0 ρ H) (R : RS C ρ H m) (E : REn C ρ H en σ) :
    ∃ ρ', Ext ρ0 H0 ρ' H ∧ RS C ρ' H (gcE m0 dead en m).2 ∧ REn C ρ' H (gcE m0 dead en m).1 σ := by
  unfold gcE
  by_cases hc : keepOld m0 m ∧ flatNews m0.length m (news m0.length ((wipeE en dead).filterMap id))
  · rw [if_pos hc]
    obtain ⟨g1, g2, g3, g4⟩ := gc_core R0 x R hc.1 hc.2 (news_nodup _ _) fun r hr => (news_mem.mp hr).2
    refine ⟨_, g2, g1, by simpa using (E.wiped (dead := dead)).1, fun i w e => ?_⟩
    simp only [List.getElem?_map] at e
    cases e2 : (wipeE en dead)[i]? with
    | none => rw [e2] at e; cases e
    | some o =>
      rw [e2] at e
      cases o with
      | none => cases e
      | some u =>
        cases e
        obtain ⟨v, ev, q⟩ := (E.wiped (dead := dead)).2 i u e2
        refine ⟨v, ev, q.map (C := C) (H := H) _ g3 fun r hr a e => g4 r ?_ a e⟩
        by_cases hl : r < m0.length
        · exact .inl hl
        · exact .inr (news_mem.mpr ⟨W.refsL_mem.mpr ⟨u, List.mem_filterMap.mpr ⟨some u, List.mem_of_getElem? e2, rfl⟩, hr⟩, Nat.not_lt.mp hl⟩)
  · rw [if_neg hc]
    exact ⟨ρ, x, R, E.wiped⟩
theorem ns_of {a : Expr} {env : Env} (h : (match a with | .Set _ _ _ => false | _ => true) = true) (x : Value) : foldedSetIterable a env x = pure x := by
  cases a <;> first | rfl | cases h
def nset (a : Expr) : Bool := match a with | .Set _ _ _ => false | _ => true
theorem s_for {tg iter : Expr} {body : List Stmt} {t : Tg} {fi : En → Store → Res Walked} {dead : List Nat} (hp : PassesOwn (model X.prog X.w) X.A X.env X.xe) (hc : X.calm = true) (hns : nset iter = true) (hi : PI X tg iter (tI C (wx E0) fi)) (hg : PG X tg (tTg C t)) (hb : PSs X body (tS C E0 f)) :
    PS X (.For tg iter body [] pos) (tS C E0 fun en m => (fi en m).st fun its m1 => forL m1 dead (stillAt its.srcs) t f its.items en m1) := by
  refine PS_imp (ps_for hp hc hi hg hb (ns_of hns)) fun D σ H ⟨ρ, en, m, E, R, P⟩ => ⟨ρ, en, m, E, R, ?_⟩
  refine (PSR.st (rel := RJ C H) P).imp fun J H0 ⟨ρ0, its, m0, x0, R0, j, P0⟩ => ?_
  have E1 := E.ext (x0.ext0 R)
  refine ⟨fun i n σ H => n = its.items.length - i ∧ ∃ ρ en m, Ext ρ0 H0 ρ H ∧ REn C ρ H en σ ∧ RS C ρ H m ∧ PSR C E0 ρ0 H0 (forL m0 dead (stillAt its.srcs) t f (its.items.drop i) en m) D, ⟨_, rfl, ρ0, en, m0, .refl _ _, E1, R0, P0⟩, ?_⟩
  rintro i n σ1 H1 ⟨rfl, ρ1, en1, m1, x1, E1, R1, P1⟩
  cases ew : its.items[i]? with
  | none =>
    have hl := List.getElem?_eq_none_iff.mp ew
    rw [List.drop_eq_nil_of_le hl] at P1
    rw [forL] at P1
    split at P1
    · rename_i hst
      exact .inl ⟨(j ρ1 H1 m1 x1.b R1 hst i).1 ew, P1 ρ1 H1 σ1 x1 R1 E1⟩
    · exact P1.elim
  | some w =>
    have hl := (List.getElem?_eq_some_iff.mp ew).1
    rw [List.drop_eq_getElem_cons hl, (List.getElem?_eq_some_iff.mp ew).2, forL] at P1
    split at P1
    · rename_i hst
      obtain ⟨j1, j2⟩ := j ρ1 H1 m1 x1.b R1 hst i
      obtain ⟨jg, jy⟩ := j2 w ew
      refine .inr ⟨jg, fun σ' H' => ∃ n', n' < its.items.length - i ∧ n' = its.items.length - (i + 1) ∧ ∃ ρ en m, Ext ρ0 H0 ρ H' ∧ REn C ρ H' en σ' ∧ RS C ρ H' m ∧ PSR C E0 ρ0 H0 (forL m0 dead (stillAt its.srcs) t f (its.items.drop (i + 1)) en m) D,
        fun σ' H' ⟨n', h1, h2, h3⟩ => ⟨n', h1, h2, h3⟩, fun x H' hy => ?_⟩
      obtain ⟨x2, R2, q2⟩ := jy x H' hy
      cases eb : bindT t w en1 with
      | none => rw [eb] at P1; exact P1.elim
      | some en2 =>
        rw [eb] at P1
        refine ⟨ρ1, en1, m1, w, en2, E1.ext (x2.ext0 R1), R2, q2, eb, fun σ2 E2 _ _ => ⟨ρ1, en2, m1, E2, R2, ?_⟩⟩
        have hlt : its.items.length - (i + 1) < its.items.length - i := by omega
        have again : ∀ en3 m3 ρ3 H3 σ3, Ext ρ1 H' ρ3 H3 → RS C ρ3 H3 m3 → REn C ρ3 H3 en3 σ3 → PSR C E0 ρ0 H0 (forL m0 dead (stillAt its.srcs) t f (its.items.drop (i + 1)) (gcE m0 dead en3 m3).1 (gcE m0 dead en3 m3).2) D → ∃ n', n' < its.items.length - i ∧ n' = its.items.length - (i + 1) ∧ ∃ ρ en m, Ext ρ0 H0 ρ H3 ∧ REn C ρ H3 en σ3 ∧ RS C ρ H3 m ∧ PSR C E0 ρ0 H0 (forL m0 dead (stillAt its.srcs) t f (its.items.drop (i + 1)) en m) D := by
          intro en3 m3 ρ3 H3 σ3 x3 R3 E3 P3
          obtain ⟨ρ4, x4, R4, E4⟩ := gcE_ok (dead := dead) R0 ((x1.trans x2).trans x3) R3 E3
          exact ⟨_, hlt, rfl, ρ4, _, _, x4, E4, R4, P3⟩
        dsimp only at P1
        cases er : f en2 m1 with
        | nx en3 m3 => rw [er] at P1; exact fun ρ3 H3 σ3 x3 R3 E3 => again en3 m3 ρ3 H3 σ3 x3 R3 E3 P1
        | ct en3 m3 => rw [er] at P1; exact fun ρ3 H3 σ3 x3 R3 E3 => again en3 m3 ρ3 H3 σ3 x3 R3 E3 P1
        | bk en3 m3 => rw [er] at P1; exact fun ρ3 H3 σ3 x3 R3 E3 => P1 ρ3 H3 σ3 ((x1.trans x2).trans x3) R3 E3
        | rt u m3 => rw [er] at P1; exact PSR.up (x1.trans x2) P1
        | exc c ws m3 => rw [er] at P1; exact PSR.up (E0 := E0) (r := .exc c ws m3) (x1.trans x2) P1
        | bad => rw [er] at P1; exact P1.elim
    · exact P1.elim
/-! ### while -/
theorem whlN_mono {m0 : Store} {dead : List Nat} {test : En → Store → Res Bool} : ∀ {n : Nat} {en : En} {m : Store} {r : SR}, whlN m0 dead test f n en m = some r → whlN m0 dead test f (n + 1) en m = some r
  | 0, _, _, _, h => by rw [whlN] at h; cases h
  | n + 1, en, m, r, h => by
    rw [whlN] at h ⊢
    cases e1 : test en m with
    | bad => rw [e1] at h; exact h
    | exc c ws m1 => rw [e1] at h; exact h
    | ok b m1 =>
      rw [e1] at h
      cases b with
      | false => exact h
      | true =>
        dsimp only at h ⊢
        cases e2 : f en m1 with
        | nx en2 m2 => rw [e2] at h; exact whlN_mono h
        | ct en2 m2 => rw [e2] at h; exact whlN_mono h
        | bk en2 m2 => rw [e2] at h; exact h
        | rt w m2 => rw [e2] at h; exact h
        | exc c ws m2 => rw [e2] at h; exact h
        | bad => rw [e2] at h; exact h
theorem s_whl {c : Expr} {body : List Stmt} {fc : En → Store → Res W} {dead : List Nat} (hp : PassesOwn (model X.prog X.w) X.A X.env X.xe) (hc : PT X c (tT C (wx E0) (fT fc))) (hb : PSs X body (tS C E0 f)) :
    PS X (.While c body [] pos) (tS C E0 fun en m => whlW m dead (fT fc) f en m) := by
  refine PS_imp (ps_while hp hc hb) fun D σ H0 ⟨ρ0, en, m0, E, R0, P⟩ => ?_
  dsimp only at P
  unfold whlW at P
  by_cases h : ∃ n r, whlN m0 dead (fT fc) f n en m0 = some r
  · rw [dif_pos h] at P
    obtain ⟨n, hn⟩ : ∃ n, whlN m0 dead (fT fc) f n en m0 = some (choose (choose_spec h)) := ⟨_, choose_spec (choose_spec h)⟩
    revert P hn
    generalize choose (choose_spec h) = r
    intro P hn
    refine ⟨fun n σ H => ∃ ρ en m, Ext ρ0 H0 ρ H ∧ REn C ρ H en σ ∧ RS C ρ H m ∧ whlN m0 dead (fT fc) f n en m = some r, ⟨n, ρ0, en, m0, .refl _ _, E, R0, hn⟩, ?_⟩
    rintro n σ1 H1 ⟨ρ1, en1, m1, x1, E1, R1, h1⟩
    cases n with
    | zero => rw [whlN] at h1; cases h1
    | succ n =>
      rw [whlN] at h1
      refine ⟨ρ1, en1, m1, E1, R1, ?_⟩
      cases e1 : fT fc en1 m1 with
      | bad => rw [e1] at h1; cases h1; exact P.elim
      | exc c ws m2 => rw [e1] at h1; cases h1; exact fun d ρ2 H2 x2 R2 q => P d ρ2 H2 (x1.trans x2) R2 q
      | ok b m2 =>
        rw [e1] at h1
        intro b' ρ2 H2 x2 R2 hb'
        subst hb'
        have E2 := E1.ext (x2.ext0 R1)
        cases b with
        | false =>
          cases h1
          rw [if_neg Bool.false_ne_true]
          exact P ρ2 H2 σ1 (x1.trans x2) R2 E2
        | true =>
          rw [if_pos rfl]
          dsimp only at h1
          refine ⟨fun σ H => ∃ ρ en m, Ext ρ0 H0 ρ H ∧ REn C ρ H en σ ∧ RS C ρ H m ∧ whlN m0 dead (fT fc) f n en m = some r, fun σ' H' q => ⟨n, Nat.lt_succ_self n, q⟩, ρ2, en1, m2, E2, R2, ?_⟩
          have again : ∀ en3 m3 ρ3 H3 σ3, Ext ρ2 H2 ρ3 H3 → RS C ρ3 H3 m3 → REn C ρ3 H3 en3 σ3 → whlN m0 dead (fT fc) f n (gcE m0 dead en3 m3).1 (gcE m0 dead en3 m3).2 = some r → ∃ ρ en m, Ext ρ0 H0 ρ H3 ∧ REn C ρ H3 en σ3 ∧ RS C ρ H3 m ∧ whlN m0 dead (fT fc) f n en m = some r := by
            intro en3 m3 ρ3 H3 σ3 x3 R3 E3 h3
            obtain ⟨ρ4, x4, R4, E4⟩ := gcE_ok (dead := dead) R0 ((x1.trans x2).trans x3) R3 E3
            exact ⟨ρ4, _, _, x4, E4, R4, h3⟩
          cases er : f en1 m2 with
          | nx en3 m3 => rw [er] at h1; exact fun ρ3 H3 σ3 x3 R3 E3 => again en3 m3 ρ3 H3 σ3 x3 R3 E3 h1
          | ct en3 m3 => rw [er] at h1; exact fun ρ3 H3 σ3 x3 R3 E3 => again en3 m3 ρ3 H3 σ3 x3 R3 E3 h1
          | bk en3 m3 => rw [er] at h1; cases h1; exact fun ρ3 H3 σ3 x3 R3 E3 => P ρ3 H3 σ3 ((x1.trans x2).trans x3) R3 E3
          | rt u m3 => rw [er] at h1; cases h1; exact PSR.up (x1.trans x2) P
          | exc c ws m3 => rw [er] at h1; cases h1; exact PSR.up (E0 := E0) (r := .exc c ws m3) (x1.trans x2) P
          | bad => rw [er] at h1; cases h1; exact P.elim
  · rw [dif_neg h] at P
    exact P.elim
end
end Ev

set_option Elab.async false
set_option linter.all false
set_option maxRecDepth 100000
set_option maxHeartbeats 4000000
/-! Comprehensions. -/
namespace Ev
open PySem PySem.Spec PyProof.Rows L2
open Classical
section
variable {C : Cf} {X : Cx} {Wx : WX} {σ σ' : L2.St} {ρ ρ' ρ1 : List Addr} {H H' H1 : Hp} {m m1 : Store} {pos : Pos} {D : Addr}
theorem Ext0.side {xs : List V} {ys : List V} (hD : H D = some (.lst xs)) (hn : D ∉ ρ) : Ext0 ρ H ρ (upd H D (.lst ys)) :=
  ⟨fun n a h => h, fun a vs h => by rw [upd_ne (fun z => by subst z; rw [hD] at h; cases h)]; exact h, fun a o h ha fx => ⟨by
    rw [upd_ne (fun z => by
      subst z
      rw [hD] at h
      cases h
      rcases fx with ⟨_, _, _, q⟩ | ⟨_, _, q⟩ | ⟨_, q⟩
      · cases q
      · unfold ExcO at q; cases q
      · cases q)]
    exact h, ha⟩⟩
theorem RS.side {xs ys : List V} (R : RS C ρ H m) (hD : H D = some (.lst xs)) (hn : D ∉ ρ) : RS C ρ (upd H D (.lst ys)) m :=
  ⟨R.len, R.nd, fun n o a e ea => (R.obj n o a e ea).mono0 (Ext0.side hD hn) (upd_ne fun z => hn (by rw [← z]; exact List.mem_of_getElem? ea)), tabs_upd R.tabs hD fun z => by rcases z with ⟨_, z⟩ | ⟨_, z⟩ <;> cases z⟩
theorem Ext.side {o : HO} (x : Ext ρ H ρ' H') (h0 : H D = none) (hn : D ∉ ρ') : Ext ρ H ρ' (upd H' D o) :=
  ⟨x.pre, fun a u h ha nt => by rw [upd_ne (ne_of_none h h0)]; exact x.keep a u h ha nt, x.new⟩
theorem RS.notin (R : RS C ρ H m) (h : H D = none) : D ∉ ρ := fun q => by
  obtain ⟨n, o, _, _, r⟩ := R.mem q
  obtain ⟨u, e, _⟩ := r.there
  rw [h] at e; cases e
/-- a list that was built beside the store comes in -/
theorem RS.adopt {ws : List W} {vs : List V} (R : RS C ρ H m) (hD : H D = some (.lst vs)) (hn : D ∉ ρ) (q : RWs C ρ H ws vs) : RS C (ρ ++ [D]) H (m ++ [.lst ws]) ∧ RW C (ρ ++ [D]) H (.ref m.length) (.ref D) := by
  have x : Ext0 ρ H (ρ ++ [D]) H := ⟨fun n a h => by rw [List.getElem?_append_left (List.getElem?_eq_some_iff.mp h).1]; exact h, fun a vs h => h, fun a o h ha fx => ⟨h, fun z => by
    rcases List.mem_append.mp z with z | z
    · exact ha z
    · rw [List.mem_singleton.mp z, hD] at h
      cases h
      rcases fx with ⟨_, _, _, q⟩ | ⟨_, _, q⟩ | ⟨_, q⟩
      · cases q
      · unfold ExcO at q; cases q
      · cases q⟩⟩
  have el : (ρ ++ [D])[m.length]? = some D := by rw [← R.len]; simp
  refine ⟨⟨by simp [R.len], List.nodup_append.mpr ⟨R.nd, by simp, fun a ha b hb => ?_⟩, fun n o a e ea => ?_, R.tabs⟩, by rw [RW]; exact ⟨D, el, rfl⟩⟩
  · rw [List.mem_singleton.mp hb]
    exact fun z => hn (by rw [← z]; exact ha)
  · by_cases hl : n < m.length
    · rw [List.getElem?_append_left hl] at e
      rw [List.getElem?_append_left (by rw [R.len]; exact hl)] at ea
      exact (R.obj n o a e ea).mono0 x rfl
    · have hn2 : n = m.length := by
        have := (List.getElem?_eq_some_iff.mp e).1
        simp at this
        omega
      subst hn2
      rw [el] at ea
      cases ea
      simp at e
      cases e
      exact ⟨vs, hD, q.mono0 x⟩
theorem Ext.adopt (x : Ext ρ H ρ' H') (h0 : H D = none) : Ext ρ H (ρ' ++ [D]) H' :=
  ⟨x.pre.trans (List.prefix_append _ _), x.keep, fun a ha hn o e => by
    rcases List.mem_append.mp ha with z | z
    · exact x.new a z hn o e
    · rw [List.mem_singleton.mp z, h0] at e; cases e⟩
/-- where nothing may be raised, one after another -/
theorem PR.bindC {α β γ δ : Type} {rel : List Addr → Hp → α → β → Prop} {rel' : List Addr → Hp → γ → δ → Prop} {Y : WX} {τ : L2.St} {r : Res α} {k : α → Store → Res γ} {Q : δ → Hp → Prop} (h : PR C rel' σ Wx ρ H (Res.calm (r.bind k)) Q) :
    PR C rel τ Y ρ H r (fun b H1 => ∃ ρ1 a m1, Ext ρ H ρ1 H1 ∧ RS C ρ1 H1 m1 ∧ rel ρ1 H1 a b ∧ PR C rel' σ Wx ρ1 H1 (Res.calm (k a m1)) Q) := by
  cases r with
  | ok a m => exact fun b ρ1 H1 x R q => ⟨ρ1, a, m, x, R, q, PR.up x h⟩
  | exc c ws m => exact h.elim
  | bad => exact h.elim
/-- with the state that is meant here -/
theorem PR.bindC1 {α β γ δ : Type} {rel : List Addr → Hp → α → β → Prop} {rel' : List Addr → Hp → γ → δ → Prop} {Y : WX} {τ : L2.St} {ρ0 : List Addr} {H0 : Hp} {r : Res α} {k : α → Store → Res γ} {Q : δ → Hp → Prop} (h : PR C rel' σ Wx ρ0 H0 (Res.calm (r.bind k)) Q) :
    PR C rel τ Y ρ H r (fun b H1 => ∃ ρ1 a m1, Ext ρ H ρ1 H1 ∧ RS C ρ1 H1 m1 ∧ rel ρ1 H1 a b ∧ PR C rel' σ Wx ρ0 H0 (Res.calm (k a m1)) Q) := by
  cases r with
  | ok a m => exact fun b ρ1 H1 x R q => ⟨ρ1, a, m, x, R, q, h⟩
  | exc c ws m => exact h.elim
  | bad => exact h.elim
theorem Res.bind_ok {α β : Type} (a : α) (m : Store) (k : α → Store → Res β) : (Res.ok a m).bind k = k a m := rfl
theorem wipe_get {i : Nat} : ∀ {vs : List Nat}, i ∉ vs → (wipe σ vs)[i]? = σ[i]? := fun h => wipe_out h
theorem wipe_same {vs : List Nat} {σ2 : L2.St} (hl : σ2.length = σ.length) (h : ∀ i, i ∉ vs → σ2[i]? = (wipe σ vs)[i]?) : wipe σ2 vs = wipe σ vs := by
  have key : ∀ (σ : L2.St) (vs : List Nat) (i : Nat), i ∈ vs → (wipe σ vs)[i]? = if i < σ.length then some none else none := by
    intro σ vs
    induction vs with
    | nil => intro i h; cases h
    | cons v vs ih =>
      intro i hi
      rw [wipe]
      by_cases hv : v = i
      · subst hv
        by_cases hlt : v < σ.length
        · rw [if_pos hlt, List.getElem?_set_self (by rw [wipe_length]; exact hlt)]
        · rw [if_neg hlt, List.getElem?_eq_none (by rw [List.length_set, wipe_length]; exact Nat.not_lt.mp hlt)]
      · rw [List.getElem?_set_ne hv]
        rcases List.mem_cons.mp hi with z | z
        · exact absurd z.symm hv
        · exact ih i z
  refine List.ext_getElem? fun i => ?_
  by_cases hi : i ∈ vs
  · rw [key σ2 vs i hi, key σ vs i hi, hl]
  · rw [wipe_out hi, h i hi]
theorem REn.wipes {en : En} (E : REn C ρ H en σ) (vs : List Nat) : REn C ρ H (wipeE en vs) (wipe σ vs) := by
  refine ⟨by rw [wipeE_len, wipe_length]; exact E.1, fun i w e => ?_⟩
  have hi : i ∉ vs := fun hi => by
    have : ∀ (vs : List Nat), i ∈ vs → ∀ w, (wipeE en vs)[i]? ≠ some (some w) := by
      intro vs
      induction vs with
      | nil => intro h; cases h
      | cons v vs ih =>
        intro h w e
        rw [wipeE] at e
        by_cases hv : v = i
        · subst hv
          have hl := (List.getElem?_eq_some_iff.mp e).1
          rw [List.length_set] at hl
          rw [List.getElem?_set_self hl] at e
          cases e
        · rw [List.getElem?_set_ne hv] at e
          rcases List.mem_cons.mp h with z | z
          · exact hv z.symm
          · exact ih z w e
    exact this vs hi w e
  rw [wipeE_out hi] at e
  rw [wipe_out hi]
  exact E.2 i w e
/-- nothing is raised in a comprehension -/
abbrev w0 : WX := fun _ _ _ _ => False
variable {elt tg iter : Expr} {ifs : List Expr} {scope : Scope} {own : List (Str × Nat)} {fi : En → Store → Res Walked} {fc : En → Store → Res Bool} {fx : En → Store → Res W} {t : Tg}
/-- what a turn makes -/
def turnC (t : Tg) (fc : En → Store → Res Bool) (k : En → Store → Res (List W)) (en : En) (w : W) (m : Store) : Res (List W) := match bindT t w en with
  | none => .bad
  | some en => (fc en m).bind fun b m => if b = true then k en m else .ok [] m
def oneK (fx : En → Store → Res W) : En → Store → Res (List W) := fun en m => (fx en m).bind fun w m => .ok [w] m
theorem alloc_cap {ρ0 : List Addr} {H0 : Hp} {acc ws : List W} {Q : VK} (h : PR C (RW C) σ Wx ρ0 H0 (Res.calm (allocL (acc ++ ws) m)) Q) : (acc ++ ws).length ≤ cap := by
  unfold allocL at h
  split at h
  · assumption
  · exact h.elim
theorem loop_cap {still : Store → Prop} {F : W → Store → Res (List W)} {ρ0 : List Addr} {H0 : Hp} {acc : List W} {items : List W} {Q : VK} (h : PR C (RW C) σ Wx ρ0 H0 (Res.calm ((loopC still F items m).bind fun ws m => allocL (acc ++ ws) m)) Q) : acc.length ≤ cap := by
  cases e : loopC still F items m with
  | bad => rw [e] at h; exact h.elim
  | exc c ws m1 => rw [e] at h; exact h.elim
  | ok ws m1 =>
    rw [e] at h
    have := alloc_cap h
    rw [List.length_append] at this
    omega
noncomputable abbrev lcF (fi : En → Store → Res Walked) (t : Tg) (fc : En → Store → Res Bool) (k : En → Store → Res (List W)) (own : List Nat) : En → Store → Res W := fun en m =>
  gc m (Res.calm (((fi en m).bind fun its m1 => loopC (stillAt its.srcs) (turnC t fc k (wipeE en own)) its.items m1).bind fun ws m => allocL ws m))
theorem lc_imp (hv : ∀ i ∈ t.vars, i ∈ own.map (·.2)) {σ : L2.St} {H : Hp} {Q : VK} : tE C Wx (lcF fi t fc (oneK fx) (own.map (·.2))) σ H Q → tLc (tI C Wx fi) (tTg C t) (tT C w0 fc) (tE C w0 fx) (own.map (·.2)) σ H Q := by
  rintro ⟨ρ, en, m, E, R, P⟩
  refine ⟨ρ, en, m, E, R, ?_⟩
  have P1 := PR.gc R P
  rw [Res.bind_assoc] at P1
  refine (PR.bindC (rel := RJ C H) P1).imp fun J H0 ⟨ρ0, its, m0, x0, R0, j, P2⟩ D hD => ?_
  have E0 := (E.ext (x0.ext0 R)).wipes (own.map (·.2))
  revert P2
  generalize hen : wipeE en (own.map (·.2)) = en0 at E0 ⊢
  generalize hσ : wipe σ (own.map (·.2)) = σ0 at E0 ⊢
  intro P2
  have sD := Sm.upd (o := .lst []) hD
  refine ⟨fun i n H => n = its.items.length - i ∧ ∃ ρ m acc vacc, Ext ρ0 H0 ρ H ∧ RS C ρ H m ∧ D ∉ ρ ∧ H D = some (.lst vacc) ∧ RWs C ρ H acc vacc ∧ REn C ρ H en0 σ0 ∧
      PR C (RW C) σ Wx ρ0 H0 (Res.calm ((loopC (stillAt its.srcs) (turnC t fc (oneK fx) en0) (its.items.drop i) m).bind fun ws m => allocL (acc ++ ws) m)) Q,
    ⟨_, rfl, ρ0, m0, [], [], .of_sm sD, R0.sm sD, R0.notin hD, upd_same, .nil, E0.ext sD.ext0, P2⟩, ?_⟩
  rintro i n H1 ⟨rfl, ρ1, m1, acc, vacc, x1, R1, n1, d1, q1, E1, P3⟩
  cases ew : its.items[i]? with
  | none =>
    have hl := List.getElem?_eq_none_iff.mp ew
    rw [List.drop_eq_nil_of_le hl, loopC] at P3
    split at P3
    · rename_i hst
      refine .inl ⟨(j ρ1 H1 m1 x1.b R1 hst i).1 ew, ?_⟩
      simp only [Res.bind, List.append_nil] at P3
      unfold allocL at P3
      split at P3
      · obtain ⟨R2, q2⟩ := R1.adopt d1 n1 q1
        exact P3 _ _ _ (x1.adopt hD) R2 q2
      · exact P3.elim
    · exact P3.elim
  | some w =>
    have hl := (List.getElem?_eq_some_iff.mp ew).1
    rw [List.drop_eq_getElem_cons hl, (List.getElem?_eq_some_iff.mp ew).2, loopC] at P3
    split at P3
    · rename_i hst
      obtain ⟨j1, j2⟩ := j ρ1 H1 m1 x1.b R1 hst i
      obtain ⟨jg, jy⟩ := j2 w ew
      refine .inr ⟨jg, fun H' => its.items.length - (i + 1) < its.items.length - i ∧ ∃ ρ m acc vacc, Ext ρ0 H0 ρ H' ∧ RS C ρ H' m ∧ D ∉ ρ ∧ H' D = some (.lst vacc) ∧ RWs C ρ H' acc vacc ∧ REn C ρ H' en0 σ0 ∧
        PR C (RW C) σ Wx ρ0 H0 (Res.calm ((loopC (stillAt its.srcs) (turnC t fc (oneK fx) en0) (its.items.drop (i + 1)) m).bind fun ws m => allocL (acc ++ ws) m)) Q,
        fun H' ⟨h1, h2⟩ => ⟨_, h1, rfl, h2⟩, fun x H' hy => ?_⟩
      obtain ⟨x2, R2, q2⟩ := jy x H' hy
      have d2 : H' D = some (.lst vacc) := x2.keep D _ d1 n1 fun _ z => by cases z
      have E2 := E1.ext (x2.ext0 R1)
      have a2 := q1.mono0 (x2.ext0 R1)
      have hlt : its.items.length - (i + 1) < its.items.length - i := by omega
      rw [Res.bind_assoc] at P3
      cases eb : bindT t w en0 with
      | none =>
        have et : turnC t fc (oneK fx) en0 w m1 = .bad := by unfold turnC; rw [eb]
        rw [et] at P3
        exact P3.elim
      | some en2 =>
        have et : turnC t fc (oneK fx) en0 w m1 = (fc en2 m1).bind fun b m => if b = true then oneK fx en2 m else .ok [] m := by unfold turnC; rw [eb]
        rw [et, Res.bind_assoc] at P3
        refine ⟨ρ1, en0, m1, w, en2, E2, R2, q2, eb, fun σ2 E3 l3 u3 => ⟨?_, ?_⟩⟩
        · rw [hσ.symm] at l3 u3 ⊢
          have e1 := wipe_same (σ := σ) (vs := own.map (·.2)) (σ2 := σ2) (by rw [l3, wipe_length]) fun i hi => u3 i fun z => hi (hv i z)
          exact e1
        · refine ⟨ρ1, en2, m1, E3, R2, (PR.bindC1 (rel := fun _ _ a b => a = b) P3).imp fun b H3 ⟨ρ3, b', m3, x3, R3, eb3, P4⟩ => ?_⟩
          subst eb3
          have n3 := x3.out d2 n1 fun _ z => by cases z
          have d3 : H3 D = some (.lst vacc) := x3.keep D _ d2 n1 fun _ z => by cases z
          cases b' with
          | false =>
            rw [if_neg Bool.false_ne_true] at P4 ⊢
            rw [Res.bind_ok, Res.bind_assoc] at P4
            simp only [Res.bind_ok, List.nil_append] at P4
            refine ⟨hlt, ρ3, m3, acc, vacc, (x1.trans x2).trans x3, R3, n3, d3, a2.mono0 (x3.ext0 R2), E2.ext (x3.ext0 R2), P4⟩
          | true =>
            rw [if_pos rfl] at P4 ⊢
            rw [show oneK fx en2 m3 = (fx en2 m3).bind fun w m => .ok [w] m from rfl, Res.bind_assoc] at P4
            refine ⟨ρ3, en2, m3, E3.ext (x3.ext0 R2), R3, (PR.bindC1 (rel := RW C) P4).imp fun y H4 ⟨ρ4, wy, m4, x4, R4, qy, P5⟩ => ?_⟩
            have n4 := x4.out d3 n3 fun _ z => by cases z
            have d4 : H4 D = some (.lst vacc) := x4.keep D _ d3 n3 fun _ z => by cases z
            rw [Res.bind_ok, Res.bind_assoc] at P5
            simp only [Res.bind_ok] at P5
            have P6 : PR C (RW C) σ Wx ρ0 H0 (Res.calm ((loopC (stillAt its.srcs) (turnC t fc (oneK fx) en0) (its.items.drop (i + 1)) m4).bind fun ws m => allocL ((acc ++ [wy]) ++ ws) m)) Q := by
              simpa only [List.append_assoc, List.singleton_append] using P5
            have hcap := loop_cap P6
            have al := (a2.mono0 (x3.ext0 R2)).mono0 (x4.ext0 R3)
            rw [List.length_append, List.length_singleton] at hcap
            have xs := Ext0.side (ys := vacc ++ [y]) d4 n4
            exact ⟨vacc, d4, by rw [← al.length]; exact cap_lt hcap, hlt, ρ4, m4, acc ++ [wy], vacc ++ [y], (((x1.trans x2).trans x3).trans x4).side hD n4, R4.side d4 n4, n4, upd_same,
              (al.append (RWs.cons qy RWs.nil)).mono0 xs, ((E2.ext (x3.ext0 R2)).ext (x4.ext0 R3)).ext xs, P6⟩
    · exact P3.elim
theorem l_lc (hc : X.calm = true) (hN : X.N.Nodup) (hns : nset iter = true) (hi : PI X tg iter (tI C Wx fi)) (ok : BlkOk X.N X.env.scope scope own) (hv : ∀ i ∈ t.vars, i ∈ own.map (·.2))
    (hg : ∀ (s : Shared) (H : Hp) (A : Addr) (cl : List (Str × Addr)) (fp : List Addr), PG (X.blk s H scope (compEnvC scope cl A X.env) fp) tg (tTg C t))
    (ht : ∀ (s : Shared) (H : Hp) (A : Addr) (cl : List (Str × Addr)) (fp : List Addr), PTs (X.blk s H scope (compEnvC scope cl A X.env) fp) ifs (tT C w0 fc))
    (hx : ∀ (s : Shared) (H : Hp) (A : Addr) (cl : List (Str × Addr)) (fp : List Addr), PE (X.blk s H scope (compEnvC scope cl A X.env) fp) elt (tE C w0 fx)) :
    PE X (.ListComp elt [⟨tg, iter, ifs, 0⟩] scope pos) (tE C Wx (lcF fi t fc (oneK fx) (own.map (·.2)))) :=
  PE_imp (pe_lc hc hN hi ok hg ht hx (ns_of hns)) fun σ H Q h => lc_imp hv h
theorem s_lc {E0 : XK} {i : Nat} {y : Str} {py spos : Pos} (hc : X.calm = true) (hN : X.N.Nodup) (hy : X.N[i]? = some y) (hyl : X.env.scope.names.lookup y = some .local)
    (hsw : swapsWith (.ListComp elt [⟨tg, iter, ifs, 0⟩] scope pos) (some (.Name y py)) spos.line X.env = pure true) (hns : nset iter = true) (hi : PI X tg iter (tI C (wx E0) fi)) (ok : BlkOk X.N X.env.scope scope own) (hv : ∀ i ∈ t.vars, i ∈ own.map (·.2))
    (hg : ∀ (s : Shared) (H : Hp) (A : Addr) (cl : List (Str × Addr)) (fp : List Addr), PG (X.blk s H scope (compEnvC scope cl A X.env) fp) tg (tTg C t))
    (ht : ∀ (s : Shared) (H : Hp) (A : Addr) (cl : List (Str × Addr)) (fp : List Addr), PTs (X.blk s H scope (compEnvC scope cl A X.env) fp) ifs (tT C w0 fc))
    (hx : ∀ (s : Shared) (H : Hp) (A : Addr) (cl : List (Str × Addr)) (fp : List Addr), PE (X.blk s H scope (compEnvC scope cl A X.env) fp) elt (tE C w0 fx)) :
    PS X (.Assign [.Name y py] (.ListComp elt [⟨tg, iter, ifs, 0⟩] scope pos) spos) (tS C E0 fun en m => (lcF fi t fc (oneK fx) (own.map (·.2)) en m).st fun w m => match bindT (.v i) w en with
      | some en => .nx en m
      | none => .bad) := by
  refine PS_imp (ps_setLc hc hN hy hyl hsw hi ok hg ht hx (ns_of hns)) fun D σ H ⟨ρ, en, m, E, R, P⟩ => ?_
  refine lc_imp hv ⟨ρ, en, m, E, R, (PSR.st (rel := RW C) P).imp fun v H1 ⟨ρ1, w, m1, x, R1, q, P1⟩ => ?_⟩
  have key : bindT (.v i) w en = if i < en.length then some (en.set i (some w)) else none := by rw [bindT]
  rw [key] at P1
  by_cases hl : i < en.length
  · rw [if_pos hl] at P1
    exact PSR.here R1 ((E.ext (x.ext0 R)).put q) P1
  · rw [if_neg hl] at P1
    exact P1.elim
end
end Ev

set_option Elab.async false
set_option linter.all false
set_option maxRecDepth 100000
set_option maxHeartbeats 4000000
/-! Comprehensions of two clauses. -/
namespace Ev
open PySem PySem.Spec PyProof.Rows L2
open Classical
section
variable {C : Cf} {X : Cx} {Wx : WX} {σ σ' : L2.St} {ρ ρ' ρ1 ρ2 : List Addr} {H H' H1 H2 Hs : Hp} {m m1 : Store} {pos : Pos} {D : Addr}
theorem ExtB.then (x : ExtB Hs ρ H ρ1 H1) (y : Ext ρ1 H1 ρ2 H2) : ExtB Hs ρ H ρ2 H2 :=
  have out : ∀ a o, H a = some o → (∀ ps, o ≠ .tbl ps) → a ∉ ρ → a ∉ ρ1 := fun a o h nt hn hc => by
    obtain ⟨ps, e⟩ := x.new a hc hn o h
    exact nt ps e
  ⟨x.pre.trans y.pre, fun a o h hn nt hb => y.keep a o (x.keep a o h hn nt hb) (out a o h nt hn) nt, fun a hc hn o e => by
    by_cases h1 : a ∈ ρ1
    · exact x.new a h1 hn o e
    · rcases isTbl o with nt | h
      · obtain ⟨o', e', nt'⟩ := x.stay a o e nt hn
        obtain ⟨ps, z⟩ := y.new a hc h1 o' e'
        exact absurd z (nt' ps)
      · exact h, fun a o h nt hn => by
    obtain ⟨o', e', nt'⟩ := x.stay a o h nt hn
    exact ⟨o', y.keep a o' e' (out a o h nt hn) nt', nt'⟩⟩
theorem ExtB.side {ys : List V} (x : ExtB Hs ρ H ρ' H') (h0 : ∃ xs, Hs D = some (.lst xs)) {xs : List V} (hD : H D = some (.lst xs)) : ExtB Hs ρ H ρ' (upd H' D (.lst ys)) :=
  ⟨x.pre, fun a w h hn nt hb => by
    by_cases ha : a = D
    · subst ha
      rw [hD] at h
      cases h
      rcases hb with hb | hb
      · obtain ⟨us, e⟩ := h0
        exact absurd e (hb us)
      · exact absurd rfl (hb xs)
    · rw [upd_ne ha]; exact x.keep a w h hn nt hb, x.new, fun a o h nt hn => by
    by_cases ha : a = D
    · subst ha; exact ⟨_, upd_same, fun _ z => by cases z⟩
    · rw [upd_ne ha]; exact x.stay a o h nt hn⟩
variable {elt tg iter tg1 iter1 : Expr} {ifs ifs1 : List Expr} {scope : Scope} {own : List (Str × Nat)} {fi fi1 : En → Store → Res Walked} {fc fc1 : En → Store → Res Bool} {fx : En → Store → Res W} {t t1 : Tg}
/-- the second clause -/
noncomputable def twoK (fi1 : En → Store → Res Walked) (t1 : Tg) (fc1 : En → Store → Res Bool) (k : En → Store → Res (List W)) : En → Store → Res (List W) := fun en m =>
  (fi1 en m).bind fun its m1 => loopC (stillAt its.srcs) (turnC t1 fc1 k (wipeE en t1.vars)) its.items m1
theorem turnC_some {k : En → Store → Res (List W)} {en en2 : En} {w : W} (e : bindT t w en = some en2) : turnC t fc k en w m = (fc en2 m).bind fun b m => if b = true then k en2 m else .ok [] m := by unfold turnC; rw [e]
theorem turnC_none {k : En → Store → Res (List W)} {en : En} {w : W} (e : bindT t w en = none) : turnC t fc k en w m = .bad := by unfold turnC; rw [e]
theorem lc2_imp (hv : ∀ i ∈ t.vars, i ∈ own.map (·.2)) {σ : L2.St} {H : Hp} {Q : VK} : tE C Wx (lcF fi t fc (twoK fi1 t1 fc1 (oneK fx)) (own.map (·.2))) σ H Q →
    tLc2 (tI C Wx fi) (tTg C t) (tT C w0 fc) (tI C w0 fi1) (tTg C t1) (tT C w0 fc1) (tE C w0 fx) (own.map (·.2)) t1.vars σ H Q := by
  rintro ⟨ρ, en, m, E, R, P⟩
  refine ⟨ρ, en, m, E, R, ?_⟩
  have P1 := PR.gc R P
  rw [Res.bind_assoc] at P1
  refine (PR.bindC (rel := RJ C H) P1).imp fun J H0 ⟨ρ0, its, m0, x0, R0, j, P2⟩ D hD => ?_
  have E0 := (E.ext (x0.ext0 R)).wipes (own.map (·.2))
  revert P2
  generalize hen : wipeE en (own.map (·.2)) = en0 at E0 ⊢
  generalize hσ : wipe σ (own.map (·.2)) = σ0 at E0 ⊢
  intro P2
  have sD := Sm.upd (o := .lst []) hD
  refine ⟨fun i n H => n = its.items.length - i ∧ ∃ ρ m acc vacc, Ext ρ0 H0 ρ H ∧ RS C ρ H m ∧ D ∉ ρ ∧ H D = some (.lst vacc) ∧ RWs C ρ H acc vacc ∧ REn C ρ H en0 σ0 ∧
      PR C (RW C) σ Wx ρ0 H0 (Res.calm ((loopC (stillAt its.srcs) (turnC t fc (twoK fi1 t1 fc1 (oneK fx)) en0) (its.items.drop i) m).bind fun ws m => allocL (acc ++ ws) m)) Q,
    ⟨_, rfl, ρ0, m0, [], [], .of_sm sD, R0.sm sD, R0.notin hD, upd_same, .nil, E0.ext sD.ext0, P2⟩, ?_⟩
  rintro i n H1 ⟨rfl, ρ1, m1, acc, vacc, x1, R1, n1, d1, q1, E1, P3⟩
  cases ew : its.items[i]? with
  | none =>
    have hl := List.getElem?_eq_none_iff.mp ew
    rw [List.drop_eq_nil_of_le hl, loopC] at P3
    split at P3
    · rename_i hst
      refine .inl ⟨(j ρ1 H1 m1 x1.b R1 hst i).1 ew, ?_⟩
      simp only [Res.bind, List.append_nil] at P3
      unfold allocL at P3
      split at P3
      · obtain ⟨R2, q2⟩ := R1.adopt d1 n1 q1
        exact P3 _ _ _ (x1.adopt hD) R2 q2
      · exact P3.elim
    · exact P3.elim
  | some w =>
    have hl := (List.getElem?_eq_some_iff.mp ew).1
    rw [List.drop_eq_getElem_cons hl, (List.getElem?_eq_some_iff.mp ew).2, loopC] at P3
    split at P3
    · rename_i hst
      obtain ⟨j1, j2⟩ := j ρ1 H1 m1 x1.b R1 hst i
      obtain ⟨jg, jy⟩ := j2 w ew
      refine .inr ⟨jg, fun H' => its.items.length - (i + 1) < its.items.length - i ∧ ∃ ρ m acc vacc, Ext ρ0 H0 ρ H' ∧ RS C ρ H' m ∧ D ∉ ρ ∧ H' D = some (.lst vacc) ∧ RWs C ρ H' acc vacc ∧ REn C ρ H' en0 σ0 ∧
        PR C (RW C) σ Wx ρ0 H0 (Res.calm ((loopC (stillAt its.srcs) (turnC t fc (twoK fi1 t1 fc1 (oneK fx)) en0) (its.items.drop (i + 1)) m).bind fun ws m => allocL (acc ++ ws) m)) Q,
        fun H' ⟨h1, h2⟩ => ⟨_, h1, rfl, h2⟩, fun x H' hy => ?_⟩
      obtain ⟨x2, R2, q2⟩ := jy x H' hy
      have d2 : H' D = some (.lst vacc) := x2.keep D _ d1 n1 fun _ z => by cases z
      have E2 := E1.ext (x2.ext0 R1)
      have a2 := q1.mono0 (x2.ext0 R1)
      have hlt : its.items.length - (i + 1) < its.items.length - i := by omega
      rw [Res.bind_assoc] at P3
      cases eb : bindT t w en0 with
      | none =>
        rw [turnC_none eb] at P3
        exact P3.elim
      | some en2 =>
        rw [turnC_some eb, Res.bind_assoc] at P3
        refine ⟨ρ1, en0, m1, w, en2, E2, R2, q2, eb, fun σ2 E3 l3 u3 => ⟨?_, ?_⟩⟩
        · rw [hσ.symm] at l3 u3 ⊢
          exact wipe_same (σ := σ) (vs := own.map (·.2)) (σ2 := σ2) (by rw [l3, wipe_length]) fun i hi => u3 i fun z => hi (hv i z)
        · refine ⟨ρ1, en2, m1, E3, R2, (PR.bindC1 (rel := fun _ _ a b => a = b) P3).imp fun b H3 ⟨ρ3, b', m3, x3, R3, eb3, P4⟩ => ?_⟩
          subst eb3
          have n3 := x3.out d2 n1 fun _ z => by cases z
          have d3 : H3 D = some (.lst vacc) := x3.keep D _ d2 n1 fun _ z => by cases z
          have a3 := a2.mono0 (x3.ext0 R2)
          have E4 := E3.ext (x3.ext0 R2)
          have F3 := E2.ext (x3.ext0 R2)
          have y3 := (x1.trans x2).trans x3
          cases b' with
          | false =>
            rw [if_neg Bool.false_ne_true] at P4 ⊢
            rw [Res.bind_ok, Res.bind_assoc] at P4
            simp only [Res.bind_ok, List.nil_append] at P4
            exact ⟨hlt, ρ3, m3, acc, vacc, y3, R3, n3, d3, a3, F3, P4⟩
          | true =>
            rw [if_pos rfl] at P4 ⊢
            rw [show twoK fi1 t1 fc1 (oneK fx) en2 m3 = (fi1 en2 m3).bind fun its m1 => loopC (stillAt its.srcs) (turnC t1 fc1 (oneK fx) (wipeE en2 t1.vars)) its.items m1 from rfl, Res.bind_assoc] at P4
            refine ⟨ρ3, en2, m3, E4, R3, (PR.bindC1 (rel := RJ C H3) P4).imp fun J1 H4 ⟨ρ4, its1, m4, x4, R4, j1, P5⟩ => ?_⟩
            have n4 := x4.out d3 n3 fun _ z => by cases z
            have d4 : H4 D = some (.lst vacc) := x4.keep D _ d3 n3 fun _ z => by cases z
            have a4 := a3.mono0 (x4.ext0 R3)
            have F4 := F3.ext (x4.ext0 R3)
            have E5 := (E4.ext (x4.ext0 R3)).wipes t1.vars
            generalize hen2 : wipeE en2 t1.vars = en3 at P5 E5
            have hs0 : ∃ xs, H3 D = some (.lst xs) := ⟨_, d3⟩
            have P6 : PR C (RW C) σ Wx ρ0 H0 (Res.calm ((loopC (stillAt its1.srcs) (turnC t1 fc1 (oneK fx) en3) its1.items m4).bind fun xs m => (loopC (stillAt its.srcs) (turnC t fc (twoK fi1 t1 fc1 (oneK fx)) en0) (its.items.drop (i + 1)) m).bind fun ws m => allocL (acc ++ (xs ++ ws)) m)) Q := by
              simpa only [Res.bind_assoc, Res.bind_ok] using P5
            refine ⟨fun k n H => n = its1.items.length - k ∧ ∃ ρ m acc vacc, Ext ρ0 H0 ρ H ∧ ExtB H3 ρ4 H4 ρ H ∧ RS C ρ H m ∧ D ∉ ρ ∧ H D = some (.lst vacc) ∧ RWs C ρ H acc vacc ∧ REn C ρ H en0 σ0 ∧ REn C ρ H en3 (wipe σ2 t1.vars) ∧
              PR C (RW C) σ Wx ρ0 H0 (Res.calm ((loopC (stillAt its1.srcs) (turnC t1 fc1 (oneK fx) en3) (its1.items.drop k) m).bind fun xs m => (loopC (stillAt its.srcs) (turnC t fc (twoK fi1 t1 fc1 (oneK fx)) en0) (its.items.drop (i + 1)) m).bind fun ws m => allocL (acc ++ (xs ++ ws)) m)) Q,
              ⟨_, rfl, ρ4, m4, acc, vacc, y3.trans x4, (Ext.refl _ _).b, R4, n4, d4, a4, F4, E5, P6⟩, ?_⟩
            rintro k n H5 ⟨rfl, ρ5, m5, acc5, vacc5, x5, b5, R5, n5, d5, a5, F5, G5, P7⟩
            cases ew1 : its1.items[k]? with
            | none =>
              have hl1 := List.getElem?_eq_none_iff.mp ew1
              rw [List.drop_eq_nil_of_le hl1, loopC] at P7
              split at P7
              · rename_i hst1
                refine .inl ⟨(j1 ρ5 H5 m5 b5 R5 hst1 k).1 ew1, hlt, ρ5, m5, acc5, vacc5, x5, R5, n5, d5, a5, F5, ?_⟩
                simpa only [Res.bind_ok, List.nil_append] using P7
              · exact P7.elim
            | some w1 =>
              have hl1 := (List.getElem?_eq_some_iff.mp ew1).1
              rw [List.drop_eq_getElem_cons hl1, (List.getElem?_eq_some_iff.mp ew1).2, loopC] at P7
              split at P7
              · rename_i hst1
                obtain ⟨jg1, jy1⟩ := (j1 ρ5 H5 m5 b5 R5 hst1 k).2 w1 ew1
                refine .inr ⟨jg1, fun H => its1.items.length - (k + 1) < its1.items.length - k ∧ ∃ ρ m acc vacc, Ext ρ0 H0 ρ H ∧ ExtB H3 ρ4 H4 ρ H ∧ RS C ρ H m ∧ D ∉ ρ ∧ H D = some (.lst vacc) ∧ RWs C ρ H acc vacc ∧ REn C ρ H en0 σ0 ∧ REn C ρ H en3 (wipe σ2 t1.vars) ∧
                  PR C (RW C) σ Wx ρ0 H0 (Res.calm ((loopC (stillAt its1.srcs) (turnC t1 fc1 (oneK fx) en3) (its1.items.drop (k + 1)) m).bind fun xs m => (loopC (stillAt its.srcs) (turnC t fc (twoK fi1 t1 fc1 (oneK fx)) en0) (its.items.drop (i + 1)) m).bind fun ws m => allocL (acc ++ (xs ++ ws)) m)) Q,
                  fun H' ⟨h1, h2⟩ => ⟨_, h1, rfl, h2⟩, fun x H6 hy => ?_⟩
                have hlt1 : its1.items.length - (k + 1) < its1.items.length - k := by omega
                obtain ⟨x6, R6, q6⟩ := jy1 x H6 hy
                have d6 : H6 D = some (.lst vacc5) := x6.keep D _ d5 n5 fun _ z => by cases z
                cases eb1 : bindT t1 w1 en3 with
                | none =>
                  rw [turnC_none eb1] at P7
                  exact P7.elim
                | some en4 =>
                  rw [turnC_some eb1] at P7
                  simp only [Res.bind_assoc] at P7
                  refine ⟨ρ5, en3, m5, w1, en4, G5.ext (x6.ext0 R5), R6, q6, eb1, fun σ3 E6 l6 u6 => ⟨?_, ?_⟩⟩
                  · exact wipe_same (σ := σ2) (vs := t1.vars) (σ2 := σ3) (by rw [l6, wipe_length]) u6
                  · refine ⟨ρ5, en4, m5, E6, R6, (PR.bindC1 (rel := fun _ _ a b => a = b) P7).imp fun b H7 ⟨ρ7, b', m7, x7, R7, eb7, P8⟩ => ?_⟩
                    subst eb7
                    have n7 := x7.out d6 n5 fun _ z => by cases z
                    have d7 : H7 D = some (.lst vacc5) := x7.keep D _ d6 n5 fun _ z => by cases z
                    have a7 := (a5.mono0 (x6.ext0 R5)).mono0 (x7.ext0 R6)
                    have F7 := (F5.ext (x6.ext0 R5)).ext (x7.ext0 R6)
                    have G7 := (G5.ext (x6.ext0 R5)).ext (x7.ext0 R6)
                    have b7 := (b5.then x6).then x7
                    have y7 := (x5.trans x6).trans x7
                    cases b' with
                    | false =>
                      rw [if_neg Bool.false_ne_true] at P8 ⊢
                      simp only [Res.bind_ok, List.nil_append] at P8
                      exact ⟨hlt1, ρ7, m7, acc5, vacc5, y7, b7, R7, n7, d7, a7, F7, G7, P8⟩
                    | true =>
                      rw [if_pos rfl] at P8 ⊢
                      rw [show oneK fx en4 m7 = (fx en4 m7).bind fun w m => .ok [w] m from rfl, Res.bind_assoc] at P8
                      refine ⟨ρ7, en4, m7, E6.ext (x7.ext0 R6), R7, (PR.bindC1 (rel := RW C) P8).imp fun y H8 ⟨ρ8, wy, m8, x8, R8, qy, P9⟩ => ?_⟩
                      have n8 := x8.out d7 n7 fun _ z => by cases z
                      have d8 : H8 D = some (.lst vacc5) := x8.keep D _ d7 n7 fun _ z => by cases z
                      have a8 := a7.mono0 (x8.ext0 R7)
                      simp only [Res.bind_ok] at P9
                      have P10 : PR C (RW C) σ Wx ρ0 H0 (Res.calm ((loopC (stillAt its1.srcs) (turnC t1 fc1 (oneK fx) en3) (its1.items.drop (k + 1)) m8).bind fun xs m => (loopC (stillAt its.srcs) (turnC t fc (twoK fi1 t1 fc1 (oneK fx)) en0) (its.items.drop (i + 1)) m).bind fun ws m => allocL ((acc5 ++ [wy]) ++ (xs ++ ws)) m)) Q := by
                        simpa only [List.append_assoc, List.singleton_append, List.cons_append] using P9
                      have hcap : (acc5 ++ [wy]).length ≤ cap := by
                        revert P10
                        cases loopC (stillAt its1.srcs) (turnC t1 fc1 (oneK fx) en3) (its1.items.drop (k + 1)) m8 with
                        | bad => exact fun h => h.elim
                        | exc c ws m => exact fun h => h.elim
                        | ok xs m9 =>
                          intro P10
                          simp only [Res.bind_ok, ← List.append_assoc] at P10
                          have := loop_cap P10
                          simp only [List.length_append] at this ⊢
                          omega
                      rw [List.length_append, List.length_singleton] at hcap
                      have xs := Ext0.side (ys := vacc5 ++ [y]) d8 n8
                      exact ⟨vacc5, d8, by rw [← a8.length]; exact cap_lt hcap, hlt1, ρ8, m8, acc5 ++ [wy], vacc5 ++ [y], (y7.trans x8).side hD n8, (b7.then x8).side hs0 d4, R8.side d8 n8, n8, upd_same,
                        (a8.append (RWs.cons qy RWs.nil)).mono0 xs, (F7.ext (x8.ext0 R7)).ext xs, (G7.ext (x8.ext0 R7)).ext xs, P10⟩
              · exact P7.elim
    · exact P3.elim
theorem l_lc2 (hc : X.calm = true) (hN : X.N.Nodup) (hns : nset iter = true) (hns1 : nset iter1 = true) (hi : PI X tg iter (tI C Wx fi)) (ok : BlkOk X.N X.env.scope scope own) (hv : ∀ i ∈ t.vars, i ∈ own.map (·.2)) (hv1 : ∀ i ∈ t1.vars, i ∈ own.map (·.2))
    (hg : ∀ (s : Shared) (H : Hp) (A : Addr) (cl : List (Str × Addr)) (fp : List Addr), PG (X.blk s H scope (compEnvC scope cl A X.env) fp) tg (tTg C t))
    (ht : ∀ (s : Shared) (H : Hp) (A : Addr) (cl : List (Str × Addr)) (fp : List Addr), PTs (X.blk s H scope (compEnvC scope cl A X.env) fp) ifs (tT C w0 fc))
    (hi1 : ∀ (s : Shared) (H : Hp) (A : Addr) (cl : List (Str × Addr)) (fp : List Addr), PI (X.blk s H scope (compEnvC scope cl A X.env) fp) tg1 iter1 (tI C w0 fi1))
    (hg1 : ∀ (s : Shared) (H : Hp) (A : Addr) (cl : List (Str × Addr)) (fp : List Addr), PG (X.blk s H scope (compEnvC scope cl A X.env) fp) tg1 (tTg C t1))
    (ht1 : ∀ (s : Shared) (H : Hp) (A : Addr) (cl : List (Str × Addr)) (fp : List Addr), PTs (X.blk s H scope (compEnvC scope cl A X.env) fp) ifs1 (tT C w0 fc1))
    (hx : ∀ (s : Shared) (H : Hp) (A : Addr) (cl : List (Str × Addr)) (fp : List Addr), PE (X.blk s H scope (compEnvC scope cl A X.env) fp) elt (tE C w0 fx)) :
    PE X (.ListComp elt [⟨tg, iter, ifs, 0⟩, ⟨tg1, iter1, ifs1, 0⟩] scope pos) (tE C Wx (lcF fi t fc (twoK fi1 t1 fc1 (oneK fx)) (own.map (·.2)))) :=
  PE_imp (pe_lc2 hc hN hi ok hv1 hg ht hi1 hg1 ht1 hx (ns_of hns) (fun _ => ns_of hns1)) fun σ H Q h => lc2_imp hv h
theorem s_lc2 {E0 : XK} {i : Nat} {y : Str} {py spos : Pos} (hc : X.calm = true) (hN : X.N.Nodup) (hy : X.N[i]? = some y) (hyl : X.env.scope.names.lookup y = some .local)
    (hsw : swapsWith (.ListComp elt [⟨tg, iter, ifs, 0⟩, ⟨tg1, iter1, ifs1, 0⟩] scope pos) (some (.Name y py)) spos.line X.env = pure true) (hns : nset iter = true) (hns1 : nset iter1 = true) (hi : PI X tg iter (tI C (wx E0) fi)) (ok : BlkOk X.N X.env.scope scope own) (hv : ∀ i ∈ t.vars, i ∈ own.map (·.2)) (hv1 : ∀ i ∈ t1.vars, i ∈ own.map (·.2))
    (hg : ∀ (s : Shared) (H : Hp) (A : Addr) (cl : List (Str × Addr)) (fp : List Addr), PG (X.blk s H scope (compEnvC scope cl A X.env) fp) tg (tTg C t))
    (ht : ∀ (s : Shared) (H : Hp) (A : Addr) (cl : List (Str × Addr)) (fp : List Addr), PTs (X.blk s H scope (compEnvC scope cl A X.env) fp) ifs (tT C w0 fc))
    (hi1 : ∀ (s : Shared) (H : Hp) (A : Addr) (cl : List (Str × Addr)) (fp : List Addr), PI (X.blk s H scope (compEnvC scope cl A X.env) fp) tg1 iter1 (tI C w0 fi1))
    (hg1 : ∀ (s : Shared) (H : Hp) (A : Addr) (cl : List (Str × Addr)) (fp : List Addr), PG (X.blk s H scope (compEnvC scope cl A X.env) fp) tg1 (tTg C t1))
    (ht1 : ∀ (s : Shared) (H : Hp) (A : Addr) (cl : List (Str × Addr)) (fp : List Addr), PTs (X.blk s H scope (compEnvC scope cl A X.env) fp) ifs1 (tT C w0 fc1))
    (hx : ∀ (s : Shared) (H : Hp) (A : Addr) (cl : List (Str × Addr)) (fp : List Addr), PE (X.blk s H scope (compEnvC scope cl A X.env) fp) elt (tE C w0 fx)) :
    PS X (.Assign [.Name y py] (.ListComp elt [⟨tg, iter, ifs, 0⟩, ⟨tg1, iter1, ifs1, 0⟩] scope pos) spos) (tS C E0 fun en m => (lcF fi t fc (twoK fi1 t1 fc1 (oneK fx)) (own.map (·.2)) en m).st fun w m => match bindT (.v i) w en with
      | some en => .nx en m
      | none => .bad) := by
  refine PS_imp (ps_setLc2 hc hN hy hyl hsw hi ok hv1 hg ht hi1 hg1 ht1 hx (ns_of hns) (fun _ => ns_of hns1)) fun D σ H ⟨ρ, en, m, E, R, P⟩ => ?_
  refine lc2_imp hv ⟨ρ, en, m, E, R, (PSR.st (rel := RW C) P).imp fun v H1 ⟨ρ1, w, m1, x, R1, q, P1⟩ => ?_⟩
  have key : bindT (.v i) w en = if i < en.length then some (en.set i (some w)) else none := by rw [bindT]
  rw [key] at P1
  by_cases hl : i < en.length
  · rw [if_pos hl] at P1
    exact PSR.here R1 ((E.ext (x.ext0 R)).put q) P1
  · rw [if_neg hl] at P1
    exact P1.elim
end
end Ev

set_option Elab.async false
set_option linter.all false
set_option maxRecDepth 100000
set_option maxHeartbeats 4000000
/-! Calls. -/
namespace Ev
open PySem PySem.Spec PyProof.Rows L2
open Classical
abbrev ss (l : List String) : List Str := l.map fun s : String => (s : Str)
/-- what a def of n parameters that the evaluator runs as f promises -/
def spOf (C : Cf) (n : Nat) (f : List W → Store → Res W) : Sp := fun vs H Q E => vs.length = n ∧ ∃ σ ρ m ws, RS C ρ H m ∧ RWs C ρ H ws vs ∧ PR C (RW C) σ (wx E) ρ H (f ws m) Q
/-- every parameter is given by its name, in order -/
def gK {α : Type} (us ws : List α) : List α := match us with
  | [] => ws
  | _ => []
structure FnE (C : Cf) (P : Program) (w : World) (K : PySem.W.Frag) (mg : Str → Option Value) (base : Heap) (call : Call) (f : String) (df : Def) (j : Nat) : Prop where
  ex : ∃ (fa : Addr) (fd : FuncData), mg (f : Str) = some (.ref fa) ∧ PySem.W.keepIn K (.ref fa) = true ∧ Binds K fd (ss df.ps) [] ∧ (df.kw = true → KBinds K fd (ss df.ps) (ss df.ps) gK gK) ∧
    FnOk P w K mg base (L2.CX P w) j fa fd (ss df.ps) (spOf C df.ps.length (call f))
section
variable {C : Cf} {X : Cx} {E0 : XK} {σ σ' : L2.St} {ρ ρ1 : List Addr} {H H1 : Hp} {m m1 : Store} {pos p : Pos}
variable {a b e : Expr} {es : List Expr} {fe fa fb : En → Store → Res W} {fs : En → Store → Res (List W)} {call : Call} {f : String} {df : Def} {j : Nat} {x : Str}
theorem passes_wx (tk : Takes X (wx E0)) : Passes (L2.CX X.prog X.w) X E0 := passes_call tk fun _ _ _ _ h => h
theorem l_call (tk : Takes X (wx E0)) (F : FnE C X.prog X.w X.K X.mg X.base call f df j) (hr : Room j X.A) (hlen : ∀ ws m, call f ws m ≠ .bad → ws.length = df.ps.length) (hx : x = (f : Str)) (hg : Gl X x) (hdb : (x == ("__debug__" : Str)) = false) (hs : (e :: es).all nst = true) (ha : PA X (e :: es) (tAs C (wx E0) fs)) :
    PE X (.Call (.Name x p) (e :: es) [] pos) (tE C (wx E0) fun en m => gc m ((fs en m).bind fun ws m => call f ws m)) := by
  obtain ⟨ad, fd, h1, h2, h3, _, h4⟩ := F.ex
  rw [List.all_cons, Bool.and_eq_true] at hs
  refine PE_imp (pe_call (dvs := []) h4 hr hg (by rw [hx]; exact h1) h2 h3 .nil (passes_wx tk) ha hdb (star_of hs.1) (stars_of hs.2)) fun σ H Q ⟨ρ, en, m, E, R, P⟩ => ?_
  refine ⟨ρ, en, m, E, R, (PR.gc R P).then fun v H1 ρ1 ws m1 x R1 q P1 => ?_⟩
  rw [List.append_nil]
  refine ⟨?_, σ, ρ1, m1, ws, R1, q, P1⟩
  rw [← q.length]
  exact hlen ws m1 fun z => by rw [z] at P1; exact P1.elim
theorem l_call0 (tk : Takes X (wx E0)) (F : FnE C X.prog X.w X.K X.mg X.base call f df j) (hr : Room j X.A) (hlen : ∀ ws m, call f ws m ≠ .bad → ws.length = df.ps.length) (hx : x = (f : Str)) (hg : Gl X x) (hdb : (x == ("__debug__" : Str)) = false) :
    PE X (.Call (.Name x p) [] [] pos) (tE C (wx E0) fun en m => gc m ((Res.ok [] m).bind fun ws m => call f ws m)) := by
  obtain ⟨ad, fd, h1, h2, h3, _, h4⟩ := F.ex
  refine PE_imp (pe_call0 (dvs := []) h4 hr hg (by rw [hx]; exact h1) h2 h3 .nil (passes_wx tk) hdb) fun σ H Q ⟨ρ, en, m, E, R, P⟩ => ?_
  have P1 := PR.gc R P
  refine ⟨?_, σ, ρ, m, [], R, RWs.nil, P1⟩
  have := hlen [] m fun z => by rw [Res.bind_ok, z] at P1; exact P1.elim
  simpa using this
theorem run_k0 {CX : CXT} {k : Nat} {fa : Addr} {fd : FuncData} {ps ks : List Str} {sp : Sp} {E : XK} {kws : List Keyword} {tk : TA} {g : List Value → List Value → List Value} {gV : List V → List V → List V} (F : FnOk X.prog X.w X.K X.mg X.base CX k fa fd ps sp) (hr : Room k X.A) (hg : Gl X x) (hm : X.mg x = some (.ref fa)) (hk : PySem.W.keepIn X.K (.ref fa) = true) (hb : KBinds X.K fd ps ks g gV) (hx : Passes CX X E)
    (hkw : PK X kws tk) (hall : (backToKw pos (keywordEach kws X.env)).all (·.1.isSome) = true) (hks : (backToKw pos (keywordEach kws X.env)).filterMap (·.1) = ks) (hdb : (x == ("__debug__" : Str)) = false)
    (hpl : ((backTo pos (starEach [] X.env)).any (·.1) || (backToKw pos (keywordEach kws X.env)).any (·.1.isNone)) = false) : PE X (.Call (.Name x p) [] kws pos) (fun σ H Q => tk σ H fun zs H2 => sp (gV [] zs) H2 Q E) := by
  refine ⟨fun pins s σ H Q I h => wpAny_Call_Name_kw (ld_glob I hg hm ?_ hdb)⟩
  refine PySem.W.callWith_KW0 (h₀ := X.base) I.ok.mod.kin hk hall (thn (hkw.run pos pins s σ H _ I h) fun ws s2 ⟨zs, H2, I2, rz, q2⟩ => ⟨I2.kIn, ?_⟩) hpl
  rw [hks]
  exact run_fnk (us := []) (vs := []) F hr hb hx I2 .nil rz q2
theorem PK_imp {kws : List Keyword} {t t' : TA} (h : PK X kws t) (i : ∀ σ H Q, t' σ H Q → t σ H Q) : PK X kws t' := ⟨fun pos pins s σ H Q I q => h.run pos pins s σ H Q I (i σ H Q q)⟩
theorem k_nil {Wx : WX} : PK X [] (tAs C Wx fun _ m => .ok [] m) := PK_imp pk_nil fun σ H Q ⟨ρ, en, m, E, R, P⟩ => P.here R RWs.nil
theorem k_cons {Wx : WX} {nm : Option Str} {kp : Pos} {kws : List Keyword} (ha : PE X a (tE C Wx fa)) (hr : PK X kws (tAs C Wx fs)) : PK X (⟨nm, a, kp⟩ :: kws) (tAs C Wx fun en m => (fa en m).bind fun w m => (fs en m).bind fun ws m => .ok (w :: ws) m) := by
  refine PK_imp (pk_cons ha hr) fun σ H Q ⟨ρ, en, m, E, R, P⟩ => ?_
  exact ⟨ρ, en, m, E, R, PR.then (rel := RW C) P fun v H1 ρ1 w m1 x R1 q P1 => ⟨ρ1, en, m1, E.ext (x.ext0 R), R1, PR.then (rel := RWs C) P1 fun v2 H2 ρ2 w2 m2 x2 R2 q2 P2 => P2.here R2 (RWs.cons (q.mono0 (x2.ext0 R1)) q2)⟩⟩
theorem kws_facts {env : Env} : ∀ {kws : List Keyword} {ks : List Str}, kws.map (fun k : Keyword => k.1) = ks.map some → (backToKw pos (keywordEach kws env)).all (·.1.isSome) = true ∧ (backToKw pos (keywordEach kws env)).filterMap (·.1) = ks ∧ (backToKw pos (keywordEach kws env)).any (·.1.isNone) = false
  | [], ks, h => by cases ks <;> simp at h <;> exact ⟨rfl, rfl, rfl⟩
  | ⟨nm, v, kp⟩ :: kws, ks, h => by
    cases ks with
    | nil => simp at h
    | cons k ks =>
      simp only [List.map_cons, List.cons.injEq] at h
      obtain ⟨h1, h2⟩ := h
      have h1 : nm = some k := h1
      subst h1
      obtain ⟨i1, i2, i3⟩ := kws_facts (env := env) h2
      have e : backToKw pos (keywordEach (⟨some k, v, kp⟩ :: kws) env) = (some k, (do let v ← eval v env; standAt pos; pure v)) :: backToKw pos (keywordEach kws env) := rfl
      rw [e]
      refine ⟨?_, ?_, ?_⟩
      · rw [List.all_cons, i1]; rfl
      · rw [List.filterMap_cons, i2]
      · rw [List.any_cons, i3]; rfl
theorem l_callk {kws : List Keyword} (tk : Takes X (wx E0)) (F : FnE C X.prog X.w X.K X.mg X.base call f df j) (hr : Room j X.A) (hlen : ∀ ws m, call f ws m ≠ .bad → ws.length = df.ps.length) (hx : x = (f : Str)) (hg : Gl X x) (hdb : (x == ("__debug__" : Str)) = false) (h0 : df.kw = true)
    (hks : kws.map (fun k : Keyword => k.1) = (ss df.ps).map some) (ha : PK X kws (tAs C (wx E0) fs)) :
    PE X (.Call (.Name x p) [] kws pos) (tE C (wx E0) fun en m => gc m ((fs en m).bind fun ws m => call f ws m)) := by
  obtain ⟨ad, fd, h1, h2, _, h3, h4⟩ := F.ex
  obtain ⟨i1, i2, i3⟩ := kws_facts (pos := pos) (env := X.env) hks
  refine PE_imp (run_k0 h4 hr hg (by rw [hx]; exact h1) h2 (h3 h0) (passes_wx tk) ha i1 i2 hdb (by rw [i3]; rfl)) fun σ H Q ⟨ρ, en, m, E, R, P⟩ => ?_
  refine ⟨ρ, en, m, E, R, (PR.gc R P).then fun v H1 ρ1 ws m1 x R1 q P1 => ?_⟩
  refine ⟨?_, σ, ρ1, m1, ws, R1, q, P1⟩
  show v.length = _
  rw [← q.length]
  exact hlen ws m1 fun z => by rw [z] at P1; exact P1.elim
/-! ### raise -/
/-- an own exception class without own __init__ -/
structure ExE (C : Cf) (K : PySem.W.Frag) (mg : Str → Option Value) (c : String) : Prop where
  mg : mg (c : Str) = some (.ref (C.ca c))
  ex : PySem.W.excIn K (C.ca c) He.veBase "ValueError.__new__" = true
  kp : PySem.W.keepIn K (.ref (C.ca c)) = true
  sub : PySem.W.subIn K (.ref (C.ca c)) (.type "BaseException") = some true
  ty : PySem.W.typeIn K (.ref (C.ca c)) = some (.type "type")
theorem s_rse {c : String} {msg : Str} {k : Nat} {p2 pos' : Pos} (tk : Takes X (wx E0)) (hc : X.calm = true) (G : ExE C X.K X.mg c) (hx : x = (c : Str)) (hg : Gl X x) (hdb : (x == ("__debug__" : Str)) = false) :
    PS X (.Raise (some (.Call (.Name x p) [.Constant (.str msg) k p2] [] pos)) none pos') (tS C E0 fun _ m => .exc c [] m) := by
  refine PS_imp (ps_raise hc tk (pmk_own PySem.F.excBase_ValueError G.ex (by rw [hx]; exact G.mg) G.kp (raises_own G.sub G.ty) hg hdb)) fun D σ H ⟨ρ, en, m, E, R, P⟩ => ?_
  exact P none ρ H (.refl _ _) R (.inl ⟨rfl, rfl⟩)
end
end Ev

set_option Elab.async false
set_option linter.all false
set_option maxRecDepth 100000
set_option maxHeartbeats 4000000
/-! isinstance, dicts' displays, the built-ins by name. -/
namespace Ev
open PySem PySem.Spec PyProof.Rows L2
open Classical
/-! ### isinstance -/
def tyStr : Ty → String
  | .int => "int"
  | .bool => "bool"
  | .tuple => "tuple"
  | .str => "str"
  | .list => "list"
  | .dict => "dict"
  | .cls c => c
def Ty.bi : Ty → Bool
  | .cls _ => false
  | _ => true
theorem kit_bi : ∀ (n t : Ty), n.bi = true → t.bi = true → kitB (tyStr n) (tyStr t) = some (tySub n t) := by
  intro n t hn ht
  cases n <;> cases t <;> first | decide +kernel | exact Bool.noConfusion (show false = true from hn) | exact Bool.noConfusion (show false = true from ht)
theorem kit_non : ∀ (t : Ty), t.bi = true → kitB "NoneType" (tyStr t) = some false := by
  intro t ht
  cases t <;> first | decide +kernel | exact Bool.noConfusion (show false = true from ht)
section
variable {C : Cf} {X : Cx} {Wx : WX} {E0 : XK} {σ σ' : L2.St} {ρ ρ1 : List Addr} {H H1 : Hp} {m m1 : Store} {pos p p2 : Pos}
variable {a b e : Expr} {es : List Expr} {fe fa fb : En → Store → Res W} {fs : En → Store → Res (List W)} {x y : Str}
theorem tyX_of {K : PySem.W.Frag} {w : W} {v : V} {n : Ty} (R : RS C ρ H m) (q : RW C ρ H w v) (h : tyName m w = some n) : n.bi = true ∧ TyX K H v (.type (tyStr n)) := by
  cases w <;> simp only [tyName, reduceCtorEq, Option.some.injEq] at h
  · subst h; rw [q.bl_iff]; exact ⟨rfl, .base (.bl _)⟩
  · subst h; rw [q.int_iff]; exact ⟨rfl, .base (.int _)⟩
  · subst h; rw [q.str_iff]; exact ⟨rfl, .base (.str _)⟩
  · subst h
    obtain ⟨a, vs, rfl, ea, _⟩ := q.tup_iff
    exact ⟨rfl, .base (.tup ea)⟩
  · split at h
    · rename_i e
      cases h
      obtain ⟨a, vs, rfl, ea, hs, _⟩ := R.lst q e
      exact ⟨rfl, .base (.lst hs)⟩
    · rename_i e
      cases h
      obtain ⟨a, ea, rfl⟩ := q.ref_iff
      rcases R.obj _ _ a e ea with ⟨ks, h1, h2, h3⟩ | ⟨h0, _⟩
      · exact ⟨rfl, .base (.dK h1)⟩
      · exact absurd rfl h0
    · cases h
/-- what is asked of the classes -/
structure TyE (C : Cf) (K : PySem.W.Frag) (mg : Str → Option Value) (subc : String → String → Option Bool) (c : String) : Prop where
  mg : mg (c : Str) = some (.ref (C.ca c))
  bi : ∀ n : Ty, n.bi = true → PySem.W.kitOne K (.type (tyStr n)) (.ref (C.ca c)) = some false
  non : PySem.W.kitOne K (.type "NoneType") (.ref (C.ca c)) = some false
  exc : ∀ d b, subc d c = some b → ExcC K (C.ca d) ∧ PySem.W.kitOne K (.ref (C.ca d)) (.ref (C.ca c)) = some b ∧ PySem.W.exmOne K (.ref (C.ca d)) (.ref (C.ca c)) = some b
theorem ext_at {P : Program} {w : World} {h : Heap} {d : Option Addr} {a c : Addr} (ok : ObjOk P w H h a (ExcO a c d)) : ∃ o vs, h.get? a = some o ∧ o.cls = .ref c ∧ o.dict = d ∧ o.data = .fields vs := by
  obtain ⟨⟨o, vs, h1, h2, h3, h4⟩, _⟩ := ok
  exact ⟨o, vs, h1, h2, h3, h4⟩
theorem so_isiC {subc : String → String → Option Bool} {c : String} (G : TyE C X.K X.mg subc c) :
    CallR X (.builtin "isinstance") (fun xs H Q => ∃ σ Wx ρ m a x, xs = [x, .ref (C.ca c)] ∧ RS C ρ H m ∧ RW C ρ H a x ∧ PR C (RW C) σ Wx ρ H ((Res.of (tyIs subc (.cls c) a m) m).bind fun t m => .ok (.bl t) m) Q) := by
  intro pins s σ H xs us Q I r h
  obtain ⟨σ', Wx, ρ, m, a, x, rfl, R, q, P⟩ := h
  have base : ∀ {t : Value} {b : Bool}, TyX X.K H x t → PySem.W.kitOne X.K t (.ref (C.ca c)) = some b → Q (.bl b) H → wpAny (model X.prog X.w) X.A (call (.builtin "isinstance") us) (EP X pins σ Q) X.xe s :=
    fun {t b} ty k hq => call_isi pins s σ H _ us Q I r ⟨x, .ref (C.ca c), t, _, b, rfl, .own _, ty, k, hq⟩
  obtain ⟨t, e1, P1⟩ : ∃ t, tyIs subc (.cls c) a m = some t ∧ Q (.bl t) H := by
    cases e : tyIs subc (.cls c) a m with
    | none => rw [e] at P; exact P.elim
    | some t => rw [e] at P; exact ⟨t, rfl, PR.here R RW.bl P⟩
  cases a with
  | obj d ws => simp [tyIs] at e1
  | non =>
    simp only [tyIs, Option.some.injEq] at e1
    subst e1
    rw [q.non_iff] at base
    exact base (.base .non) G.non P1
  | exc d ws =>
    obtain rfl : ws = [] := by
      cases ws with
      | nil => rfl
      | cons u us => simp [tyIs] at e1
    obtain ⟨hE, hk, _⟩ := G.exc d t e1
    rw [RW] at q
    obtain ⟨ad, dd, rfl, hn, eh, q⟩ := q
    have e0 : dd = none := by
      rcases q with ⟨_, q⟩ | ⟨dx, fs, hne, _, _, hl, hr⟩
      · exact q
      · exact absurd rfl hne.2
    subst e0
    obtain ⟨o, vs, h1, h2, h3, h4⟩ := ext_at (I.hok ad _ eh)
    obtain ⟨u1, u2, rfl, r1, r2⟩ := vals2 r
    obtain rfl : u1 = .ref ad := r1
    obtain rfl : u2 = .ref (C.ca c) := r2
    refine PySem.W.kia_one (PySem.W.handS_kitx_exc (ox := o) hE.hg hE.hk hE.hs hE.hd hE.ha hE.hn hE.ht hE.hm) I.kIn ⟨h1, h2, by unfold PySem.W.notCls; rw [h4], by rw [h3]; trivial⟩ hk (fun z => nomatch z) fun tk => ⟨.bl _, H, I.tok tk, rfl, P1⟩
  | bl z =>
    obtain ⟨n, e2, e3⟩ := Option.map_eq_some_iff.mp (show (tyName m (.bl z)).map (fun _ => false) = some t from e1)
    subst e3
    obtain ⟨hb, ty⟩ := tyX_of (K := X.K) R q e2
    exact base ty (G.bi n hb) P1
  | int z =>
    obtain ⟨n, e2, e3⟩ := Option.map_eq_some_iff.mp (show (tyName m (.int z)).map (fun _ => false) = some t from e1)
    subst e3
    obtain ⟨hb, ty⟩ := tyX_of (K := X.K) R q e2
    exact base ty (G.bi n hb) P1
  | str z =>
    obtain ⟨n, e2, e3⟩ := Option.map_eq_some_iff.mp (show (tyName m (.str z)).map (fun _ => false) = some t from e1)
    subst e3
    obtain ⟨hb, ty⟩ := tyX_of (K := X.K) R q e2
    exact base ty (G.bi n hb) P1
  | tup z =>
    obtain ⟨n, e2, e3⟩ := Option.map_eq_some_iff.mp (show (tyName m (.tup z)).map (fun _ => false) = some t from e1)
    subst e3
    obtain ⟨hb, ty⟩ := tyX_of (K := X.K) R q e2
    exact base ty (G.bi n hb) P1
  | ref _ =>
    obtain ⟨n, e2, e3⟩ := Option.map_eq_some_iff.mp (show (tyName m _).map (fun _ => false) = some t from e1)
    subst e3
    obtain ⟨hb, ty⟩ := tyX_of (K := X.K) R q e2
    exact base ty (G.bi n hb) P1
/-- a built-in type -/
theorem l_isi {subc : String → String → Option Bool} (t : Ty) (ht : t.bi = true) (hg : Gl X "isinstance") (hm : X.mg "isinstance" = none) (hs : nst a = true) (hg2 : Gl X x) (hm2 : X.mg x = none) (hv : bootBuiltins x = some (.type (tyStr t))) (hn : x ≠ "__name__") (hdb : (x == ("__debug__" : Str)) = false) (ha : PE X a (tE C Wx fa)) :
    PE X (.Call (.Name "isinstance" p) [a, .Name x p2] [] pos) (tE C Wx fun en m => gc m ((fa en m).bind fun x m => (Res.of (tyIs subc t x m) m).bind fun t m => .ok (.bl t) m)) := by
  refine PE_imp (pe_callB call_isi hg hm boot_isinstance (pa_cons ha (pa_cons (pe_bltn (v := .ty (tyStr t)) hg2 hm2 hv rfl hn hdb) pa_nil (star_of rfl)) (star_of hs)) (by decide) (by decide) (star_of hs) rfl) fun σ H Q ⟨ρ, en, m, E, R, P⟩ => ?_
  refine ⟨ρ, en, m, E, R, (PR.gc R P).then fun v H1 ρ1 w m1 x R1 q P1 => ?_⟩
  obtain ⟨b, e1, P2⟩ := PR_of P1
  have P3 := PR.here R1 RW.bl P2
  by_cases hw : w = .non
  · subst hw
    have : b = false := by
      cases t <;> first | exact Bool.noConfusion (show false = true from ht) | (simp only [tyIs, Option.some.injEq] at e1; exact e1.symm)
    subst this
    rw [q.non_iff]
    exact ⟨_, _, _, _, _, rfl, .ty _, .base .non, kit_ty (kit_non t ht), P3⟩
  · obtain ⟨n, e2, e3⟩ : ∃ n, tyName m1 w = some n ∧ b = tySub n t := by
      have : (tyName m1 w).map (fun n => tySub n t) = some b := by
        cases t <;> first | exact Bool.noConfusion (show false = true from ht) | (cases w <;> first | exact absurd rfl hw | exact e1)
      obtain ⟨n, h1, h2⟩ := Option.map_eq_some_iff.mp this
      exact ⟨n, h1, h2.symm⟩
    subst e3
    obtain ⟨hb, ty⟩ := tyX_of (K := X.K) R1 q e2
    exact ⟨_, _, _, _, _, rfl, .ty _, ty, kit_ty (kit_bi n t hb ht), P3⟩
/-- an own class -/
theorem l_isiC {subc : String → String → Option Bool} {c : String} (G : TyE C X.K X.mg subc c) (hg : Gl X "isinstance") (hm : X.mg "isinstance" = none) (hs : nst a = true) (hx : x = (c : Str)) (hg2 : Gl X x) (hdb : (x == ("__debug__" : Str)) = false) (ha : PE X a (tE C Wx fa)) :
    PE X (.Call (.Name "isinstance" p) [a, .Name x p2] [] pos) (tE C Wx fun en m => gc m ((fa en m).bind fun x m => (Res.of (tyIs subc (.cls c) x m) m).bind fun t m => .ok (.bl t) m)) := by
  refine PE_imp (pe_callB (so_isiC G) hg hm boot_isinstance (pa_cons ha (pa_cons (pe_glob (v := .ref (C.ca c)) hg2 (by rw [hx]; exact G.mg) rfl hdb) pa_nil (star_of rfl)) (star_of hs)) (by decide) (by decide) (star_of hs) rfl) fun σ H Q ⟨ρ, en, m, E, R, P⟩ => ?_
  exact ⟨ρ, en, m, E, R, (PR.gc R P).then fun v H1 ρ1 w m1 x R1 q P1 => ⟨σ, Wx, ρ1, m1, w, v, rfl, R1, q, P1⟩⟩
/-! ### dicts' displays -/
theorem Ext0.sideG {D : Addr} {u o : HO} (hD : H D = some u) (nf : ¬ Fx D u) (nt : ∀ vs, u ≠ .tup vs) : Ext0 ρ H ρ (upd H D o) :=
  ⟨fun n a h => h, fun a vs h => by
    rw [upd_ne (fun z => by
      subst z
      rw [hD] at h
      cases h
      exact nt _ rfl)]
    exact h, fun a o h ha fx => ⟨by
    rw [upd_ne (fun z => by
      subst z
      rw [hD] at h
      cases h
      exact nf fx)]
    exact h, ha⟩⟩
theorem RS.sideG {D : Addr} {u o : HO} (R : RS C ρ H m) (hD : H D = some u) (nx : ¬ Tx D u) (nf : ¬ Fx D u) (nt : ∀ vs, u ≠ .tup vs) (hn : D ∉ ρ) : RS C ρ (upd H D o) m :=
  ⟨R.len, R.nd, fun n b a e ea => (R.obj n b a e ea).mono0 (Ext0.sideG hD nf nt) (upd_ne fun z => hn (by rw [← z]; exact List.mem_of_getElem? ea)), tabs_upd R.tabs hD nx⟩
theorem Ext0.adoptG {D : Addr} {u : HO} (hD : H D = some u) (nf : ¬ Fx D u) : Ext0 ρ H (ρ ++ [D]) H :=
  ⟨fun n a h => by rw [List.getElem?_append_left (List.getElem?_eq_some_iff.mp h).1]; exact h, fun a vs h => h, fun a o h ha fx => ⟨h, fun z => by
    rcases List.mem_append.mp z with z | z
    · exact ha z
    · rw [List.mem_singleton.mp z, hD] at h
      cases h
      rw [List.mem_singleton.mp z] at fx
      exact nf fx⟩⟩
theorem RS.adoptG {D : Addr} {u : HO} {b : MObj} (R : RS C ρ H m) (hD : H D = some u) (nf : ¬ Fx D u) (hn : D ∉ ρ) (q : RO C (ρ ++ [D]) H b D) : RS C (ρ ++ [D]) H (m ++ [b]) ∧ RW C (ρ ++ [D]) H (.ref m.length) (.ref D) := by
  have x := Ext0.adoptG (ρ := ρ) hD nf
  have el : (ρ ++ [D])[m.length]? = some D := by rw [← R.len]; simp
  refine ⟨⟨by simp [R.len], List.nodup_append.mpr ⟨R.nd, by simp, fun a ha b hb => ?_⟩, fun n o a e ea => ?_, R.tabs⟩, by rw [RW]; exact ⟨D, el, rfl⟩⟩
  · rw [List.mem_singleton.mp hb]
    exact fun z => hn (by rw [← z]; exact ha)
  · by_cases hl : n < m.length
    · rw [List.getElem?_append_left hl] at e
      rw [List.getElem?_append_left (by rw [R.len]; exact hl)] at ea
      exact (R.obj n o a e ea).mono0 x rfl
    · have hn2 : n = m.length := by
        have := (List.getElem?_eq_some_iff.mp e).1
        simp at this
        omega
      subst hn2
      rw [el] at ea
      cases ea
      simp at e
      cases e
      exact q
theorem notFx_dK {D : Addr} {kvs : List (Key × V)} : ¬ Fx D (.dK kvs) := fun h => by
  rcases h with ⟨_, _, _, q⟩ | ⟨_, _, q⟩ | ⟨_, q⟩
  · cases q
  · unfold ExcO at q; cases q
  · cases q
theorem notTx_dK {D : Addr} {kvs : List (Key × V)} : ¬ Tx D (.dK kvs) := fun h => by
  rcases h with ⟨_, q⟩ | ⟨_, q⟩ <;> cases q
/-- pairs -/
def RPs (C : Cf) (ρ : List Addr) (H : Hp) (kvs : List (W × W)) (ps : List (V × V)) : Prop := RWs C ρ H (kvs.map (·.1)) (ps.map (·.1)) ∧ RWs C ρ H (kvs.map (·.2)) (ps.map (·.2))
def tPs (C : Cf) (Wx : WX) (f : En → Store → Res (List (W × W))) (σ : L2.St) (H : Hp) (Q : List (V × V) → Hp → Prop) : Prop := ∃ ρ en m, REn C ρ H en σ ∧ RS C ρ H m ∧ PR C (RPs C) σ Wx ρ H (f en m) Q
def PD (C : Cf) (Wx : WX) (X : Cx) (pos : Pos) (keys : List (Option Expr)) (vals : List Expr) (f : En → Store → Res (List (W × W))) : Prop := ∃ trs, PPs X pos keys vals trs ∧ ∀ σ H Q, tPs C Wx f σ H Q → tPairs trs σ H Q
variable {ks : List (Option Expr)} {vs : List Expr} {fp : En → Store → Res (List (W × W))}
theorem d_nil : PD C Wx X pos [] [] (fun _ m => .ok [] m) := ⟨[], pps_nil, fun σ H Q ⟨ρ, en, m, E, R, P⟩ => P.here R ⟨.nil, .nil⟩⟩
theorem d_cons (ha : PE X a (tE C Wx fa)) (hb : PE X b (tE C Wx fb)) (hr : PD C Wx X pos ks vs fp) : PD C Wx X pos (some a :: ks) (b :: vs) (fun en m => (fa en m).bind fun kw m => (fb en m).bind fun w m => (fp en m).bind fun ps m => .ok ((kw, w) :: ps) m) := by
  obtain ⟨trs, h1, h2⟩ := hr
  refine ⟨_, pps_cons ha hb h1, fun σ H Q ⟨ρ, en, m, E, R, P⟩ => ?_⟩
  refine ⟨ρ, en, m, E, R, PR.then (rel := RW C) P fun v H1 ρ1 w m1 x R1 q P1 => ?_⟩
  refine ⟨ρ1, en, m1, E.ext (x.ext0 R), R1, PR.then (rel := RW C) P1 fun v2 H2 ρ2 w2 m2 x2 R2 q2 P2 => ?_⟩
  refine h2 _ _ _ ⟨ρ2, en, m2, (E.ext (x.ext0 R)).ext (x2.ext0 R1), R2, PR.then (rel := RPs C) P2 fun ps H3 ρ3 w3 m3 x3 R3 q3 P3 => P3.here R3 ?_⟩
  exact ⟨RWs.cons ((q.mono0 (x2.ext0 R1)).mono0 (x3.ext0 R2)) q3.1, RWs.cons (q2.mono0 (x3.ext0 R2)) q3.2⟩
theorem keys_of {ρ : List Addr} {H : Hp} : ∀ {kvs : List (W × W)} {ps : List (V × V)}, (∀ p ∈ kvs, p.1.keyb = true ∧ p.1.isT = false) → RPs C ρ H kvs ps → ∃ ks : List (Key × V), ps = ks.map (fun kv => (kV kv.1, kv.2)) ∧ kvs.map (·.1) = ks.map (fun p => keyW p.1) ∧ RWs C ρ H (kvs.map (·.2)) (ks.map (·.2))
  | [], ps, _, h => by
    have : ps = [] := by have := h.1.nil_iff; simpa using this
    subst this
    exact ⟨[], rfl, rfl, .nil⟩
  | (k, w) :: kvs, ps, hk, h => by
    obtain ⟨h1, h2⟩ := h
    cases ps with
    | nil => rw [List.map_nil, List.map_cons] at h1; obtain ⟨_, _, e, _⟩ := h1.cons_iff; cases e
    | cons p ps =>
      rw [List.map_cons, List.map_cons] at h1 h2
      obtain ⟨v, r, e, hv, hr⟩ := h1.cons_iff
      cases e
      obtain ⟨v2, r2, e, hv2, hr2⟩ := h2.cons_iff
      cases e
      obtain ⟨ks, i1, i2, i3⟩ := keys_of (fun p hp => hk p (List.mem_cons_of_mem _ hp)) ⟨hr, hr2⟩
      have hk0 := hk (k, w) List.mem_cons_self
      rcases keyb_cases hk0.1 with ⟨kk, e⟩ | ⟨ws, e⟩
      · dsimp only at e hv
        subst e
        have ev := keyW_rel hv
        refine ⟨(kk, p.2) :: ks, ?_, by rw [List.map_cons, List.map_cons, i2], RWs.cons hv2 i3⟩
        rw [List.map_cons, ← i1, ← ev]
      · have := hk0.2
        dsimp only at e this
        subst e
        cases this
theorem putK_keys {ks : List (Key × V)} {k : Key} {v : V} (nd : (ks.map (·.1)).Nodup) : ((L2.putK ks k v).map (·.1)).Nodup := by
  unfold L2.putK
  split
  · have e : (ks.map fun kv => if kv.1 = k then (kv.1, v) else kv).map (·.1) = ks.map (·.1) := by
      rw [List.map_map]
      refine List.map_congr_left fun p _ => ?_
      by_cases h : p.1 = k
      · simp only [Function.comp, if_pos h]
      · simp only [Function.comp, if_neg h]
    rw [e]; exact nd
  · rename_i h
    rw [List.map_append, List.nodup_append]
    refine ⟨nd, by simp, fun a ha b hb => ?_⟩
    obtain ⟨p, hp, rfl⟩ := List.mem_map.mp ha
    have hb : b = k := by simpa using hb
    subst hb
    intro z
    exact h (List.any_eq_true.mpr ⟨p, hp, by simpa using z⟩)
theorem merge_rel {ρ : List Addr} {H : Hp} : ∀ {more : List (W × W)} {mks : List (Key × V)} {kvs : List (W × W)} {ks : List (Key × V)}, more.map (·.1) = mks.map (fun p => keyW p.1) → RWs C ρ H (more.map (·.2)) (mks.map (·.2)) → (ks.map (·.1)).Nodup → kvs.map (·.1) = ks.map (fun p => keyW p.1) → RWs C ρ H (kvs.map (·.2)) (ks.map (·.2)) →
    (more.foldl (fun d p => putK p.1 p.2 d) kvs).map (·.1) = (mergeK ks mks).map (fun p => keyW p.1) ∧ RWs C ρ H ((more.foldl (fun d p => putK p.1 p.2 d) kvs).map (·.2)) ((mergeK ks mks).map (·.2))
  | [], mks, kvs, ks, h1, h2, nd, h3, h4 => by
    cases mks with
    | nil => exact ⟨h3, h4⟩
    | cons p mks => simp at h1
  | (k, w) :: more, mks, kvs, ks, h1, h2, nd, h3, h4 => by
    cases mks with
    | nil => simp at h1
    | cons p mks =>
      simp only [List.map_cons, List.cons.injEq] at h1
      rw [List.map_cons, List.map_cons] at h2
      obtain ⟨v, r, e, hv, hr⟩ := h2.cons_iff
      cases e
      obtain ⟨e1, e2⟩ := h1
      obtain ⟨i1, i2⟩ := put_dK (k := p.1) hv nd h3 h4
      rw [List.foldl_cons]
      show ((more.foldl (fun d p => putK p.1 p.2 d) (putK k w kvs)).map (·.1)) = (mergeK (L2.putK ks p.1 p.2) mks).map (fun p => keyW p.1) ∧ _
      rw [e1]
      exact merge_rel e2 hr (putK_keys nd) i1 i2
theorem l_dct (hall : ks.all (·.isSome) = true) (hl : ks.length = vs.length) (h0 : ks ≠ []) (h15 : ks.length ≤ 15) (h : PD C Wx X pos ks vs fp) :
    PE X (.Dict ks vs pos) (tE C Wx fun en m => (fp en m).bind fun kvs m => if (∀ p ∈ kvs, p.1.keyb = true ∧ p.1.isT = false) ∧ kvs.length ≤ 15 then alloc (.dct (kvs.foldl (fun d p => putK p.1 p.2 d) [])) m else .bad) := by
  obtain ⟨trs, h1, h2⟩ := h
  refine PE_imp (pe_disp h1 hall hl h0 h15) fun σ H Q ⟨ρ, en, m, E, R, P⟩ => ?_
  intro D hD
  have sD := Sm.upd (o := .dK []) hD
  have nD := R.notin hD
  refine h2 _ _ _ ⟨ρ, en, m, E.ext sD.ext0, R.sm sD, ?_⟩
  dsimp only at P
  cases e : fp en m with
  | bad => rw [e] at P; exact P.elim
  | exc c ws m1 => rw [e] at P; exact fun d ρ1 H1 x R1 q => P d ρ1 H1 ((Ext.of_sm sD).trans x) R1 q
  | ok kvs m1 =>
    rw [e, Res.bind_ok] at P
    intro ps ρ1 H1 x R1 q
    split at P
    · rename_i hk
      obtain ⟨mks, e1, e2, e3⟩ := keys_of hk.1 q
      have n1 := x.out upd_same nD fun _ z => by cases z
      have d1 : H1 D = some (.dK []) := x.keep D _ upd_same nD fun _ z => by cases z
      have hlen : mks.length = kvs.length := by
        have := congrArg List.length e2
        simpa using this.symm
      refine ⟨d1, mks, e1, by rw [hlen]; exact hk.2, ?_⟩
      obtain ⟨m1', m2'⟩ := merge_rel (kvs := []) (ks := []) e2 e3 .nil rfl .nil
      have x0 := Ext0.sideG (ρ := ρ1) (o := .dK (mergeK [] mks)) d1 notFx_dK fun _ z => by cases z
      have R2 := R1.sideG (o := .dK (mergeK [] mks)) d1 notTx_dK notFx_dK (fun _ z => by cases z) n1
      have xa := Ext0.adoptG (ρ := ρ1) (H := upd H1 D (.dK (mergeK [] mks))) upd_same notFx_dK
      obtain ⟨R3, q3⟩ := R2.adoptG (b := .dct (kvs.foldl (fun d p => putK p.1 p.2 d) [])) upd_same notFx_dK n1 (.inl ⟨_, upd_same, m1', (m2'.mono0 x0).mono0 xa⟩)
      exact P _ _ _ ((((Ext.of_sm sD).trans x).side hD n1).adopt hD) R3 q3
    · exact P.elim
theorem l_dct0 : PE X (.Dict [] [] pos) (tE C Wx fun en m => (Res.ok ([] : List (W × W)) m).bind fun kvs m => if (∀ p ∈ kvs, p.1.keyb = true ∧ p.1.isT = false) ∧ kvs.length ≤ 15 then alloc (.dct (kvs.foldl (fun d p => putK p.1 p.2 d) [])) m else .bad) := by
  refine PE_imp pe_dnewK fun σ H Q ⟨ρ, en, m, E, R, P⟩ => ?_
  intro D hD
  have hc : (∀ p ∈ ([] : List (W × W)), p.1.keyb = true ∧ p.1.isT = false) ∧ ([] : List (W × W)).length ≤ 15 := ⟨(fun p hp => by cases hp), Nat.zero_le _⟩
  dsimp only at P
  rw [Res.bind_ok, if_pos hc] at P
  obtain ⟨R', x⟩ := R.alloc (u := .dK []) (o := .dct []) hD (.inl ⟨[], upd_same, rfl, .nil⟩)
  refine P _ _ _ x R' ?_
  rw [RW]
  exact ⟨D, by rw [← R.len]; simp, rfl⟩
end
end Ev

set_option Elab.async false
set_option linter.all false
set_option maxRecDepth 100000
set_option maxHeartbeats 4000000
/-! A dict comprehension whose keys may be tuples. -/
namespace Ev
open PySem PySem.Spec PyProof.Rows L2
open Classical
section
variable {X : Cx}
/-- as tDc, the store of a pair left open -/
def tDn (wi : TI) (g : TG) (tt : TT) (tk tv : TE) (vs : List Nat) (put : Addr → V → V → Hp → (Hp → Prop) → Prop) : TE := fun σ H Q => wi σ H fun J A => ∀ D, A D = none →
  ∃ W : Nat → Nat → Hp → Prop, (∃ m, W 0 m (upd A D (.dK []))) ∧ ∀ i m B, W i m B → (J.stop i B ∧ Q (.ref D) B) ∨ (J.go i B ∧ ∃ Nx : Hp → Prop, (∀ B', Nx B' → ∃ m', m' < m ∧ W (i + 1) m' B') ∧
    ∀ x B', J.yld i B x B' → g x (wipe σ vs) B' fun τ B2 => wipe τ vs = wipe σ vs ∧ tt τ B2 fun b B3 => if b = true then tk τ B3 fun y B4 => tv τ B4 fun z B5 => put D y z B5 Nx else Nx B3)
theorem pe_dn {kx vx tg iter : Expr} {ifs : List Expr} {scope : Scope} {own : List (Str × Nat)} {pos : Pos} {wi : TI} {g : TG} {tt : TT} {tk tv : TE} {put : Addr → V → V → Hp → (Hp → Prop) → Prop} (hc : X.calm = true) (hN : X.N.Nodup) (hi : PI X tg iter wi) (ok : BlkOk X.N X.env.scope scope own)
    (hb : ∀ (s : Shared) (H : Hp) (A : Addr) (cl : List (Str × Addr)) (fp : List Addr), PG (X.blk s H scope (compEnvC scope cl A X.env) fp) tg g ∧ PTs (X.blk s H scope (compEnvC scope cl A X.env) fp) ifs tt ∧ PE (X.blk s H scope (compEnvC scope cl A X.env) fp) kx tk ∧ PE (X.blk s H scope (compEnvC scope cl A X.env) fp) vx tv ∧
      ∀ (pins : List (Addr × Obj)) (s' : Shared) (σ : L2.St) (B : Hp) (D : Addr) (y z : V) (u r : Value) (Nx : Hp → Prop), Inv (X.blk s H scope (compEnvC scope cl A X.env) fp) pins σ B s' → RelV y u → RelV z r → put D y z B Nx →
        wpAny (model X.prog X.w) X.A (dictSet D u r) (fun _ s2 => ∃ B2, Inv (X.blk s H scope (compEnvC scope cl A X.env) fp) pins σ B2 s2 ∧ Nx B2) (fun _ _ => False) s')
    (hs : ∀ x, foldedSetIterable iter X.env x = pure x) : PE X (.DictComp kx vx [⟨tg, iter, ifs, 0⟩] scope pos) (tDn wi g tt tk tv (own.map (·.2)) put) := by
  refine ⟨fun pins s σ H Q I h => ?_⟩
  rw [arm_eval_DictComp]
  have fr : ∀ n ∈ scope.names, n.2 = .free → ∃ c, X.env.cells.lookup n.1 = some c := fun n hn e => (ok.free n hn e).elim (fun z => I.ok.has _ (.inl z)) fun z => I.ok.has _ (.inr z)
  refine wpAny_comprehension_free (use := none) rfl hs (closure_ok fr) ok.kind (fun n hn e => (ok.uniq n hn).trans (congrArg some e)) ?_
  refine thn (hi.run pins s σ H _ I h) fun _ _ p => thn p fun _ t ⟨it, fp, tn, J, A0, e0, It, T, at0, fp0, q⟩ => ?_
  subst e0
  refine wpAny_newObj_type (newEnv_comp ?_)
  have hn0 : A0 t.heap.objs.size = none := It.hok.fresh (Nat.le_refl _)
  obtain ⟨W, ⟨m0, w0⟩, turn⟩ := q _ hn0
  -- the dict is laid
  have Il := It.laid (a := t.heap.objs.size) (o := .dK []) (h' := t.heap.push { cls := .type "dict", data := .dict #[] }) (t' := t.toks) (fun _ _ z => Heap.get?_push_of_some _ z) (Nat.le_refl _) (dk_empty t.heap It.big)
  have old : ∀ b ∈ fp, b < t.heap.objs.size := fun b z => let ⟨_, e, _⟩ := T.obj _ _ at0 b z; Heap.lt_size e
  obtain ⟨D, eD⟩ : ∃ D, D = t.heap.objs.size := ⟨_, rfl⟩
  obtain ⟨t1, e1⟩ : ∃ t1 : Shared, t1 = { t with heap := t.heap.push { cls := .type "dict", data := .dict #[] } } := ⟨_, rfl⟩
  rw [← eD] at w0 hn0 turn old Il
  have Il : Inv X pins σ (upd A0 D (.dK [])) t1 := by rw [e1]; exact Il
  have h1 : t1.heap = t.heap.push { cls := .type "dict", data := .dict #[] } := by rw [e1]
  have grow : ∀ b o, t.heap.get? b = some o → t1.heap.get? b = some o := fun b o z => by rw [h1]; exact Heap.get?_push_of_some _ z
  have fpD : ∀ b ∈ fp, FpOk X pins (upd A0 D (.dK [])) b ∧ b < t1.heap.objs.size := fun b z =>
    ⟨⟨by rw [upd_ne (Nat.ne_of_lt (old b z))]; exact (fp0 b z).1, (fp0 b z).2⟩, by rw [h1, Heap.size_push, ← eD]; exact Nat.lt_succ_of_lt (old b z)⟩
  obtain ⟨cl, ecl⟩ : ∃ cl, cl = cellsFrom (t1.heap.objs.size + 1) scope.names (cloFrom X.env.cells scope.names []) := ⟨_, rfl⟩
  have Ib := block_start Il ok hN fpD
  rw [← ecl] at Ib
  obtain ⟨pg, pt, pk, pv, pp⟩ := hb t1 (upd A0 D (.dK [])) t1.heap.objs.size cl fp
  obtain ⟨B0, eB⟩ : ∃ B0, B0 = upd A0 D (.dK []) := ⟨_, rfl⟩
  obtain ⟨ce, ece⟩ : ∃ ce, ce = compEnvC scope cl t1.heap.objs.size X.env := ⟨_, rfl⟩
  obtain ⟨t2, e2⟩ : ∃ t2 : Shared, t2 = { t1 with heap := pushCells (t1.heap.push { cls := .type "dict", data := .dict #[] }) scope.names } := ⟨_, rfl⟩
  have lce : ce.locals = t1.heap.objs.size := by rw [ece]; rfl
  rw [← eB, ← ece, ← e2] at Ib
  rw [← eB, ← ece] at pg pt pk pv pp
  rw [← eB] at w0 fpD Il
  have goal : codeAny (model X.prog X.w) X.A (.compStart (.DictComp kx vx [⟨tg, iter, ifs, 0⟩] scope pos) 0 (.ref it) (.ref D) ce) (compPost (model X.prog X.w) X.A X.xe none (EP X pins σ Q) (.ref D) t1.heap.objs.size) t2 := by
    have at1 : tn 0 t2.heap := T.keep _ _ _ at0 fun b _ o z => by rw [e2]; exact pushCells_keeps _ _ _ _ (Heap.get?_push_of_some _ (grow b o z))
    have fpB : ∀ {τ : L2.St} {B : Hp} {v : Shared}, Inv (X.blk t1 B0 scope ce fp) [] τ B v → (∀ b ∈ fp, B b = none) → ∀ b ∈ fp, FpOk (X.blk t1 B0 scope ce fp) [] B b := fun I' n b z =>
      ⟨n b z, (I'.ok.exf b z).1, I'.ok.exfs b z, .inl z, fun x c e => (I'.ok.exf b z).2 x c e, fun p hp => by cases (show p ∈ ([] : List (Addr × Obj)) from hp)⟩
    refine codeAny_compStart_dict ?loop (T.self X.A 0 _ _ _ at1 ?loop)
    refine compLoop_anyD (fun n v => ∃ i B, Inv (X.blk t1 B0 scope ce fp) [] (wipe σ (own.map (·.2))) B v ∧ tn i v.heap ∧ (∀ b ∈ fp, B b = none) ∧ W i n B) ?_ m0 ⟨0, B0, Ib, at1, fun b z => (fpD b z).1.1, w0⟩
    rintro n v ⟨i, B, Iv, av, nv, wv⟩
    rcases turn i n B wv with ⟨stop, qe⟩ | ⟨go, Nx, back, step⟩
    · refine thnF (T.done (X.blk t1 B0 scope ce fp) rfl rfl rfl hc i [] v _ B (fun _ _ => False) Iv (fpB Iv nv) av stop) fun r v1 ⟨hr, I1⟩ => ?_
      subst hr
      have Io : Inv X pins σ B v1 := Il.call' (ch := fp) I1.os I1.base I1.hok I1.bare fun b z => ⟨(fpD b z).1.2.2.2.1, (fpD b z).1.2.1, (fpD b z).1.2.2.2.2.1, (fpD b z).1.2.2.2.2.2⟩
      have nC : B t1.heap.objs.size = none := by rw [← lce]; exact I1.free
      obtain ⟨mm, hm, _⟩ := I1.loc
      have hm : v1.heap.Ns ce.locals mm := hm
      rw [lce] at hm
      obtain ⟨f0, f1, f2, f3, f4, f5⟩ := Il.fpOk (Nat.le_refl _) nC
      refine ⟨mm, hm, fun h2 sb => ⟨.ref D, B, Io.turned (t' := v1.toks) (fun b o z e => (sb.2 b z).trans e) f0 f1 f3 f4 f5, rfl, qe⟩⟩
    · refine thnF (T.item (X.blk t1 B0 scope ce fp) rfl rfl rfl hc i [] v _ B (fun _ _ => False) Iv (fpB Iv nv) av go) fun r v1 ⟨u, hr, p1⟩ => ?_
      subst hr
      refine thnF p1 fun _ v2 ⟨x, B2, I2, r2, y2, a2, n2⟩ => ?_
      have Ip := I2.pinned (fpB I2 n2) (T.obj _ _ a2)
      have again : ∀ {τ : L2.St} {v' : Shared} {B' : Hp}, wipe τ (own.map (·.2)) = wipe σ (own.map (·.2)) → Inv (X.blk t1 B0 scope ce fp) ([] ++ pinsAt fp v2.heap) τ B' v' → Nx B' →
          ∃ m, m < n ∧ ∃ i B, Inv (X.blk t1 B0 scope ce fp) [] (wipe σ (own.map (·.2))) B v' ∧ tn i v'.heap ∧ (∀ b ∈ fp, B b = none) ∧ W i m B := by
        intro τ v' B' hw I' nx
        obtain ⟨m', lt, w'⟩ := back B' nx
        have pin : ∀ b ∈ fp, ∀ o, v2.heap.get? b = some o → v'.heap.get? b = some o ∧ B' b = none := fun b z o e =>
          have k := I'.pin (b, o) (List.mem_append_right _ (List.mem_append_right _ (mem_pinsAt z e)))
          ⟨k.1, k.2.1⟩
        refine ⟨m', lt, i + 1, B', (I'.unpinned (pins := [])).weak (by rw [← hw, wipe_length]) (fun j c e => ?_), T.keep _ _ _ a2 fun b z o e => (pin b z o e).1, fun b z => ?_, w'⟩
        · rw [← hw] at e
          exact (wipe_some e).1
        · obtain ⟨o, e, _⟩ := T.obj _ _ a2 b z
          exact (pin b z o e).2
      refine thnF (pg.run _ v2 _ B2 x u _ Ip r2 (step x B2 y2)) fun _ v3 ⟨τ, B3, I3, hw, q3⟩ => ?_
      refine thnF (pt.run _ v3 τ B3 _ I3 q3) fun b v4 ⟨B4, I4, q4⟩ => ?_
      dsimp only at q4
      by_cases hbt : b = true
      · rw [if_pos hbt] at q4 ⊢
        refine thnF (pk.run _ v4 τ B4 _ I4 q4) fun z1 v5 ⟨yk, B5, I5, r5, q5⟩ => ?_
        refine thnF (pv.run _ v5 τ B5 _ I5 q5) fun z2 v6 ⟨yv, B6, I6, r6, q6⟩ => ?_
        exact thnF (pp _ v6 τ B6 D yk yv z1 z2 Nx I6 r5 r6 q6) fun _ v7 ⟨B7, I7, q7⟩ => again hw I7 q7
      · rw [if_neg hbt] at q4 ⊢
        exact again hw I4 q4
  rw [e2, e1, ece, ecl, e1, eD] at goal
  exact goal
end
end Ev

set_option Elab.async false
set_option linter.all false
set_option maxRecDepth 100000
set_option maxHeartbeats 4000000
namespace Ev
open PySem PySem.Spec PyProof.Rows L2
open Classical
section
variable {C : Cf} {X : Cx} {Wx : WX} {σ σ' : L2.St} {ρ ρ1 : List Addr} {H H1 B : Hp} {m m1 : Store} {pos : Pos} {D : Addr}
theorem rent_len : ∀ {kvs : List (W × W)} {xs : List (NestedKey × Addr × Value)}, REnt C ρ H kvs xs → xs.length = kvs.length
  | [], xs, r => by rw [REnt] at r; subst r; rfl
  | kv :: kvs, xs, r => by
    rw [REnt] at r
    obtain ⟨x, q, rfl, _, hr⟩ := r
    simp [rent_len hr]
/-- the store of a pair in a dict beside the store -/
def putD (C : Cf) (D : Addr) (y z : V) (B : Hp) (Nx : Hp → Prop) : Prop := ∃ ρ m kvs k w, RS C ρ B m ∧ D ∉ ρ ∧ RO C ρ B (.dct kvs) D ∧ RW C ρ B k y ∧ RW C ρ B w z ∧ okKey k kvs ∧ kvs.length < cap ∧
  ∀ B', RS C ρ B' m → RO C ρ B' (.dct (putK k w kvs)) D → Ext0 ρ B ρ B' → (∀ a, a ≠ D → B' a = B a) → (∀ u, B' D = some u → ¬ Fx D u) → Nx B'
theorem ext_notFx {h : Heap} {o : Obj} {es : Array DictEntry} {ep : Nat} (e : h.get? D = some o) (hd : o.data = .dict es ep) : ¬ Fx D (.ext fun h => h.get? D = some o) := fun fx => by
  rcases fx with ⟨_, _, _, q⟩ | ⟨c, d, q⟩ | ⟨_, q⟩
  · cases q
  · unfold ExcO at q
    injection q with q
    have : (fun h : Heap => h.get? D = some o) h := e
    rw [q] at this
    obtain ⟨o2, vs, e1, _, _, e2⟩ := this
    rw [e] at e1
    cases e1
    rw [hd] at e2
    cases e2
  · cases q
theorem put_ok (hP : C.P = X.prog) (hw : C.w = X.w) (hu : X.A.units + 64 < cLine) {pins : List (Addr × Obj)} {s : Shared} {y z : V} {u r : Value} {Nx : Hp → Prop} {E : Value → Shared → Prop} (I : Inv X pins σ B s) (ry : RelV y u) (rz : RelV z r) (h : putD C D y z B Nx) :
    wpAny (model X.prog X.w) X.A (dictSet D u r) (fun _ s2 => ∃ B2, Inv X pins σ B2 s2 ∧ Nx B2) E s := by
  obtain ⟨ρ, m, kvs, k, w, R, nD, ro, hy, hz, hok, hl, fin⟩ := h
  have hk := hok.1
  have nested : ∀ {b : Addr} {xs : List (NestedKey × Addr × Value)} {v0 : HO}, y = .ref b → B D = some v0 → ¬ Tx D v0 → ¬ Fx D v0 → (∀ vs, v0 ≠ .tup vs) → Mut (B D) → (D == sysModules) = false → s.heap.DictOfH (nestedKind X.prog X.w) D xs → xs.length ≤ sizeLine → (xs.map (·.1)).Nodup → REnt C ρ B kvs xs →
      wpAny (model X.prog X.w) X.A (dictSet D u r) (fun _ s2 => ∃ B2, Inv X pins σ B2 s2 ∧ Nx B2) E s := by
    intro b xs v0 ey e0 nx nf nt mu hsm dd hz2 hnd hent
    subst ey
    obtain rfl : u = .ref b := ry
    have hr : (nestedKind X.prog X.w).room X.A := by show X.A.units + 8 < cLine; omega
    refine wpAny_dictSet_heap hr (nested_is I hk hy) dd (fun h' dd' sb => ?_) hz2
    obtain ⟨o', es', ep', g1, g2, g3, g4, _, g6⟩ := dd'
    have ent := put_ent hk hy hz rz hnd hent
    have x0 := Ext0.sideG (ρ := ρ) (o := .ext fun h => h.get? D = some o') e0 nf nt
    refine ⟨_, I.write (t' := s.toks + (nestedKind X.prog X.w).draws k.nk) mu (.inl rfl) (fun c o hc q => (sb.2 c hc).trans q) ⟨o', g1⟩ (ext_new g1), ?_⟩
    exact fin _ (R.sideG e0 nx nf nt nD) (.inr ⟨putK_ne, hsm, o', es', ep', _, upd_same, g2, g3, by rw [hP, hw]; exact g4, g6, ent.mono0 x0⟩) x0 (fun a ha => upd_ne ha) fun v hv => by
      rw [upd_same] at hv
      cases hv
      exact ext_notFx g1 g3
  rcases ro with ⟨ks, h1, h2, h3⟩ | ⟨h0, h1, o, es, ep, xs, h2, h3, h4, h5, h6, h7⟩
  · have hlen : ks.length = kvs.length := by simpa using (congrArg List.length h2).symm
    have nt : ∀ vs, HO.dK ks ≠ .tup vs := fun _ z => by cases z
    rcases keyb_cases hk with ⟨kk, rfl⟩ | ⟨ws, rfl⟩
    · have ey := keyW_rel hy
      subst ey
      refine d_dictSet I h1 (by rw [hlen]; exact cap_lt hl) ry rz fun s' I' => ⟨_, I', ?_⟩
      have nd : (ks.map (·.1)).Nodup := by
        obtain ⟨_, _, vs', rel, _, _, _, _, _, _, _, _, hn⟩ := I.hok D _ h1
        rw [← kv_keys rel]; exact hn
      obtain ⟨p1, p2⟩ := put_dK (k := kk) hz nd h2 h3
      have x0 := Ext0.sideG (ρ := ρ) (o := .dK (L2.putK ks kk z)) h1 notFx_dK nt
      exact fin _ (R.sideG h1 notTx_dK notFx_dK nt nD) (.inl ⟨_, upd_same, p1, p2.mono0 x0⟩) x0 (fun a ha => upd_ne ha) fun v hv => by
        rw [upd_same] at hv
        cases hv
        exact notFx_dK
    · cases kvs with
      | nil =>
        have hz3 : ks = [] := by cases ks <;> simp at h2 ⊢
        subst hz3
        obtain ⟨b, vs, rfl, eb, _⟩ := id hy.tup_iff
        obtain ⟨z1, hd, vs', rel, dd⟩ := I.hok D _ h1
        cases rel
        obtain ⟨ob, es, ep, ho, hc, hdt, _, hpr, _⟩ := dd
        have hes : es.toList = [] := by
          generalize es.toList = l at hpr
          cases hpr
          rfl
        have dd2 : s.heap.DictOfH (nestedKind X.prog X.w) D [] := ⟨ob, es, ep, ho, hc, hdt, hes, (fun x hx => by cases hx), List.nodup_nil⟩
        exact nested rfl h1 notTx_dK notFx_dK nt (by rw [h1]; trivial) hd dd2 (Nat.zero_le _) List.nodup_nil (by rw [REnt])
      | cons kv kvs =>
        exfalso
        cases ks with
        | nil => simp at h2
        | cons q ks =>
          have := hok.2 kv List.mem_cons_self
          simp only [List.map_cons, List.cons.injEq] at h2
          rw [h2.1] at this
          rcases q with ⟨q1 | q1, q2⟩ <;> simp [keyW, W.isT] at this
  · rw [hP, hw] at h5
    have hg : s.heap.get? D = some o := (I.hok D _ h2).1
    rcases keyb_cases hk with ⟨kk, rfl⟩ | ⟨ws, rfl⟩
    · exfalso
      cases kvs with
      | nil => exact absurd rfl h0
      | cons kv kvs =>
        have := hok.2 kv List.mem_cons_self
        rw [REnt] at h7
        obtain ⟨x, q, rfl, ⟨e1, e2, e3, _⟩, _⟩ := h7
        rcases keyb_cases e2 with ⟨k2, e4⟩ | ⟨ws, e4⟩
        · rw [e4] at e3
          have := keyW_rel e3
          cases k2 <;> cases this
        · rw [e4] at this
          cases kk <;> simp [keyW, W.isT] at this
    · obtain ⟨b, vs, rfl, eb, _⟩ := id hy.tup_iff
      exact nested rfl h2 (ext_notTx h4) (ext_notFx hg h4) (fun _ z => by cases z) (by rw [h2]; trivial) h1 (dictH I h2 h3 h4 h5 h6 h7) (by rw [rent_len h7]; exact Nat.le_of_lt (cap_lt hl)) h6 h7
end
end Ev

set_option Elab.async false
set_option linter.all false
set_option maxRecDepth 100000
set_option maxHeartbeats 4000000
namespace Ev
open PySem PySem.Spec PyProof.Rows L2
open Classical
section
variable {C : Cf} {X : Cx} {Wx : WX} {σ σ' : L2.St} {ρ ρ' ρ1 : List Addr} {H H' H1 B : Hp} {m m1 : Store} {pos : Pos} {D : Addr}
def tupP (p : W × W) : W := .tup [p.1, p.2]
noncomputable def dcEnd (ws : List W) (m : Store) : Res W := match pairsOf ws with
  | some kvs => if (∀ p ∈ kvs, okKey p.1 kvs) ∧ kvs.length ≤ cap then alloc (.dct (kvs.foldl (fun d p => putK p.1 p.2 d) [])) m else .bad
  | none => .bad
def pairK (fk fx : En → Store → Res W) : En → Store → Res (List W) := fun en m => (fk en m).bind fun kw m => (fx en m).bind fun w m => .ok [.tup [kw, w]] m
noncomputable abbrev dcF (fi : En → Store → Res Walked) (t : Tg) (fc : En → Store → Res Bool) (k : En → Store → Res (List W)) (own : List Nat) : En → Store → Res W := fun en m =>
  gc m (Res.calm (((fi en m).bind fun its m1 => loopC (stillAt its.srcs) (turnC t fc k (wipeE en own)) its.items m1).bind fun ws m => dcEnd ws m))
theorem pairsOf_map : ∀ (acc : List (W × W)), pairsOf (acc.map tupP) = some acc
  | [] => rfl
  | p :: acc => by
    show (pairsOf (acc.map tupP)).map (_ :: ·) = _
    rw [pairsOf_map acc]; rfl
theorem pairsOf_pre : ∀ {acc : List (W × W)} {ws : List W} {kvs : List (W × W)}, pairsOf (acc.map tupP ++ ws) = some kvs → ∃ r, kvs = acc ++ r
  | [], ws, kvs, h => ⟨kvs, rfl⟩
  | p :: acc, ws, kvs, h => by
    have h : (pairsOf (acc.map tupP ++ ws)).map ((p.1, p.2) :: ·) = some kvs := h
    obtain ⟨k2, h1, rfl⟩ := Option.map_eq_some_iff.mp h
    obtain ⟨r, rfl⟩ := pairsOf_pre h1
    exact ⟨r, rfl⟩
theorem putK_mem {k w : W} : ∀ {kvs : List (W × W)} {p : W × W}, p ∈ putK k w kvs → p.1 = k ∨ ∃ q ∈ kvs, q.1 = p.1
  | [], p, h => by rw [putK] at h; simp at h; exact .inl (by rw [h])
  | (k', v') :: r, p, h => by
    rw [putK] at h
    split at h
    · rename_i e
      rcases List.mem_cons.mp h with h | h
      · exact .inl (by rw [h]; exact e)
      · exact .inr ⟨p, List.mem_cons_of_mem _ h, rfl⟩
    · rcases List.mem_cons.mp h with h | h
      · exact .inr ⟨(k', v'), List.mem_cons_self, by rw [h]⟩
      · rcases putK_mem h with h | ⟨q, hq, e⟩
        · exact .inl h
        · exact .inr ⟨q, List.mem_cons_of_mem _ hq, e⟩
theorem putK_len {k w : W} : ∀ {kvs : List (W × W)}, (putK k w kvs).length ≤ kvs.length + 1
  | [] => by rw [putK]; simp
  | (k', v') :: r => by
    rw [putK]
    split
    · simp
    · have := putK_len (k := k) (w := w) (kvs := r)
      simp only [List.length_cons]; omega
theorem fold_mem : ∀ {acc : List (W × W)} {d : List (W × W)} {p : W × W}, p ∈ acc.foldl (fun d p => putK p.1 p.2 d) d → (∃ q ∈ acc, q.1 = p.1) ∨ ∃ q ∈ d, q.1 = p.1
  | [], d, p, h => .inr ⟨p, h, rfl⟩
  | a :: acc, d, p, h => by
    rcases fold_mem (show p ∈ acc.foldl (fun d p => putK p.1 p.2 d) (putK a.1 a.2 d) from h) with ⟨q, hq, e⟩ | ⟨q, hq, e⟩
    · exact .inl ⟨q, List.mem_cons_of_mem _ hq, e⟩
    · rcases putK_mem hq with h2 | ⟨q2, hq2, e2⟩
      · exact .inl ⟨a, List.mem_cons_self, by rw [← h2, e]⟩
      · exact .inr ⟨q2, hq2, e2.trans e⟩
theorem fold_len : ∀ {acc : List (W × W)} {d : List (W × W)}, (acc.foldl (fun d p => putK p.1 p.2 d) d).length ≤ d.length + acc.length
  | [], d => by simp
  | a :: acc, d => by
    have h1 := fold_len (acc := acc) (d := putK a.1 a.2 d)
    have h2 := putK_len (k := a.1) (w := a.2) (kvs := d)
    show (acc.foldl (fun d p => putK p.1 p.2 d) (putK a.1 a.2 d)).length ≤ _
    simp only [List.length_cons]; omega
theorem Ext.sideB (x : Ext ρ H ρ' H') (h0 : H D = none) (e : ∀ a, a ≠ D → B a = H' a) : Ext ρ H ρ' B :=
  ⟨x.pre, fun a u h ha nt => by rw [e a (ne_of_none h h0)]; exact x.keep a u h ha nt, x.new⟩
theorem RO.stay {b : MObj} (R : RS C ρ H m) (x : Ext ρ H ρ' H') (hn : D ∉ ρ) (q : RO C ρ H b D) : RO C ρ' H' b D ∧ H' D = H D := by
  obtain ⟨u, e, nt⟩ := q.there
  have e2 : H' D = H D := by rw [e]; exact x.keep D u e hn nt
  exact ⟨q.mono0 (x.ext0 R) e2, e2⟩
theorem RO.outD {b : MObj} (x : Ext ρ H ρ' H') (hn : D ∉ ρ) (q : RO C ρ H b D) : D ∉ ρ' := by
  obtain ⟨u, e, nt⟩ := q.there
  exact x.out e hn nt
theorem dc_end {ρ0 : List Addr} {H0 : Hp} {still : Store → Prop} {F : W → Store → Res (List W)} {items : List W} {acc : List (W × W)} {Q : VK} (h : PR C (RW C) σ Wx ρ0 H0 (Res.calm ((loopC still F items m).bind fun ws m => dcEnd (acc.map tupP ++ ws) m)) Q) :
    ∃ r, (∀ p ∈ acc ++ r, okKey p.1 (acc ++ r)) ∧ (acc ++ r).length ≤ cap := by
  cases e : loopC still F items m with
  | bad => rw [e] at h; exact h.elim
  | exc c ws m1 => rw [e] at h; exact h.elim
  | ok ws m1 =>
    rw [e, Res.bind_ok] at h
    unfold dcEnd at h
    split at h
    · rename_i kvs hp
      obtain ⟨r, rfl⟩ := pairsOf_pre hp
      split at h
      · rename_i hc
        exact ⟨r, hc⟩
      · exact h.elim
    · exact h.elim
variable {kx vx tg iter : Expr} {ifs : List Expr} {scope : Scope} {own : List (Str × Nat)} {fi : En → Store → Res Walked} {fc : En → Store → Res Bool} {fk fx : En → Store → Res W} {t : Tg}
theorem dn_imp (hv : ∀ i ∈ t.vars, i ∈ own.map (·.2)) {σ : L2.St} {H : Hp} {Q : VK} : tE C Wx (dcF fi t fc (pairK fk fx) (own.map (·.2))) σ H Q → tDn (tI C Wx fi) (tTg C t) (tT C w0 fc) (tE C w0 fk) (tE C w0 fx) (own.map (·.2)) (putD C) σ H Q := by
  rintro ⟨ρ, en, m, E, R, P⟩
  refine ⟨ρ, en, m, E, R, ?_⟩
  have P1 := PR.gc R P
  rw [Res.bind_assoc] at P1
  refine (PR.bindC (rel := RJ C H) P1).imp fun J H0 ⟨ρ0, its, m0, x0, R0, j, P2⟩ D hD => ?_
  have E0 := (E.ext (x0.ext0 R)).wipes (own.map (·.2))
  revert P2
  generalize hen : wipeE en (own.map (·.2)) = en0 at E0 ⊢
  generalize hσ : wipe σ (own.map (·.2)) = σ0 at E0 ⊢
  intro P2
  have sD := Sm.upd (o := .dK []) hD
  refine ⟨fun i n B => n = its.items.length - i ∧ ∃ ρ m, ∃ acc : List (W × W), Ext ρ0 H0 ρ B ∧ RS C ρ B m ∧ D ∉ ρ ∧ RO C ρ B (.dct (acc.foldl (fun d p => putK p.1 p.2 d) [])) D ∧ (∀ u, B D = some u → ¬ Fx D u) ∧ REn C ρ B en0 σ0 ∧
      PR C (RW C) σ Wx ρ0 H0 (Res.calm ((loopC (stillAt its.srcs) (turnC t fc (pairK fk fx) en0) (its.items.drop i) m).bind fun ws m => dcEnd (acc.map tupP ++ ws) m)) Q,
    ⟨_, rfl, ρ0, m0, [], .of_sm sD, R0.sm sD, R0.notin hD, .inl ⟨[], upd_same, rfl, .nil⟩, (fun u hu => by rw [upd_same] at hu; cases hu; exact notFx_dK), E0.ext sD.ext0, P2⟩, ?_⟩
  rintro i n B1 ⟨rfl, ρ1, m1, acc, x1, R1, n1, d1, f1, E1, P3⟩
  cases ew : its.items[i]? with
  | none =>
    have hl := List.getElem?_eq_none_iff.mp ew
    rw [List.drop_eq_nil_of_le hl, loopC] at P3
    split at P3
    · rename_i hst
      refine .inl ⟨(j ρ1 B1 m1 x1.b R1 hst i).1 ew, ?_⟩
      rw [Res.bind_ok, List.append_nil] at P3
      unfold dcEnd at P3
      rw [pairsOf_map] at P3
      dsimp only at P3
      split at P3
      · obtain ⟨u, eu, _⟩ := d1.there
        have xa := Ext0.adoptG (ρ := ρ1) eu (f1 u eu)
        obtain ⟨R2, q2⟩ := R1.adoptG eu (f1 u eu) n1 (d1.mono0 xa rfl)
        exact P3 _ _ _ (x1.adopt hD) R2 q2
      · exact P3.elim
    · exact P3.elim
  | some w =>
    have hl := (List.getElem?_eq_some_iff.mp ew).1
    rw [List.drop_eq_getElem_cons hl, (List.getElem?_eq_some_iff.mp ew).2, loopC] at P3
    split at P3
    · rename_i hst
      obtain ⟨jg, jy⟩ := (j ρ1 B1 m1 x1.b R1 hst i).2 w ew
      refine .inr ⟨jg, fun B => its.items.length - (i + 1) < its.items.length - i ∧ ∃ ρ m, ∃ acc : List (W × W), Ext ρ0 H0 ρ B ∧ RS C ρ B m ∧ D ∉ ρ ∧ RO C ρ B (.dct (acc.foldl (fun d p => putK p.1 p.2 d) [])) D ∧ (∀ u, B D = some u → ¬ Fx D u) ∧ REn C ρ B en0 σ0 ∧
          PR C (RW C) σ Wx ρ0 H0 (Res.calm ((loopC (stillAt its.srcs) (turnC t fc (pairK fk fx) en0) (its.items.drop (i + 1)) m).bind fun ws m => dcEnd (acc.map tupP ++ ws) m)) Q,
        fun B' ⟨h1, h2⟩ => ⟨_, h1, rfl, h2⟩, fun x B2 hy => ?_⟩
      have hlt : its.items.length - (i + 1) < its.items.length - i := by omega
      obtain ⟨x2, R2, q2⟩ := jy x B2 hy
      obtain ⟨d2, e2⟩ := d1.stay R1 x2 n1
      have E2 := E1.ext (x2.ext0 R1)
      rw [Res.bind_assoc] at P3
      cases eb : bindT t w en0 with
      | none => rw [turnC_none eb] at P3; exact P3.elim
      | some en2 =>
        rw [turnC_some eb, Res.bind_assoc] at P3
        refine ⟨ρ1, en0, m1, w, en2, E2, R2, q2, eb, fun σ2 E3 l3 u3 => ⟨?_, ?_⟩⟩
        · rw [hσ.symm] at l3 u3 ⊢
          exact wipe_same (σ := σ) (vs := own.map (·.2)) (σ2 := σ2) (by rw [l3, wipe_length]) fun i hi => u3 i fun z => hi (hv i z)
        · refine ⟨ρ1, en2, m1, E3, R2, (PR.bindC1 (rel := fun _ _ a b => a = b) P3).imp fun b B3 ⟨ρ3, b', m3, x3, R3, eb3, P4⟩ => ?_⟩
          subst eb3
          obtain ⟨d3, e3⟩ := d2.stay R2 x3 n1
          have n3 := d2.outD x3 n1
          have y3 := (x1.trans x2).trans x3
          cases b' with
          | false =>
            rw [if_neg Bool.false_ne_true] at P4 ⊢
            rw [Res.bind_ok, Res.bind_assoc] at P4
            simp only [Res.bind_ok, List.nil_append] at P4
            exact ⟨hlt, ρ3, m3, acc, y3, R3, n3, d3, by rw [e3, e2]; exact f1, E2.ext (x3.ext0 R2), P4⟩
          | true =>
            rw [if_pos rfl] at P4 ⊢
            rw [show pairK fk fx en2 m3 = (fk en2 m3).bind fun kw m => (fx en2 m).bind fun w m => .ok [.tup [kw, w]] m from rfl, Res.bind_assoc] at P4
            refine ⟨ρ3, en2, m3, E3.ext (x3.ext0 R2), R3, (PR.bindC1 (rel := RW C) P4).imp fun y B4 ⟨ρ4, wk, m4, x4, R4, q4, P5⟩ => ?_⟩
            rw [Res.bind_assoc] at P5
            refine ⟨ρ4, en2, m4, (E3.ext (x3.ext0 R2)).ext (x4.ext0 R3), R4, (PR.bindC1 (rel := RW C) P5).imp fun z B5 ⟨ρ5, wv, m5, x5, R5, q5, P6⟩ => ?_⟩
            obtain ⟨d4, e4⟩ := d3.stay R3 x4 n3
            have n4 := d3.outD x4 n3
            obtain ⟨d5, e5⟩ := d4.stay R4 x5 n4
            have n5 := d4.outD x5 n4
            rw [Res.bind_ok, Res.bind_assoc] at P6
            simp only [Res.bind_ok] at P6
            have P7 : PR C (RW C) σ Wx ρ0 H0 (Res.calm ((loopC (stillAt its.srcs) (turnC t fc (pairK fk fx) en0) (its.items.drop (i + 1)) m5).bind fun ws m => dcEnd ((acc ++ [(wk, wv)]).map tupP ++ ws) m)) Q := by
              simpa only [List.map_append, List.append_assoc, List.map_cons, List.map_nil, tupP] using P6
            obtain ⟨r, o1, o2⟩ := dc_end P7
            have o3 := o1 (wk, wv) (by simp)
            refine ⟨ρ5, m5, _, wk, wv, R5, n5, d5, q4.mono0 (x5.ext0 R4), q5, ⟨o3.1, fun p hp => ?_⟩, ?_, fun B' R6 d6 xx eq ff => ⟨hlt, ρ5, m5, acc ++ [(wk, wv)], ((y3.trans x4).trans x5).sideB hD eq, R6, n5, ?_, ff, (((E2.ext (x3.ext0 R2)).ext (x4.ext0 R3)).ext (x5.ext0 R4)).ext xx, P7⟩⟩
            · rcases fold_mem hp with ⟨q, hq, e⟩ | ⟨q, hq, e⟩
              · rw [← e]
                exact o3.2 q (by simp [hq])
              · cases hq
            · have := fold_len (acc := acc) (d := [])
              simp only [List.length_append, List.length_cons, List.length_nil] at o2 this
              omega
            · rw [List.foldl_append]
              exact d6
    · exact P3.elim
theorem l_dc (hP : C.P = X.prog) (hw : C.w = X.w) (hu : X.A.units + 66 < cLine) (hc : X.calm = true) (hN : X.N.Nodup) (hns : nset iter = true) (hi : PI X tg iter (tI C Wx fi)) (ok : BlkOk X.N X.env.scope scope own) (hv : ∀ i ∈ t.vars, i ∈ own.map (·.2))
    (hg : ∀ (s : Shared) (H : Hp) (A : Addr) (cl : List (Str × Addr)) (fp : List Addr), PG (X.blk s H scope (compEnvC scope cl A X.env) fp) tg (tTg C t))
    (ht : ∀ (s : Shared) (H : Hp) (A : Addr) (cl : List (Str × Addr)) (fp : List Addr), PTs (X.blk s H scope (compEnvC scope cl A X.env) fp) ifs (tT C w0 fc))
    (hk : ∀ (s : Shared) (H : Hp) (A : Addr) (cl : List (Str × Addr)) (fp : List Addr), PE (X.blk s H scope (compEnvC scope cl A X.env) fp) kx (tE C w0 fk))
    (hx : ∀ (s : Shared) (H : Hp) (A : Addr) (cl : List (Str × Addr)) (fp : List Addr), PE (X.blk s H scope (compEnvC scope cl A X.env) fp) vx (tE C w0 fx)) :
    PE X (.DictComp kx vx [⟨tg, iter, ifs, 0⟩] scope pos) (tE C Wx (dcF fi t fc (pairK fk fx) (own.map (·.2)))) :=
  PE_imp (pe_dn hc hN hi ok (fun s H A cl fp => ⟨hg s H A cl fp, ht s H A cl fp, hk s H A cl fp, hx s H A cl fp, fun pins s' σ B D y z u r Nx I ry rz q => put_ok (X := X.blk s H scope (compEnvC scope cl A X.env) fp) hP hw (show X.A.units + 64 < cLine by omega) I ry rz q⟩) (ns_of hns)) fun σ H Q h => dn_imp hv h
end
end Ev

set_option Elab.async false
set_option linter.all false
set_option maxRecDepth 100000
set_option maxHeartbeats 4000000
/-! A caught exception that stays as a value. -/
namespace Ev
open PySem PySem.Spec PyProof.Rows L2
open Classical
def ExC (a : Addr) (cls : Value) (d : Option Addr) : HO := .ext fun h => ∃ (o : Obj) (vs : Array Value), h.get? a = some o ∧ o.cls = cls ∧ o.dict = d ∧ o.data = .fields vs
section
variable {X : Cx} {pins : List (Addr × Obj)} {σ : L2.St} {H : Hp} {s : Shared} {a : Addr} {cls : Value} {d : Option Addr}
/-- what came up since the entry is tracked from now on -/
theorem Inv.track {o : Obj} {vs : Array Value} (I : Inv X pins σ H s) (h0 : X.s_0.heap.get? a = none) (hn : H a = none) (hp : ∀ p ∈ X.pn ++ pins, p.1 ≠ a) (e : s.heap.get? a = some o) (hz : Zc cls d o) (hd : o.data = .fields vs) : Inv X pins σ (upd H a (ExC a cls d)) s where
  ok := I.ok
  os := I.os
  bare := I.bare
  base := ⟨I.base.keep, I.base.slot, fun b u q n x => by rw [upd_ne (fun z => by rw [z, h0] at q; cases q)]; exact I.base.free b u q n x, I.base.there,
    fun b xs q => by have := I.base.tups b xs q; rw [upd_ne (ne_of_none this hn)]; exact this, fun b u v q => by have := I.base.frzs b u v q; rw [upd_ne (ne_of_none this hn)]; exact this,
    fun b ps q => by obtain ⟨more, r⟩ := I.base.tbls b ps q; exact ⟨more, by rw [upd_ne (ne_of_none r hn)]; exact r⟩⟩
  loc := I.loc
  cell := I.cell
  free := by
    rw [upd_ne (fun z => by
      obtain ⟨m, ⟨o', es, ep, ho', hd', _⟩, _⟩ := I.loc
      rw [z, e] at ho'
      cases ho'
      rw [hd] at hd'
      cases hd')]
    exact I.free
  freeC := fun x c hc => by
    rw [upd_ne (fun z => by
      obtain ⟨v, o', ho', hd'⟩ := I.cell x c hc
      rw [z, e] at ho'
      cases ho'
      rw [hd] at hd'
      cases hd')]
    exact I.freeC x c hc
  pin := fun p q => by
    obtain ⟨p1, p2, p3, p4, p5⟩ := I.pin p q
    exact ⟨p1, by rw [upd_ne (hp p q)]; exact p2, p3, p4, p5⟩
  hok := HOk.laidN I.hok (fun _ _ q => q) hn ⟨⟨o, vs, e, hz.1, hz.2, hd⟩, ⟨o, e⟩, fun h1 h2 ⟨u, us, k1, k2⟩ k => ⟨u, us, k u k1, k2⟩⟩
  len := I.len
def wKeep (K : PySem.W.Frag) (c : Value) (ln i j : Nat) (D : Ends) : WX := fun cls d σ H =>
  PySem.W.exmOne K cls c = some true ∧ ∀ a, H a = none → σ.length = ln → D.nx ((σ.set j (some (.ref a))).set i none) (upd H a (ExC a cls d))
theorem ps_keep {x n y : Str} {c : Value} {i j : Nat} {body : List Stmt} {np np2 py pos pos' pos2 : Pos} {tb : WX → TS} (hs : X.stack = X.env :: X.outer) (hx0 : X.ex = []) (hf : X.env.frame = some X.env.locals) (hN : X.N.Nodup) (hi : X.N[i]? = some n) (hln : X.env.kindOf n = some .local) (hj : X.N[j]? = some y) (hly : X.env.kindOf y = some .local) (hij : i ≠ j)
    (hdn : (n == ("__debug__" : Str)) = false) (hcn : (n == ("__classdict__" : Str)) = false) (hc : Names X x c)
    (hb : ∀ (W : WX) (pn : List (Addr × Obj)) (xe : Value → Shared → Prop), Takes (X.tr pn xe) W → PassesOwn (model X.prog X.w) X.A X.env xe → PSs (X.tr pn xe) body (tb W)) :
    PS X (.Try body [.ExceptHandler (some (.Name x np)) (some n) [.Assign [.Name y py] (.Name n np2) pos2] pos'] [] [] pos) (fun D σ H => tb (wKeep X.K c X.N.length i j D) D σ H) := by
  refine ⟨fun pins s σ H D I h => wpAny_Try_except ?_⟩
  have frm : X.A.frames = some (X.env :: X.outer) := I.ok.frames.trans (congrArg some hs)
  refine wpAny_mono ((hb (wKeep X.K c X.N.length i j D) (X.pn ++ pins) (fun e s₁ => wpAny (model X.prog X.w) X.A (noteFrame e X.env) (fun _ s₂ => wpAny (model X.prog X.w) X.A (setFlight e none) (fun _ s₃ =>
    wpAny (model X.prog X.w) X.A (handleBy e X.env [.ExceptHandler (some (.Name x np)) (some n) [.Assign [.Name y py] (.Name n np2) pos2] pos']) (SP X pins D) X.xe s₃) X.xe s₂) X.xe s₁) (fun u t hx => ?_) PassesOwn.looking).run [] s σ H D (I.toTry _) h) (fun f t q => ?_) (fun _ _ z => z)
  · obtain ⟨a, B, sI, pns, τ, H1, cls, d, rfl, Jt, nb, up, sky, na, os, ag, eb, yes⟩ := hx
    have J : Inv X pins τ H1 sI := Jt.ofTry I.ok
    have sky2 : Sky B (X.env :: X.outer) a (Zc cls d) X.env.locals t.heap := by rw [← hs]; exact sky
    show wpAny _ X.A (noteFrame (.ref a) X.env) _ _ _
    refine Sky.land Zc.steady frm hf sky2 fun h3 fl up3 => ?_
    have J3 : Inv X pins τ H1 { t with heap := h3 } := J.landed nb fl.1 (up.trans up3) os ag
    obtain ⟨oe, vs, g3, z3, d3⟩ := fl.there
    have out : a ∉ frs (X.env :: X.outer) := fun hm => by
      obtain ⟨_, o', g', nf⟩ := fl.2.2.1.mem hm
      rw [g3] at g'
      cases g'
      exact nf _ d3
    have nL : a ≠ X.env.locals := fun z => out (List.mem_filterMap.mpr ⟨X.env, List.mem_cons_self, by rw [hf, z]⟩)
    have nF : a ∉ X.fs := fun hm => let ⟨e, he, q⟩ := List.mem_filterMap.mp hm; out (List.mem_filterMap.mpr ⟨e, List.mem_cons_of_mem _ he, q⟩)
    have young : sI.heap.get? a = none := by
      cases ea : sI.heap.get? a with
      | none => rfl
      | some o =>
        have := nb a o ea (by rw [hs]; exact out)
        rw [fl.2.1] at this
        cases this
    have h0 : X.s_0.heap.get? a = none := by
      cases ea : X.s_0.heap.get? a with
      | none => rfl
      | some o =>
        obtain ⟨o2, r⟩ := J.base.there a o ea (by rw [hx0]; simp)
        rw [young] at r
        cases r
    have hp : ∀ p ∈ X.pn ++ pins, p.1 ≠ a := fun p q z => by
      have := (J.pin p q).1
      rw [z, young] at this
      cases this
    have S3 := J3.suite g3 d3 na nL nF
    refine wpAny_handleBy_cons (codeAny_handlers_test ?_) (fun q => by cases q)
    have ty : PySem.W.Looks (model X.prog X.w) h3 (typeOf (.ref a)) cls := fun _ _ _ _ k q => wpAny_typeOf_ref (k _ _ g3) (by rw [z3.1]; exact q)
    have met := PySem.W.exm_one (M := model X.prog X.w) (J3.kIn) ty eb
    have name : ∀ {Q : Value → Shared → Prop} {E : Value → Shared → Prop}, Q c { t with heap := h3 } → wpAny (model X.prog X.w) (X.A.mark (some (.ref a))) (eval (.Name x np) X.env) Q E { t with heap := h3 } := by
      intro Q E q
      obtain ⟨hg, hdb, hm | ⟨hm, hv, hnn⟩⟩ := hc
      · exact ld_glob (X := X.suite a ((a, oe) :: (X.pn ++ pins))) S3 hg hm q hdb
      · exact ld_blt (X := X.suite a ((a, oe) :: (X.pn ++ pins))) S3 hg hm hv q hnn hdb
    refine name (met.here ?_)
    refine codeAny_handlers_suite_as ?_
    refine HandSPX.lands_againZ fl fun h4 fl4 up4 => ?_
    have J4 : Inv X pins τ H1 { t with heap := h4 } := J.landed nb fl4.1 ((up.trans up3).trans up4) os ag
    obtain ⟨o4, vs4, g4, z4, d4⟩ := fl4.there
    have S4 := J4.suite g4 d4 na nL nF
    refine store_ok (X := X.suite a ((a, o4) :: (X.pn ++ pins))) (v := .ref a) S4 hN hi (.inl hln) rfl (fun s5 S5 => ?_) (.inr hln)
    have ili : i < τ.length := by rw [J.len]; exact (List.getElem?_eq_some_iff.mp hi).1
    have st : PSs (X.suite a ((a, o4) :: (X.pn ++ pins))) [.Assign [.Name y py] (.Name n np2) pos2] (tAsg (tVar i) (gName j)) := pss_one (ps_set hN hj (.inl hly) (pe_var hi (.inl hln) hdn hcn) rfl (.inr hly))
    refine wpAny_mono (st.run [] s5 _ H1 { nx := fun σ' H' => σ' = (τ.set i (some (.ref a))).set j (some (.ref a)) ∧ H' = H1, rt := fun _ _ => False } S5 ⟨.ref a, by rw [List.getElem?_set_self ili], rfl, rfl⟩) (fun f s6 q => ?_) (fun _ _ z => False.elim z)
    cases f with
    | next =>
      obtain ⟨τ6, H6, S6, e6, e7⟩ := q
      subst e6 e7
      have pa := S6.pin (a, o4) (by show (a, o4) ∈ ((a, o4) :: (X.pn ++ pins)) ++ []; simp)
      have U6 := S6.unsuite I.ok
      have J6 : Inv X ((a, o4) :: pins) ((τ.set i (some (.ref a))).set j (some (.ref a))) H6 s6 := U6.pins_of fun p hp => (List.mem_cons.mp hp).elim (fun z => by rw [z]; exact pa) fun z => U6.pin p (List.mem_append_right _ z)
      refine gone_ok J6 hN hi hln fun s7 J7 => ?_
      have pa7 := J7.pin (a, o4) (List.mem_append_right _ List.mem_cons_self)
      have K7 : Inv X pins _ H6 s7 := J7.pins_of fun p hp => J7.pin p (List.mem_append_right _ (List.mem_cons_of_mem _ hp))
      refine ⟨_, _, Inv.track K7 h0 na hp pa7.1 z4 d4, ?_⟩
      have := yes a na J.len
      rw [List.set_comm _ _ hij, List.set_set]
      exact this
    | brk => obtain ⟨_, _, _, z⟩ := q; exact z.elim
    | cont => obtain ⟨_, _, _, z⟩ := q; exact z.elim
    | ret u => obtain ⟨_, _, _, _, _, z⟩ := q; exact z.elim
  · cases f with
    | next => obtain ⟨τ, B, J, q⟩ := q; exact wpAny_execs_nil ⟨τ, B, J.ofTry I.ok, q⟩
    | brk => obtain ⟨τ, B, J, q⟩ := q; exact ⟨τ, B, J.ofTry I.ok, q⟩
    | cont => obtain ⟨τ, B, J, q⟩ := q; exact ⟨τ, B, J.ofTry I.ok, q⟩
    | ret u => obtain ⟨v, τ, B, J, r, q⟩ := q; exact ⟨v, τ, B, J.ofTry I.ok, r, q⟩
def TTkeep (K : PySem.W.Frag) (CS : Addr) : (XK → Hp → VK → Prop) → Hp → VK → Prop := fun tl H Q =>
  tl (fun cls d H' => PySem.W.exmOne K cls (.ref CS) = some true ∧ ∀ ad, H' ad = none → Q (.ref ad) (upd H' ad (ExC ad cls d))) H fun _ H' => Q .non H'
theorem keep_gives {a y n x e q : Str} {sg : Scope} {g CS : Addr} {cdg : Value} {k0 : Nat} {p0 p1 p2 p3 p4 p5 p6 p7 p8 p9 p10 p11 p12 p13 : Pos} (hge : sg.names.lookup e = some .globalImplicit) (hme : X.mg e = some (.ref CS)) (hde : (e == ("__debug__" : Str)) = false)
    (nd : ([a, y, n] : List Str).Nodup) (hy : sg.names.lookup y = some .local) (hn : sg.names.lookup n = some .local) (hdn : (n == ("__debug__" : Str)) = false) (hcn : (n == ("__classdict__" : Str)) = false) (hdy : (y == ("__debug__" : Str)) = false) (hcy : (y == ("__classdict__" : Str)) = false) :
    LamX.GivesTo X [a, y, n] x sg g cdg [.Assign [.Name y p0] (.Constant .none k0 p1) p2, .Try [.Expr (.Call (.Name a p3) [] [] p4) p5] [.ExceptHandler (some (.Name e p6)) (some n) [.Assign [.Name y p7] (.Name n p8) p9] p10] [] [] p11, .Return (some (.Name y p12)) p13] a q (TTkeep X.K CS) := by
  intro f c' s H Q tl act hc h
  have hgl : Gl (cxOf C8.CX0 X.prog X.w X.K X.mg X.base [a, y, n] x sg g cdg X.A X.stack s H C8.E0).nox e := hge
  have key := ps_keep (X := (cxOf C8.CX0 X.prog X.w X.K X.mg X.base [a, y, n] x sg g cdg X.A X.stack s H C8.E0).nox) (i := 2) (j := 1) (n := n) (y := y) (x := e) (np := p6) (np2 := p8) (py := p7) (pos := p11) (pos' := p10) (pos2 := p9) (c := .ref CS) (body := [.Expr (.Call (.Name a p3) [] [] p4) p5])
      (tb := fun W D σ H => ∃ Ech : XK, (∀ cls d σ' H', Ech cls d H' → W cls d σ' H') ∧ σ[0]? = some (some (.ref f)) ∧ H c' = some (LamX.CodeO c' q) ∧ tl Ech H fun _ H' => D.nx σ H')
      rfl rfl rfl nd rfl hn rfl hy (by decide) hdn hcn ⟨hgl, hde, .inl hme⟩ (fun W pn xe tk _ => ⟨fun pins s' σ H' D I ⟨Ech, hW, h1, h2, h3⟩ => (pss_one (ps_expr (pos := p5) (act W pn xe Ech p3 p4 tk hW))).run pins s' σ H' D I ⟨h1, h2, h3⟩⟩)
  refine ⟨_, pss_cons (ps_set (X := (cxOf C8.CX0 X.prog X.w X.K X.mg X.base [a, y, n] x sg g cdg X.A X.stack s H C8.E0).nox) (i := 1) nd rfl (.inl hy) pe_non rfl (.inr hy)) (pss_cons key (pss_one (ps_ret (pe_var (i := 1) rfl (.inl hy) hdy hcy)))), ?_⟩
  refine ⟨fun cls d H' => PySem.W.exmOne X.K cls (.ref CS) = some true ∧ ∀ ad, H' ad = none → Q (.ref ad) (upd H' ad (ExC ad cls d)), fun cls d σ' H' ⟨e1, e2⟩ => ⟨e1, fun ad na hl => ⟨.ref ad, ?_, e2 ad na⟩⟩, rfl, hc, ?_⟩
  · have hl : σ'.length = 3 := hl
    rw [List.getElem?_set_ne (by decide), List.getElem?_set_self (by omega)]
  · have e1 : (fun (_ : V) (H' : Hp) => tRet (tVar 1) { nx := fun _ H' => Q .non H', rt := Q } ((L2.start [a, y, n] [V.ref f]).set 1 (some .non)) H') = fun _ H' => Q .non H' := by
      funext _ H'
      exact propext ⟨fun ⟨v, e, q⟩ => by cases e; exact q, fun q => ⟨.non, rfl, q⟩⟩
    show tl _ H (fun (_ : V) (H' : Hp) => tRet (tVar 1) { nx := fun _ H' => Q .non H', rt := Q } ((L2.start [a, y, n] [V.ref f]).set 1 (some .non)) H')
    rw [e1]
    exact h
end
end Ev

set_option Elab.async false
set_option linter.all false
set_option maxRecDepth 100000
set_option maxHeartbeats 4000000
namespace Ev
open PySem PySem.Spec PyProof.Rows L2
open Classical
section
variable {C : Cf} {X : Cx} {Wx : WX}
/-- a lambda's making changes nothing that the store leans on -/
theorem RS.lam {ρ : List Addr} {H H1 : Hp} {m : Store} (R : RS C ρ H m) (e : LamX.ExtN H H1) (t : LamX.Tabs C.T H1) : RS C ρ H1 m ∧ Ext ρ H ρ H1 := by
  have x : Ext ρ H ρ H1 := ⟨List.prefix_refl _, fun a o h _ nt => e a o h nt, fun _ h n => absurd h n⟩
  refine ⟨⟨R.len, R.nd, fun n o a h1 h2 => ?_, t⟩, x⟩
  have r := R.obj n o a h1 h2
  obtain ⟨u, eu, nt⟩ := r.there
  exact r.mono0 (x.ext0 R) (by rw [eu]; exact e a u eu nt)
theorem caught_imp {subc : String → String → Option Bool} {cls : String} {fa : En → Store → Res W} (hexm : ∀ c, subc c cls = some true → PySem.W.exmOne X.K (.ref (C.ca c)) (.ref (C.ca cls)) = some true) {σ : L2.St} {H : Hp} {Q : VK} :
    tE C Wx (fun en m => cgt subc cls (fa en m)) σ H Q → LamX.tLam C.T (TTkeep X.K (C.ca cls)) (fun E => tE C (wx E) fa) σ H Q := by
  rintro ⟨ρ, en, m, E, R, P⟩
  refine ⟨R.tabs, fun H1 eN t1 => ?_⟩
  obtain ⟨R1, x1⟩ := R.lam eN t1
  refine ⟨ρ, en, m, E.ext (x1.ext0 R), R1, ?_⟩
  dsimp only at P
  cases ef : fa en m with
  | bad => rw [ef] at P; exact P.elim
  | ok w m1 => rw [ef] at P; exact fun b ρ2 H2 x R2 q => P .non ρ2 H2 (x1.trans x) R2 RW.non
  | exc c ws m1 =>
    rw [ef] at P
    have P : PR C (RW C) σ Wx ρ H (if subc c cls = some true then Res.ok (W.exc c ws) m1 else .bad) Q := P
    by_cases hc : subc c cls = some true
    · rw [if_pos hc] at P
      intro d ρ2 H2 x R2 q
      refine ⟨hexm c hc, fun ad na => ?_⟩
      have sD := Sm.upd (o := ExC ad (.ref (C.ca c)) d) na
      refine P _ ρ2 _ ((x1.trans x).trans (.of_sm sD)) (R2.sm sD) ?_
      rw [RW]
      have q2 := q.mono0 (sD.ext0 (ρ := ρ2))
      exact ⟨ad, d, rfl, R2.notin na, upd_same, q2⟩
    · rw [if_neg hc] at P
      exact P.elim
end
end Ev

set_option Elab.async false
set_option linter.all false
set_option maxRecDepth 100000
set_option maxHeartbeats 4000000
/-! The check that a core term is the text of an expression. -/
namespace Ev
open PySem PySem.Spec PyProof.Rows L2
def ndb (x : Str) : Bool := !(x == ("__debug__" : Str)) && !(x == ("__classdict__" : Str))
def visB (sc : Scope) (x : Str) : Bool := match sc.names.lookup x with
  | some .local => true
  | some .cell => true
  | some .free => true
  | _ => false
def glB (sc : Scope) (x : Str) : Bool := match sc.names.lookup x with
  | some .globalImplicit => !(x == ("__debug__" : Str))
  | _ => false
def locB (fnc : Bool) (sc : Scope) (x : Str) : Bool := match sc.names.lookup x with
  | some .local => true
  | some .cell => fnc
  | _ => false
def loc1 (sc : Scope) (x : Str) : Bool := match sc.names.lookup x with
  | some .local => true
  | _ => false
def atB (N : List Str) (i : Nat) (x : Str) : Bool := match N[i]? with
  | some y => decide (y = x)
  | none => false
def bopB : Bop → Operator → Bool
  | .add, .Add => true
  | .sub, .Sub => true
  | .mul, .Mult => true
  | .div, .FloorDiv => true
  | .mod, .Mod => true
  | .pow, .Pow => true
  | .shl, .LShift => true
  | .shr, .RShift => true
  | .band, .BitAnd => true
  | .bor, .BitOr => true
  | .bxor, .BitXor => true
  | _, _ => false
def copB : Cop → CmpOp → Bool
  | .eq, .Eq => true
  | .ne, .NotEq => true
  | .lt, .Lt => true
  | .le, .LtE => true
  | .gt, .Gt => true
  | .ge, .GtE => true
  | .is, .Is => true
  | .isn, .IsNot => true
  | .inn, .In => true
  | .nin, .NotIn => true
  | _, _ => false
def biStr : Bi → Option Str
  | .len => some "len"
  | .all => some "all"
  | .any => some "any"
  | .tuple => some "tuple"
  | .list => some "list"
  | .sorted => some "sorted"
  | .min => some "min"
  | .max => some "max"
  | .abs => some "abs"
  | .int => some "int"
  | .sum => some "sum"
  | _ => none
def mtStr : Mt → Option Str
  | .append => some "append"
  | .extend => some "extend"
  | .pop => some "pop"
  | _ => none
/-- the names; may a lambda be made -/
structure Nm where
  n : List Str
  lm : Bool := false
def prs (N : List Str) (own : List Nat) : List (Str × Nat) := own.filterMap fun i => N[i]?.map fun x => (x, i)
mutual
def chkTg : Tg → List Str → Bool → Scope → Expr → Bool
  | .v i, N, fnc, sc, e => (match e with
    | .Name x _ => atB N i x && locB fnc sc x
    | _ => false)
  | .t ts, N, fnc, sc, e => (match e with
    | .Tuple es _ _ => es.all nst && decide (ts.length = es.length) && chkTgs ts N fnc sc es
    | _ => false)
def chkTgs : List Tg → List Str → Bool → Scope → List Expr → Bool
  | [], _, _, _, es => es.isEmpty
  | t :: ts, N, fnc, sc, es => (match es with
    | e :: es => chkTg t N fnc sc e && chkTgs ts N fnc sc es
    | [] => false)
end
def isTupE : Expr → Bool
  | .Tuple _ _ _ => true
  | _ => false
def gsOne : Gs → Bool
  | .cons _ _ _ .nil => true
  | _ => false
def gsLen : Gs → Bool
  | .cons _ _ _ .nil => true
  | .cons _ _ _ (.cons _ _ _ .nil) => true
  | _ => false
section
variable (P : Prog)
/-- a call of a built-in thing -/
def callOf (nm : Str) (sc : Scope) (e : Expr) : Option (List Expr) := match e with
  | .Call (.Name f _) args [] _ => if decide (f = nm) && glB sc f && args.all nst && !args.isEmpty then some args else none
  | _ => none
mutual
def chkE : E → Nm → Scope → Expr → Bool
  | .var i, N, sc, e => (match e with
    | .Name x _ => atB N.n i x && visB sc x && ndb x
    | _ => false)
  | .non, _, _, e => (match e with
    | .Constant .none _ _ => true
    | _ => false)
  | .bl b, _, _, e => (match e with
    | .Constant (.bool c) _ _ => b == c
    | _ => false)
  | .int i, _, _, e => (match e with
    | .Constant (.int j) _ _ => decide (i = j)
    | _ => false)
  | .str x, _, _, e => (match e with
    | .Constant (.str y) _ _ => decide (x = y)
    | _ => false)
  | .una o a, N, sc, e => (match o, e with
    | .neg, .UnaryOp .USub x _ => chkE a N sc x
    | .not, .UnaryOp .Not x _ => chkE a N sc x
    | _, _ => false)
  | .bin o a b, N, sc, e => (match e with
    | .BinOp l op r _ => bopB o op && chkE a N sc l && chkE b N sc r
    | _ => false)
  | .and a b, N, sc, e => (match e with
    | .BoolOp .And [x, y] _ => chkE a N sc x && chkE b N sc y
    | .BoolOp .And (x :: y :: z :: r) p => chkE a N sc x && chkE b N sc (.BoolOp .And (y :: z :: r) p)
    | _ => false)
  | .or a b, N, sc, e => (match e with
    | .BoolOp .Or [x, y] _ => chkE a N sc x && chkE b N sc y
    | .BoolOp .Or (x :: y :: z :: r) p => chkE a N sc x && chkE b N sc (.BoolOp .Or (y :: z :: r) p)
    | _ => false)
  | .cmp o a b, N, sc, e => (match e with
    | .Compare l [op] [r] _ => copB o op && !behindInMarks op r && chkE a N sc l && chkE b N sc r
    | _ => false)
  | .chn o a b p c, N, sc, e => (match e with
    | .Compare l [op, op2] [r, r2] _ => copB o op && copB p op2 && !lastMarks [op, op2] [r, r2] && chkE a N sc l && chkE b N sc r && chkE c N sc r2
    | _ => false)
  | .ite c a b, N, sc, e => (match e with
    | .IfExp t x y _ => chkE c N sc t && chkE a N sc x && chkE b N sc y
    | _ => false)
  | .tup es, N, sc, e => (match e with
    | .Tuple xs _ _ => chkEs es N sc xs
    | _ => false)
  | .lst es, N, sc, e => (match e with
    | .List xs _ => chkEs es N sc xs
    | _ => false)
  | .dct ps, N, sc, e => (match e with
    | .Dict ks vs _ => ks.all (·.isSome) && decide (ks.length = vs.length) && decide (ks.length ≤ 15) && chkPs ps N sc ks vs
    | _ => false)
  | .idx a b, N, sc, e => (match e with
    | .Subscript x y _ => nsl y && chkE a N sc x && chkE b N sc y
    | _ => false)
  | .slc a lo hi, N, sc, e => (match e with
    | .Subscript x (.Slice l h none _) _ => chkE a N sc x && chkOe lo N sc l && chkOe hi N sc h
    | _ => false)
  | .bi b es, N, sc, e => (match b with
    | .lrange => (match callOf "list" sc e with
      | some [e2] => (match callOf "range" sc e2 with
        | some args => chkEs es N sc args && decide (args.length ≤ 2)
        | none => false)
      | _ => false)
    | .lenset => (match callOf "len" sc e with
      | some [e2] => (match callOf "set" sc e2 with
        | some args => chkEs es N sc args && decide (args.length = 1)
        | none => false)
      | _ => false)
    | .sortset => (match callOf "sorted" sc e with
      | some [e2] => (match callOf "set" sc e2 with
        | some args => chkEs es N sc args && decide (args.length = 1)
        | none => false)
      | _ => false)
    | b => (match biStr b with
      | some nm => (match callOf nm sc e with
        | some args => chkEs es N sc args
        | none => false)
      | none => false))
  | .isi a t, N, sc, e => (match callOf "isinstance" sc e with
    | some [x, .Name y _] => chkE a N sc x && glB sc y && (match t with
      | .cls c => P.isCl c && decide (y = (c : Str))
      | t => decide (y = (tyStr t : Str)))
    | _ => false)
  | .call f es, N, sc, e => (match e with
    | .Call (.Name x _) args [] _ => decide (x = (f : Str)) && glB sc x && (P.find f).isSome && args.all nst && chkEs es N sc args
    | _ => false)
  | .callk f ks, N, sc, e => (match e with
    | .Call (.Name x _) [] kws _ => decide (x = (f : Str)) && glB sc x && (match P.find f with
      | some df => df.kw && decide (kws.map (fun k : Keyword => k.1) = (ss df.ps).map some) && chkEs ks N sc (kws.map fun k : Keyword => k.2)
      | none => false)
    | _ => false)
  | .meth a mt es, N, sc, e => (match e with
    | .Call (.Attribute o name apos) args [] cpos => nca o && (apos.endLine == cpos.line) && args.all nst && decide (args.length < 20) && (match mtStr mt with
      | some nm => decide (name = nm)
      | none => false) && chkE a N sc o && chkEs es N sc args
    | _ => false)
  | .lc own x gs, N, sc, e => (match e with
    | .ListComp elt gens scope _ => gsLen gs && blkC N.n sc scope (prs N.n own) && decide ((prs N.n own).map (·.2) = own) && chkE x N (relS scope sc) elt && chkGs gs N sc (relS scope sc) own gens
    | _ => false)
  | .dc own k x gs, N, sc, e => (match e with
    | .DictComp kx vx gens scope _ => gsOne gs && blkC N.n sc scope (prs N.n own) && decide ((prs N.n own).map (·.2) = own) && chkE k N (relS scope sc) kx && chkE x N (relS scope sc) vx && chkGs gs N sc (relS scope sc) own gens
    | _ => false)
  | .caught c a, N, sc, e => (match e with
    | .Call (.Name x _) [.Lambda ⟨[], [], none, [], [], none, []⟩ body scope _] [] _ => N.lm && decide (x = "_law_caught") && glB sc x && P.isCl c && decide (c = "FoundError") && LamX.lamSB sc scope && chkE a ⟨N.n, false⟩ scope body
    | _ => false)
  | _, _, _, _ => false
def chkEs : Es → Nm → Scope → List Expr → Bool
  | .nil, _, _, es => es.isEmpty
  | .cons a r, N, sc, es => (match es with
    | e :: es => nst e && chkE a N sc e && chkEs r N sc es
    | [] => false)
def chkPs : Ps → Nm → Scope → List (Option Expr) → List Expr → Bool
  | .nil, _, _, ks, vs => ks.isEmpty && vs.isEmpty
  | .cons k x r, N, sc, ks, vs => (match ks, vs with
    | some k' :: ks, v :: vs => chkE k N sc k' && chkE x N sc v && chkPs r N sc ks vs
    | _, _ => false)
def chkOe : Oe → Nm → Scope → Option Expr → Bool
  | .none, _, _, o => o.isNone
  | .some a, N, sc, o => (match o with
    | some e => chkE a N sc e
    | none => false)
/-- the clauses: the first one's walked thing in the scope around -/
def chkGs : Gs → Nm → Scope → Scope → List Nat → List Comprehension → Bool
  | .nil, _, _, _, _, gens => gens.isEmpty
  | .cons t it c r, N, sc, sc', own, gens => (match gens with
    | ⟨tg, iter, ifs, 0⟩ :: gens => chkTg t N.n false sc' tg && (t.vars.all fun i => decide (i ∈ own)) && chkWk it N sc tg iter && chkC c N sc' ifs && chkGs r N sc' sc' own gens
    | _ => false)
def chkC : Oe → Nm → Scope → List Expr → Bool
  | .none, _, _, ifs => ifs.isEmpty
  | .some a, N, sc, ifs => (match ifs with
    | [e] => chkE a N sc e
    | _ => false)
def chkWk : Wk → Nm → Scope → Expr → Expr → Bool
  | .of a, N, sc, _, iter => nset iter && chkE a N sc iter
  | .enum a, N, sc, tg, iter => (match callOf "enumerate" sc iter with
    | some [x] => isTupE tg && chkE a N sc x
    | _ => false)
  | .zip a b, N, sc, tg, iter => (match callOf "zip" sc iter with
    | some [x, y] => isTupE tg && chkE a N sc x && chkE b N sc y
    | _ => false)
  | .rng es, N, sc, _, iter => (match callOf "range" sc iter with
    | some args => chkEs es N sc args && decide (args.length ≤ 2)
    | none => false)
end
end
end Ev

set_option Elab.async false
set_option linter.all false
set_option maxRecDepth 100000
set_option maxHeartbeats 4000000
/-! What is checked holds. -/
namespace Ev
open PySem PySem.Spec PyProof.Rows L2
open Classical
def biNames : List Str := ["len", "all", "any", "tuple", "list", "sorted", "set", "min", "max", "abs", "int", "sum", "range", "enumerate", "zip", "isinstance", "bool", "str", "dict"]
structure Gd (C : Cf) (X : Cx) (P : Prog) (call : Call) (E0 : XK) : Prop where
  hP : C.P = X.prog
  hw : C.w = X.w
  hu : X.A.units + 66 < cLine
  calm : X.calm = true
  nd : X.N.Nodup
  kind : X.env.scope.kind = .function
  tk : Takes X (wx E0)
  bi : ∀ x ∈ biNames, X.mg x = none
  fn : ∀ f df, P.find f = some df → (∃ j, FnE C X.prog X.w X.K X.mg X.base call f df j ∧ Room (j + 2) X.A) ∧ ∀ ws m, call f ws m ≠ .bad → ws.length = df.ps.length
  ex : ∀ c, P.isEx c = true → ExE C X.K X.mg c
  ty : ∀ c, P.isCl c = true → TyE C X.K X.mg P.subc c
theorem Gd.blk {C : Cf} {X : Cx} {P : Prog} {call : Call} {E0 : XK} {scope : Scope} {own : List (Str × Nat)} (G : Gd C X P call E0) (ok : BlkOk X.N X.env.scope scope own) (s : Shared) (H : Hp) (A : Addr) (cl : List (Str × Addr)) (fp : List Addr) :
    Gd C (X.blk s H scope (compEnvC scope cl A X.env) fp) P call (fun _ _ _ => False) :=
  ⟨G.hP, G.hw, G.hu, G.calm, G.nd, ok.kind, fun u s' ⟨_, _, _, _, _, _, _, _, _, _, _, _, _, _, _, _, w⟩ => w, G.bi, G.fn, G.ex, G.ty⟩
/-- a list comprehension that is laid where its name stands -/
def swB (e : Expr) (y : Str) (py : Pos) : Bool := match e with
  | .ListComp _ _ scope pos => (py.line == pos.line) && !(scope.names.any fun (n, k) => n == y && (k == .local || k == .cell))
  | _ => false
def ptr : Expr → Bool
  | .UnaryOp .Not _ _ => false
  | .BoolOp _ _ _ => false
  | .IfExp _ _ _ _ => false
  | .Compare _ _ _ _ => false
  | _ => true
theorem ptr_of {a : Expr} {env : Env} (h : ptr a = true) (whole : Sem Value) : isTrue a env whole = (do let v ← whole; standAt a.pos; holding [v] (truthy v)) := by
  cases a <;> first | rfl | exact Bool.noConfusion (show false = true from h) | skip
  rename_i op _ _
  cases op <;> first | rfl | exact Bool.noConfusion (show false = true from h)
structure Snd (C : Cf) (X : Cx) (E0 : XK) (f : En → Store → Res W) (e : Expr) : Prop where
  pe : PE X e (tE C (wx E0) f)
  pt : PT X e (tT C (wx E0) (fT f))
  pw : ∀ op vs p, e = .BoolOp op vs p → PW X e (tT C (wx E0) (fT f))
  sw : ∀ i y py spos, X.N[i]? = some y → X.env.scope.names.lookup y = some .local → swB e y py = true → PS X (.Assign [.Name y py] e spos) (tS C E0 fun en m => (f en m).st fun w m => match bindT (.v i) w en with
      | some en => .nx en m
      | none => .bad)
def nlc : Expr → Bool
  | .ListComp _ _ _ _ => false
  | _ => true
theorem swB_nlc {e : Expr} {y : Str} {py : Pos} (h : nlc e = true) : swB e y py = false := by
  cases e <;> first | rfl | exact Bool.noConfusion (show false = true from h)
section
variable {C : Cf} {X : Cx} {P : Prog} {call make : Call} {E0 : XK} {N : List Str} {sc : Scope} {e : Expr} {f : En → Store → Res W}
def nbo : Expr → Bool
  | .BoolOp _ _ _ => false
  | _ => true
theorem snd_t (h : PE X e (tE C (wx E0) f)) (ht : PT X e (tT C (wx E0) (fT f))) (hb : nbo e = true) (hn : nlc e = true) : Snd C X E0 f e :=
  ⟨h, ht, (fun op vs p z => by subst z; exact Bool.noConfusion (show false = true from hb)), (fun i y py spos _ _ hs => by rw [swB_nlc hn] at hs; cases hs)⟩
theorem ptr_nbo (h : ptr e = true) : nbo e = true := by
  cases e <;> first | rfl | exact Bool.noConfusion (show false = true from h)
theorem snd_p (h : PE X e (tE C (wx E0) f)) (hp : ptr e = true) (hn : nlc e = true) : Snd C X E0 f e := snd_t h (t_plain h (ptr_of hp)) (ptr_nbo hp) hn
theorem vis_of {x : Str} (h : visB sc x = true) : Vis sc x := by
  unfold visB at h
  split at h
  · exact .inl ‹_›
  · exact .inr (.inl ‹_›)
  · exact .inr (.inr ‹_›)
  · cases h
theorem gl_of {x : Str} (hs : X.env.scope = sc) (h : glB sc x = true) : Gl X x ∧ (x == ("__debug__" : Str)) = false := by
  unfold glB at h
  split at h
  · refine ⟨?_, by simpa using h⟩
    show X.env.scope.names.lookup x = _
    rw [hs]; assumption
  · cases h
theorem at_of {i : Nat} {x : Str} (hn : X.N = N) (h : atB N i x = true) : X.N[i]? = some x := by
  unfold atB at h
  split at h
  · rename_i y hy
    have h : y = x := by simpa using h
    rw [hn, hy, h]
  · cases h
theorem ndb_of {x : Str} (h : ndb x = true) : (x == ("__debug__" : Str)) = false ∧ (x == ("__classdict__" : Str)) = false := by
  unfold ndb at h
  rw [Bool.and_eq_true] at h
  exact ⟨by simpa using h.1, by simpa using h.2⟩
theorem bop_of {o : Bop} {op : Operator} (h : bopB o op = true) : bopO o = op := by
  cases o <;> cases op <;> first | rfl | exact Bool.noConfusion (show false = true from h)
theorem cop_of {o : Cop} {op : CmpOp} (h : copB o op = true) : copO o = op := by
  cases o <;> cases op <;> first | rfl | exact Bool.noConfusion (show false = true from h)
theorem call_of {nm : Str} {args : List Expr} (h : callOf nm sc e = some args) : ∃ p pos a as, e = .Call (.Name nm p) args [] pos ∧ args = a :: as ∧ glB sc nm = true ∧ args.all nst = true := by
  unfold callOf at h
  split at h
  · rename_i f p as pos
    split at h
    · rename_i hc
      obtain rfl := Option.some.inj h
      simp only [Bool.and_eq_true] at hc
      obtain ⟨⟨⟨h1, h2⟩, h3⟩, h4⟩ := hc
      have h1 : f = nm := by simpa using h1
      subst h1
      cases as with
      | nil => cases h4
      | cons a as => exact ⟨p, pos, a, as, rfl, rfl, h2, h3⟩
    · cases h
  · cases h
/-- the targets -/
theorem loc_of {fnc : Bool} {x : Str} (hs : X.env.scope = sc) (hf : fnc = true → ∀ x, X.fn x = true) (h : locB fnc sc x = true) : Loc X.env.scope x ∧ (X.fn x = true ∨ X.env.scope.names.lookup x = some .local) := by
  unfold locB at h
  rw [hs]
  split at h
  · exact ⟨.inl ‹_›, .inr ‹_›⟩
  · exact ⟨.inr ‹_›, .inl (hf h x)⟩
  · cases h
mutual
theorem sTg (G : Gd C X P call E0) (hn : X.N = N) (hs : X.env.scope = sc) {fnc : Bool} (hf : fnc = true → ∀ x, X.fn x = true) : ∀ (t : Tg) (e : Expr), chkTg t N fnc sc e = true → PG X e (tTg C t)
  | .v i, e, h => by
    rw [chkTg.eq_def] at h
    dsimp only at h
    split at h
    · rw [Bool.and_eq_true] at h
      obtain ⟨h1, h2⟩ := loc_of hs hf h.2
      exact g_name G.nd (at_of hn h.1) h1 h2
    · cases h
  | .t ts, e, h => by
    rw [chkTg.eq_def] at h
    dsimp only at h
    split at h
    · simp only [Bool.and_eq_true] at h
      exact g_tup G.calm h.1.1 (by simpa using h.1.2) (sTgs G hn hs hf ts _ h.1.1 h.2)
    · cases h
theorem sTgs (G : Gd C X P call E0) (hn : X.N = N) (hs : X.env.scope = sc) {fnc : Bool} (hf : fnc = true → ∀ x, X.fn x = true) : ∀ (ts : List Tg) (es : List Expr), es.all nst = true → chkTgs ts N fnc sc es = true → PGs X es (tTgs C ts)
  | [], es, _, h => by
    rw [chkTgs.eq_def] at h
    dsimp only at h
    cases es with
    | nil => exact g_nil
    | cons e es => cases h
  | t :: ts, es, ha, h => by
    rw [chkTgs.eq_def] at h
    dsimp only at h
    cases es with
    | nil => cases h
    | cons e es =>
      dsimp only at h
      rw [Bool.and_eq_true] at h
      rw [List.all_cons, Bool.and_eq_true] at ha
      exact g_cons ha.1 (sTg G hn hs hf t e h.1) (sTgs G hn hs hf ts es ha.2 h.2)
end
end
end Ev

set_option Elab.async false
set_option linter.all false
set_option maxRecDepth 100000
set_option maxHeartbeats 4000000
/-! What is checked holds: expressions. -/
namespace Ev
open PySem PySem.Spec PyProof.Rows L2
open Classical
section
variable {C : Cf} {X : Cx} {P : Prog} {call make : Call} {E0 : XK} {N : List Str} {sc : Scope} {e : Expr} {f : En → Store → Res W}
theorem sBi (G : Gd C X P call E0) {b : Bi} {nm : Str} (hb : biStr b = some nm) {p pos : Pos} {a : Expr} {as : List Expr} {fs : En → Store → Res (List W)} (hg : Gl X nm) (hs : (a :: as).all nst = true) (ha : PA X (a :: as) (tAs C (wx E0) fs)) :
    PE X (.Call (.Name nm p) (a :: as) [] pos) (tE C (wx E0) fun en m => gc m ((fs en m).bind fun ws m => evBi b ws m)) := by
  have hm : ∀ x ∈ biNames, X.mg x = none := G.bi
  cases b <;> simp only [biStr, Option.some.injEq, reduceCtorEq] at hb <;> subst hb
  · exact l_callB so_len hg (hm _ (by decide)) boot_len (by decide) (by decide) hs ha
  · exact l_callB (so_allF (cr_all G.calm)) hg (hm _ (by decide)) boot_all (by decide) (by decide) hs ha
  · exact l_callB (so_allF (cr_any G.calm)) hg (hm _ (by decide)) boot_any (by decide) (by decide) hs ha
  · exact l_callT so_tuple hg (hm _ (by decide)) boot_tuple (by decide) (by decide) hs ha
  · exact l_callT so_list hg (hm _ (by decide)) boot_list (by decide) (by decide) hs ha
  · exact l_callB (so_sorted G.hu) hg (hm _ (by decide)) boot_sorted (by decide) (by decide) hs ha
  · exact l_callB (so_min2 (call_min2 G.calm)) hg (hm _ (by decide)) boot_min (by decide) (by decide) hs ha
  · exact l_callB (so_min2 (call_max2 G.calm)) hg (hm _ (by decide)) boot_max (by decide) (by decide) hs ha
  · exact l_callB so_abs hg (hm _ (by decide)) boot_abs (by decide) (by decide) hs ha
  · exact l_callT so_intc hg (hm _ (by decide)) boot_int (by decide) (by decide) hs ha
  · exact l_callB (so_sum G.calm) hg (hm _ (by decide)) boot_sum (by decide) (by decide) hs ha
/-! ### list(range(..)) -/
theorem rg_rel {ρ : List Addr} {H : Hp} (i j : Int) : RWs C ρ H (rangeW i j) (rgV i j) := by
  have key : ∀ l : List Nat, RWs C ρ H (l.map fun k => W.int (i + (k : Nat))) (l.map fun k => V.int (i + (k : Nat))) := by
    intro l
    induction l with
    | nil => exact .nil
    | cons k l ih => exact RWs.cons RW.int ih
  exact key _
theorem l_lrange1 (G : Gd C X P call E0) {p p2 pos pos2 : Pos} {a : Expr} {fa : En → Store → Res W} (hg : Gl X "list") (hg2 : Gl X "range") (hs : nst a = true) (ha : PE X a (tE C (wx E0) fa)) :
    PE X (.Call (.Name "list" p) [.Call (.Name "range" p2) [a] [] pos2] [] pos) (tE C (wx E0) fun en m => gc m (((fa en m).bind fun w m => (Res.ok [] m).bind fun ws m => .ok (w :: ws) m).bind fun ws m => evBi .lrange ws m)) := by
  have hm : ∀ x ∈ biNames, X.mg x = none := G.bi
  refine PE_imp (pe_listRg G.calm hg (hm _ (by decide)) (prg_1 hg2 (hm _ (by decide)) ha (star_of hs)) (star_of rfl)) fun σ H Q ⟨ρ, en, m, E, R, P⟩ => ?_
  have P1 := PR.gc R P
  rw [Res.bind_assoc] at P1
  refine ⟨ρ, en, m, E, R, PR.then (rel := RW C) P1 fun v H1 ρ1 w m1 x R1 q P2 => ?_⟩
  obtain ⟨⟨i, j⟩, e1, P3⟩ := PR_of (show PR C (RW C) σ (wx E0) ρ1 H1 ((Res.of (ends [w]) m1).bind fun p m => if RgOk p.1 p.2 then alloc (.lst (rangeW p.1 p.2)) m else .bad) Q from P2)
  split at P3
  · rename_i hb
    rcases ends_some e1 with ⟨e2, e3⟩ | e2
    · cases e2
      simp only at e3
      subst e3
      rw [q.int_iff]
      exact ⟨_, rfl, hb, fun D hD => P3.lst R1 (rg_rel _ _) hD⟩
    · cases e2
  · exact P3.elim
theorem l_lrange2 (G : Gd C X P call E0) {p p2 pos pos2 : Pos} {a b : Expr} {fa fb : En → Store → Res W} (hg : Gl X "list") (hg2 : Gl X "range") (hs : nst a = true) (hs2 : nst b = true) (ha : PE X a (tE C (wx E0) fa)) (hb : PE X b (tE C (wx E0) fb)) :
    PE X (.Call (.Name "list" p) [.Call (.Name "range" p2) [a, b] [] pos2] [] pos) (tE C (wx E0) fun en m => gc m (((fa en m).bind fun w m => ((fb en m).bind fun w m => (Res.ok [] m).bind fun ws m => .ok (w :: ws) m).bind fun ws m => .ok (w :: ws) m).bind fun ws m => evBi .lrange ws m)) := by
  have hm : ∀ x ∈ biNames, X.mg x = none := G.bi
  refine PE_imp (pe_listRg G.calm hg (hm _ (by decide)) (prg_2 hg2 (hm _ (by decide)) ha hb (star_of hs) (star_of hs2) (stars_of (by simp [hs2]))) (star_of rfl)) fun σ H Q ⟨ρ, en, m, E, R, P⟩ => ?_
  have P1 := PR.gc R P
  rw [Res.bind_assoc] at P1
  refine ⟨ρ, en, m, E, R, PR.then (rel := RW C) P1 fun v H1 ρ1 w m1 x R1 q P2 => ?_⟩
  rw [Res.bind_assoc, Res.bind_assoc] at P2
  refine ⟨ρ1, en, m1, E.ext (x.ext0 R), R1, PR.then (rel := RW C) P2 fun v2 H2 ρ2 w2 m2 x2 R2 q2 P4 => ?_⟩
  obtain ⟨⟨i, j⟩, e1, P3⟩ := PR_of (show PR C (RW C) σ (wx E0) ρ2 H2 ((Res.of (ends [w, w2]) m2).bind fun p m => if RgOk p.1 p.2 then alloc (.lst (rangeW p.1 p.2)) m else .bad) Q from P4)
  split at P3
  · rename_i hb
    rcases ends_some e1 with ⟨e2, e3⟩ | e2
    · cases e2
    · cases e2
      rw [q.int_iff, q2.int_iff]
      exact ⟨i, j, rfl, rfl, hb, fun D hD => P3.lst R2 (rg_rel _ _) hD⟩
  · exact P3.elim
end
end Ev

set_option Elab.async false
set_option linter.all false
set_option maxRecDepth 100000
set_option maxHeartbeats 4000000
/-! `_law_caught(lambda: ..)`: the rule. -/
namespace Ev
open PySem PySem.Spec PyProof.Rows L2
open Classical
/-- the body of _law_caught: a its parameter, y its own name, n the exception's -/
def catchB (a y n e : Str) : List Stmt → Bool
  | [.Assign [.Name y1 _] (.Constant .none _ _) _, .Try [.Expr (.Call (.Name a1 _) [] [] _) _] [.ExceptHandler (some (.Name e1 _)) (some n1) [.Assign [.Name y2 _] (.Name n2 _) _] _] [] [] _, .Return (some (.Name y3 _)) _] =>
    decide (y1 = y) && decide (y2 = y) && decide (y3 = y) && decide (a1 = a) && decide (e1 = e) && decide (n1 = n) && decide (n2 = n)
  | _ => false
theorem catch_gives {X : Cx} {a y n e : Str} {body : List Stmt} (hb : catchB a y n e body = true) {x q : Str} {sg : Scope} {g CS : Addr} {cdg : Value} (hge : sg.names.lookup e = some .globalImplicit) (hme : X.mg e = some (.ref CS)) (hde : (e == ("__debug__" : Str)) = false)
    (nd : ([a, y, n] : List Str).Nodup) (hy : sg.names.lookup y = some .local) (hn : sg.names.lookup n = some .local) (hdn : (n == ("__debug__" : Str)) = false) (hcn : (n == ("__classdict__" : Str)) = false) (hdy : (y == ("__debug__" : Str)) = false) (hcy : (y == ("__classdict__" : Str)) = false) :
    LamX.GivesTo X [a, y, n] x sg g cdg body a q (TTkeep X.K CS) := by
  unfold catchB at hb
  split at hb
  · simp only [Bool.and_eq_true, decide_eq_true_eq] at hb
    obtain ⟨⟨⟨⟨⟨⟨rfl, rfl⟩, rfl⟩, rfl⟩, rfl⟩, rfl⟩, rfl⟩ := hb
    exact keep_gives hge hme hde nd hy hn hdn hcn hdy hcy
  · cases hb
/-- the def _law_caught -/
structure CatchOk (K : PySem.W.Frag) (mg : Str → Option Value) (CS : Addr) : Prop where
  ex : ∃ (g : Addr) (fd : FuncData) (y n : Str) (sg : Scope) (pg : Arguments) (body : List Stmt), mg "_law_caught" = some (.ref g) ∧ FunD K "_law_caught" "_law_caught" pg body sg [] [] g fd ∧ Binds K fd ["_law_work"] [] ∧ FnScope ["_law_work", y, n] ["_law_work"] sg ∧
    catchB "_law_work" y n "FoundError" body = true ∧ sg.names.lookup ("FoundError" : Str) = some .globalImplicit ∧ sg.names.lookup ("_law_work" : Str) = some .local ∧ sg.names.lookup y = some .local ∧ sg.names.lookup n = some .local ∧ (n == ("__debug__" : Str)) = false ∧ (n == ("__classdict__" : Str)) = false ∧ (y == ("__debug__" : Str)) = false ∧ (y == ("__classdict__" : Str)) = false
/-- what is asked of a def that makes a lambda -/
structure LamOk (C : Cf) (X : Cx) (P : Prog) (call : Call) : Prop where
  tab : ∃ c Pt, LamX.TabB X.base X.mg c Pt ∧ X.env.code = .ref c ∧ (Pt, X.env.qual ++ "<lambda>") ∈ C.T ∧ ∀ p ∈ C.T, p.1 = Pt → p.2 = X.env.qual ++ "<lambda>"
  fn : ∃ j, (∀ f df, P.find f = some df → FnE C X.prog X.w X.K X.mg X.base call f df j) ∧ Room (j + 4) X.A
  ct : CatchOk X.K X.mg (C.ca "FoundError")
theorem LamOk.blk {C : Cf} {X : Cx} {P : Prog} {call : Call} {scope : Scope} (L : LamOk C X P call) (s : Shared) (H : Hp) (A : Addr) (cl : List (Str × Addr)) (fp : List Addr) : LamOk C (X.blk s H scope (compEnvC scope cl A X.env) fp) P call := ⟨L.tab, L.fn, L.ct⟩
section
variable {C : Cf} {X : Cx} {P : Prog} {call : Call} {E0 : XK}
theorem l_caught (G : Gd C X P call E0) (L : LamOk C X P call) (hc : P.isCl "FoundError" = true) {scope : Scope} {body : Expr} {fa : En → Store → Res W} {p lpos pos : Pos} (hg : Gl X "_law_caught") (S : LamX.LamS X.env.scope scope)
    (hbody : ∀ (A : Around) (outer : List Env) (s : Shared) (H : Hp) (E : XK) (f c' : Addr), Gd C (LamX.lamCx X A outer s H E scope f c') P call E → PE (LamX.lamCx X A outer s H E scope f c') body (tE C (wx E) fa)) :
    PE X (.Call (.Name "_law_caught" p) [.Lambda ⟨[], [], none, [], [], none, []⟩ body scope lpos] [] pos) (tE C (wx E0) fun en m => cgt P.subc "FoundError" (fa en m)) := by
  obtain ⟨c, Pt, TB, hcode, hmT, hu⟩ := L.tab
  obtain ⟨j, hF, hr⟩ := L.fn
  obtain ⟨g, fd, y, n, sg, pg, bg, m1, F, hbd, Sg, hcb, n1, n0, n2, n3, d1, d2, d3, d4⟩ := L.ct.ex
  obtain ⟨oc, od, dV, kV, doc, pm, an, cdv, ct, osl, rfl, lk, hcd, _, _⟩ := F.ex
  have T0 := G.ty "FoundError" hc
  refine PE_imp (LamX.pe_lamcall (T := C.T) (TT := TTkeep X.K (C.ca "FoundError")) (k := j + 2) (Ng := ["_law_work", y, n]) (a := "_law_work") (t := fun E => tE C (wx E) fa) hg m1 F.kp lk hcd hbd Sg rfl (.inl n0)
    (catch_gives hcb n1 T0.mg (by decide) Sg.nd n2 n3 d1 d2 d3 d4) TB hcode hmT hu hr S rfl (fun q cl pm cv ctv => rfl) fun A outer s H E f c' hr2 => ?_) fun σ H Q h => caught_imp (fun d hd => (T0.exc d true hd).2.2) h
  exact hbody A outer s H E f c' { hP := G.hP, hw := G.hw, hu := (by have := hr2.un; show (A.deeper _).units + 66 < cLine; omega), calm := rfl, nd := G.nd, kind := S.kind, tk := takes_of rfl rfl rfl rfl, bi := G.bi, fn := fun f df hf => ⟨⟨j, hF f df hf, hr2⟩, (G.fn f df hf).2⟩, ex := G.ex, ty := G.ty }
end
end Ev

set_option Elab.async false
set_option linter.all false
set_option maxRecDepth 100000
set_option maxHeartbeats 4000000
/-! What is checked holds: expressions. -/
namespace Ev
open PySem PySem.Spec PyProof.Rows L2
open Classical
/-- sets: what the sections on sets prove -/
structure SetOk (C : Cf) : Prop where
  len : ∀ {X : Cx} {P : Prog} {call : Call} {E0 : XK} (G : Gd C X P call E0) {p p2 pos pos2 : Pos} {a : Expr} {fa : En → Store → Res W}, Gl X "len" → Gl X "set" → nst a = true → PE X a (tE C (wx E0) fa) →
    PE X (.Call (.Name "len" p) [.Call (.Name "set" p2) [a] [] pos2] [] pos) (tE C (wx E0) fun en m => gc m (((fa en m).bind fun w m => (Res.ok [] m).bind fun ws m => .ok (w :: ws) m).bind fun ws m => evBi .lenset ws m))
  sort : ∀ {X : Cx} {P : Prog} {call : Call} {E0 : XK} (G : Gd C X P call E0) {p p2 pos pos2 : Pos} {a : Expr} {fa : En → Store → Res W}, Gl X "sorted" → Gl X "set" → nst a = true → PE X a (tE C (wx E0) fa) →
    PE X (.Call (.Name "sorted" p) [.Call (.Name "set" p2) [a] [] pos2] [] pos) (tE C (wx E0) fun en m => gc m (((fa en m).bind fun w m => (Res.ok [] m).bind fun ws m => .ok (w :: ws) m).bind fun ws m => evBi .sortset ws m))
theorem kw_eq : ∀ {kws : List Keyword}, kws = kws.map fun k : Keyword => ⟨k.1, k.2, k.3⟩
  | [] => rfl
  | ⟨a, b, c⟩ :: r => congrArg (⟨a, b, c⟩ :: ·) kw_eq
theorem nset_of {P : Prog} : ∀ {c : Wk} {N : Nm} {sc : Scope} {tg iter : Expr}, chkWk P c N sc tg iter = true → nset iter = true
  | .of a, N, sc, tg, iter, h => by
    rw [chkWk.eq_def] at h; dsimp only at h
    rw [Bool.and_eq_true] at h
    exact h.1
  | .enum a, N, sc, tg, iter, h => by
    rw [chkWk.eq_def] at h; dsimp only at h
    cases ec : callOf "enumerate" sc iter with
    | none => rw [ec] at h; cases h
    | some as => obtain ⟨p, pos, a0, as0, rfl, _⟩ := call_of ec; rfl
  | .zip a b, N, sc, tg, iter, h => by
    rw [chkWk.eq_def] at h; dsimp only at h
    cases ec : callOf "zip" sc iter with
    | none => rw [ec] at h; cases h
    | some as => obtain ⟨p, pos, a0, as0, rfl, _⟩ := call_of ec; rfl
  | .rng es, N, sc, tg, iter, h => by
    rw [chkWk.eq_def] at h; dsimp only at h
    cases ec : callOf "range" sc iter with
    | none => rw [ec] at h; cases h
    | some as => obtain ⟨p, pos, a0, as0, rfl, _⟩ := call_of ec; rfl
section
variable {C : Cf} {P : Prog} {call make : Call} (S : SetOk C)
include S
mutual
theorem sE : ∀ (c : E) {X : Cx} {E0 : XK} {N : Nm} {sc : Scope} (G : Gd C X P call E0) (hl : N.lm = true → LamOk C X P call) (hn : X.N = N.n) (hs : X.env.scope = sc) (e : Expr), chkE P c N sc e = true → Snd C X E0 (evE P.subc P.fieldsOf call make c) e
  | .var i, X, E0, N, sc, G, hl, hn, hs, e, h => by
    rw [chkE.eq_def] at h; dsimp only at h
    split at h
    · simp only [Bool.and_eq_true] at h
      obtain ⟨⟨h1, h2⟩, h3⟩ := h
      obtain ⟨d1, d2⟩ := ndb_of h3
      exact snd_p (l_var (at_of hn h1) (by rw [hs]; exact vis_of h2) d1 d2) rfl rfl
    · cases h
  | .non, X, E0, N, sc, G, hl, hn, hs, e, h => by
    rw [chkE.eq_def] at h; dsimp only at h
    split at h
    · exact snd_p l_non rfl rfl
    · cases h
  | .bl b, X, E0, N, sc, G, hl, hn, hs, e, h => by
    rw [chkE.eq_def] at h; dsimp only at h
    split at h
    · obtain rfl : b = _ := by simpa using h
      exact snd_p l_bl rfl rfl
    · cases h
  | .int i, X, E0, N, sc, G, hl, hn, hs, e, h => by
    rw [chkE.eq_def] at h; dsimp only at h
    split at h
    · obtain rfl : i = _ := by simpa using h
      exact snd_p l_int rfl rfl
    · cases h
  | .str x, X, E0, N, sc, G, hl, hn, hs, e, h => by
    rw [chkE.eq_def] at h; dsimp only at h
    split at h
    · obtain rfl : x = _ := by simpa using h
      exact snd_p l_str rfl rfl
    · cases h
  | .una o a, X, E0, N, sc, G, hl, hn, hs, e, h => by
    rw [chkE.eq_def] at h; dsimp only at h
    split at h
    · exact snd_p (l_neg (sE a G hl hn hs _ h).pe) rfl rfl
    · have i := sE a G hl hn hs _ h
      exact snd_t (l_not i.pe) (t_not i.pt) rfl rfl
    · cases h
  | .bin o a b, X, E0, N, sc, G, hl, hn, hs, e, h => by
    rw [chkE.eq_def] at h; dsimp only at h
    split at h
    · simp only [Bool.and_eq_true] at h
      obtain ⟨⟨h1, h2⟩, h3⟩ := h
      obtain rfl := bop_of h1
      exact snd_p (l_bin o (sE a G hl hn hs _ h2).pe (sE b G hl hn hs _ h3).pe) rfl rfl
    · cases h
  | .and a b, X, E0, N, sc, G, hl, hn, hs, e, h => by
    rw [chkE.eq_def] at h; dsimp only at h
    split at h
    · rename_i x y p
      simp only [Bool.and_eq_true] at h
      have i := sE a G hl hn hs _ h.1
      have j := sE b G hl hn hs _ h.2
      have t := t_and (pos := p) i.pt (pw_and1 j.pt)
      exact ⟨l_and i.pe (pe_one j.pe), t.pt, (fun op vs p z => by cases z; exact t), (fun i y py spos _ _ hs => by cases hs)⟩
    · simp only [Bool.and_eq_true] at h
      have i := sE a G hl hn hs _ h.1
      have j := sE b G hl hn hs _ h.2
      have t := t_and i.pt (j.pw _ _ _ rfl)
      exact ⟨l_and i.pe j.pe, t.pt, (fun op vs p z => by cases z; exact t), (fun i y py spos _ _ hs => by cases hs)⟩
    · cases h
  | .or a b, X, E0, N, sc, G, hl, hn, hs, e, h => by
    rw [chkE.eq_def] at h; dsimp only at h
    split at h
    · rename_i x y p
      simp only [Bool.and_eq_true] at h
      have i := sE a G hl hn hs _ h.1
      have j := sE b G hl hn hs _ h.2
      have t := t_or (pos := p) i.pt (pw_or1 j.pt)
      exact ⟨l_or i.pe (pe_one j.pe), t.pt, (fun op vs p z => by cases z; exact t), (fun i y py spos _ _ hs => by cases hs)⟩
    · simp only [Bool.and_eq_true] at h
      have i := sE a G hl hn hs _ h.1
      have j := sE b G hl hn hs _ h.2
      have t := t_or i.pt (j.pw _ _ _ rfl)
      exact ⟨l_or i.pe j.pe, t.pt, (fun op vs p z => by cases z; exact t), (fun i y py spos _ _ hs => by cases hs)⟩
    · cases h
  | .cmp o a b, X, E0, N, sc, G, hl, hn, hs, e, h => by
    rw [chkE.eq_def] at h; dsimp only at h
    split at h
    · simp only [Bool.and_eq_true] at h
      obtain ⟨⟨⟨h1, h2⟩, h3⟩, h4⟩ := h
      obtain rfl := cop_of h1
      have i := sE a G hl hn hs _ h3
      have j := sE b G hl hn hs _ h4
      exact snd_t (l_cmp G.hP G.hw G.hu o (by simpa using h2) i.pe j.pe) (t_cmp G.hP G.hw G.hu o (by simpa using h2) i.pe j.pe) rfl rfl
    · cases h
  | .chn o a b p c, X, E0, N, sc, G, hl, hn, hs, e, h => by
    rw [chkE.eq_def] at h; dsimp only at h
    split at h
    · simp only [Bool.and_eq_true] at h
      obtain ⟨⟨⟨⟨⟨h1, h2⟩, h3⟩, h4⟩, h5⟩, h6⟩ := h
      obtain rfl := cop_of h1
      obtain rfl := cop_of h2
      have i := sE a G hl hn hs _ h4
      have j := sE b G hl hn hs _ h5
      have k := sE c G hl hn hs _ h6
      exact snd_t (l_chn G.hP G.hw G.hu o p (by simpa using h3) i.pe j.pe k.pe) (t_chn G.hP G.hw G.hu o p (by simpa using h3) i.pe j.pe k.pe) rfl rfl
    · cases h
  | .ite c a b, X, E0, N, sc, G, hl, hn, hs, e, h => by
    rw [chkE.eq_def] at h; dsimp only at h
    split at h
    · simp only [Bool.and_eq_true] at h
      have i := sE c G hl hn hs _ h.1.1
      have j := sE a G hl hn hs _ h.1.2
      have k := sE b G hl hn hs _ h.2
      exact snd_t (l_ite i.pt j.pe k.pe) (t_ite i.pt j.pt k.pt) rfl rfl
    · cases h
  | .tup es, X, E0, N, sc, G, hl, hn, hs, e, h => by
    rw [chkE.eq_def] at h; dsimp only at h
    split at h
    · exact snd_p (l_tup (sEs es G hl hn hs _ h)) rfl rfl
    · cases h
  | .lst es, X, E0, N, sc, G, hl, hn, hs, e, h => by
    rw [chkE.eq_def] at h; dsimp only at h
    split at h
    · exact snd_p (l_lst (sEs es G hl hn hs _ h)) rfl rfl
    · cases h
  | .dct ps, X, E0, N, sc, G, hl, hn, hs, e, h => by
    rw [chkE.eq_def] at h; dsimp only at h
    split at h
    · rename_i ks vs p
      simp only [Bool.and_eq_true] at h
      obtain ⟨⟨⟨h1, h2⟩, h3⟩, h4⟩ := h
      by_cases h0 : ks = []
      · subst h0
        have hv : vs = [] := by
          have h2 : 0 = vs.length := by simpa only [decide_eq_true_eq, List.length_nil] using h2
          exact List.length_eq_zero_iff.mp h2.symm
        subst hv
        cases ps with
        | nil => exact snd_p l_dct0 rfl rfl
        | cons k x r => rw [chkPs.eq_def] at h4; cases h4
      · exact snd_p (l_dct h1 (by simpa using h2) h0 (by simpa using h3) (sPs ps G hl hn hs _ _ _ h4)) rfl rfl
    · cases h
  | .idx a b, X, E0, N, sc, G, hl, hn, hs, e, h => by
    rw [chkE.eq_def] at h; dsimp only at h
    split at h
    · simp only [Bool.and_eq_true] at h
      exact snd_p (l_idx G.hP G.hw G.hu h.1.1 (sE a G hl hn hs _ h.1.2).pe (sE b G hl hn hs _ h.2).pe) rfl rfl
    · cases h
  | .slc a lo hi, X, E0, N, sc, G, hl, hn, hs, e, h => by
    rw [chkE.eq_def] at h; dsimp only at h
    split at h
    · simp only [Bool.and_eq_true] at h
      exact snd_p (l_slc (sE a G hl hn hs _ h.1.1).pe (sOe lo G hl hn hs _ h.1.2) (sOe hi G hl hn hs _ h.2)) rfl rfl
    · cases h
  | .bi b es, X, E0, N, sc, G, hl, hn, hs, e, h => by
    have one : ∀ {nm : Str}, biStr b = some nm → (match callOf nm sc e with
        | some args => chkEs P es N sc args
        | none => false) = true → Snd C X E0 (evE P.subc P.fieldsOf call make (.bi b es)) e := by
      intro nm hb h'
      cases ec : callOf nm sc e with
      | none => rw [ec] at h'; cases h'
      | some args =>
        rw [ec] at h'
        obtain ⟨p, pos, a, as, rfl, rfl, hg, ha⟩ := call_of ec
        exact snd_p (sBi G hb (gl_of hs hg).1 ha (sEs es G hl hn hs _ h')) rfl rfl
    rw [chkE.eq_def] at h; dsimp only at h
    cases b with
    | lrange =>
      dsimp only at h
      cases ec : callOf "list" sc e with
      | none => rw [ec] at h; cases h
      | some as =>
        rw [ec] at h
        obtain ⟨p, pos, a0, as0, rfl, rfl, hg, ha⟩ := call_of ec
        cases as0 with
        | cons _ _ => cases h
        | nil =>
          dsimp only at h
          cases ec2 : callOf "range" sc a0 with
          | none => rw [ec2] at h; cases h
          | some args =>
            rw [ec2] at h
            obtain ⟨p2, pos2, a1, as1, rfl, rfl, hg2, ha2⟩ := call_of ec2
            simp only [Bool.and_eq_true] at h
            obtain ⟨h1, h2⟩ := h
            cases es with
            | nil => rw [chkEs.eq_def] at h1; cases h1
            | cons a r =>
              rw [chkEs.eq_def] at h1
              simp only [Bool.and_eq_true] at h1
              cases as1 with
              | nil =>
                cases r with
                | cons b r => exact absurd h1.2 (by rw [chkEs.eq_def]; simp)
                | nil => exact snd_p (l_lrange1 G (gl_of hs hg).1 (gl_of hs hg2).1 h1.1.1 (sE a G hl hn hs _ h1.1.2).pe) rfl rfl
              | cons a2 as2 =>
                cases as2 with
                | cons _ _ => exact absurd h2 (by simp)
                | nil =>
                  cases r with
                  | nil => exact absurd h1.2 (by rw [chkEs.eq_def]; simp)
                  | cons b r =>
                    have h3 := h1.2
                    rw [chkEs.eq_def] at h3
                    simp only [Bool.and_eq_true] at h3
                    cases r with
                    | cons _ _ => exact absurd h3.2 (by rw [chkEs.eq_def]; simp)
                    | nil => exact snd_p (l_lrange2 G (gl_of hs hg).1 (gl_of hs hg2).1 h1.1.1 h3.1.1 (sE a G hl hn hs _ h1.1.2).pe (sE b G hl hn hs _ h3.1.2).pe) rfl rfl
    | lenset =>
      dsimp only at h
      cases ec : callOf "len" sc e with
      | none => rw [ec] at h; cases h
      | some as =>
        rw [ec] at h
        obtain ⟨p, pos, a0, as0, rfl, rfl, hg, ha⟩ := call_of ec
        cases as0 with
        | cons _ _ => cases h
        | nil =>
          dsimp only at h
          cases ec2 : callOf "set" sc a0 with
          | none => rw [ec2] at h; cases h
          | some args =>
            rw [ec2] at h
            obtain ⟨p2, pos2, a1, as1, rfl, rfl, hg2, ha2⟩ := call_of ec2
            simp only [Bool.and_eq_true] at h
            cases as1 with
            | cons _ _ => exact absurd h.2 (by simp)
            | nil =>
              cases es with
              | nil => rw [chkEs.eq_def] at h; exact absurd h.1 (by simp)
              | cons a r =>
                cases r with
                | cons b r => exact absurd h.1 (by rw [chkEs.eq_def]; dsimp only; rw [chkEs.eq_def]; simp)
                | nil =>
                  have h1 := h.1
                  rw [chkEs.eq_def] at h1
                  simp only [Bool.and_eq_true] at h1
                  exact snd_p (S.len G (gl_of hs hg).1 (gl_of hs hg2).1 h1.1.1 (sE a G hl hn hs _ h1.1.2).pe) rfl rfl
    | sortset =>
      dsimp only at h
      cases ec : callOf "sorted" sc e with
      | none => rw [ec] at h; cases h
      | some as =>
        rw [ec] at h
        obtain ⟨p, pos, a0, as0, rfl, rfl, hg, ha⟩ := call_of ec
        cases as0 with
        | cons _ _ => cases h
        | nil =>
          dsimp only at h
          cases ec2 : callOf "set" sc a0 with
          | none => rw [ec2] at h; cases h
          | some args =>
            rw [ec2] at h
            obtain ⟨p2, pos2, a1, as1, rfl, rfl, hg2, ha2⟩ := call_of ec2
            simp only [Bool.and_eq_true] at h
            cases as1 with
            | cons _ _ => exact absurd h.2 (by simp)
            | nil =>
              cases es with
              | nil => rw [chkEs.eq_def] at h; exact absurd h.1 (by simp)
              | cons a r =>
                cases r with
                | cons b r => exact absurd h.1 (by rw [chkEs.eq_def]; dsimp only; rw [chkEs.eq_def]; simp)
                | nil =>
                  have h1 := h.1
                  rw [chkEs.eq_def] at h1
                  simp only [Bool.and_eq_true] at h1
                  exact snd_p (S.sort G (gl_of hs hg).1 (gl_of hs hg2).1 h1.1.1 (sE a G hl hn hs _ h1.1.2).pe) rfl rfl
    | len => exact one rfl h
    | all => exact one rfl h
    | any => exact one rfl h
    | tuple => exact one rfl h
    | list => exact one rfl h
    | sorted => exact one rfl h
    | min => exact one rfl h
    | max => exact one rfl h
    | abs => exact one rfl h
    | int => exact one rfl h
    | sum => exact one rfl h
  | .isi a t, X, E0, N, sc, G, hl, hn, hs, e, h => by
    rw [chkE.eq_def] at h; dsimp only at h
    cases ec : callOf "isinstance" sc e with
    | none => rw [ec] at h; cases h
    | some as =>
      rw [ec] at h
      obtain ⟨p, pos, a0, as0, rfl, rfl, hg, ha⟩ := call_of ec
      have hm : ∀ x ∈ biNames, X.mg x = none := G.bi
      rw [List.all_cons, Bool.and_eq_true] at ha
      split at h
      · rename_i y p2 he
        cases he
        simp only [Bool.and_eq_true] at h
        obtain ⟨⟨h1, h2⟩, h3⟩ := h
        obtain ⟨g1, g2⟩ := gl_of hs h2
        have i := (sE a G hl hn hs _ h1).pe
        cases t with
        | cls c =>
          simp only [Bool.and_eq_true] at h3
          exact snd_p (l_isiC (G.ty c h3.1) (gl_of hs hg).1 (hm _ (by decide)) ha.1 (by simpa using h3.2) g1 g2 i) rfl rfl
        | int =>
          obtain rfl : y = _ := of_decide_eq_true h3
          exact snd_p (l_isi .int rfl (gl_of hs hg).1 (hm _ (by decide)) ha.1 g1 (hm _ (by decide)) boot_int (by decide) (by decide) i) rfl rfl
        | bool =>
          obtain rfl : y = _ := of_decide_eq_true h3
          exact snd_p (l_isi .bool rfl (gl_of hs hg).1 (hm _ (by decide)) ha.1 g1 (hm _ (by decide)) boot_bool (by decide) (by decide) i) rfl rfl
        | tuple =>
          obtain rfl : y = _ := of_decide_eq_true h3
          exact snd_p (l_isi .tuple rfl (gl_of hs hg).1 (hm _ (by decide)) ha.1 g1 (hm _ (by decide)) boot_tuple (by decide) (by decide) i) rfl rfl
        | str =>
          obtain rfl : y = _ := of_decide_eq_true h3
          exact snd_p (l_isi .str rfl (gl_of hs hg).1 (hm _ (by decide)) ha.1 g1 (hm _ (by decide)) boot_str (by decide) (by decide) i) rfl rfl
        | list =>
          obtain rfl : y = _ := of_decide_eq_true h3
          exact snd_p (l_isi .list rfl (gl_of hs hg).1 (hm _ (by decide)) ha.1 g1 (hm _ (by decide)) boot_list (by decide) (by decide) i) rfl rfl
        | dict =>
          obtain rfl : y = _ := of_decide_eq_true h3
          exact snd_p (l_isi .dict rfl (gl_of hs hg).1 (hm _ (by decide)) ha.1 g1 (hm _ (by decide)) boot_dict (by decide) (by decide) i) rfl rfl
      · cases h
  | .call f es, X, E0, N, sc, G, hl, hn, hs, e, h => by
    rw [chkE.eq_def] at h; dsimp only at h
    split at h
    · rename_i x p args pos
      simp only [Bool.and_eq_true] at h
      obtain ⟨⟨⟨⟨h1, h2⟩, h3⟩, h4⟩, h5⟩ := h
      obtain ⟨df, hdf⟩ := Option.isSome_iff_exists.mp h3
      obtain ⟨⟨j, F, hr2⟩, hlen⟩ := G.fn f df hdf
      have hr := hr2.mono (Nat.le_add_right j 2)
      obtain ⟨g1, g2⟩ := gl_of hs h2
      have i := sEs es G hl hn hs _ h5
      cases args with
      | nil =>
        cases es with
        | nil => exact snd_p (l_call0 G.tk F hr hlen (by simpa using h1) g1 g2) rfl rfl
        | cons a r => rw [chkEs.eq_def] at h5; cases h5
      | cons a as => exact snd_p (l_call G.tk F hr hlen (by simpa using h1) g1 g2 h4 i) rfl rfl
    · cases h
  | .callk f ks, X, E0, N, sc, G, hl, hn, hs, e, h => by
    rw [chkE.eq_def] at h; dsimp only at h
    split at h
    · rename_i x p kws pos
      simp only [Bool.and_eq_true] at h
      obtain ⟨⟨h1, h2⟩, h3⟩ := h
      obtain ⟨g1, g2⟩ := gl_of hs h2
      split at h3
      · rename_i df hdf
        simp only [Bool.and_eq_true, decide_eq_true_eq] at h3
        obtain ⟨⟨h4, h5⟩, h7⟩ := h3
        obtain ⟨⟨j, F, hr2⟩, hlen⟩ := G.fn f df hdf
        have hr := hr2.mono (Nat.le_add_right j 2)
        have i := sKs ks G hl hn hs kws h7
        exact snd_p (l_callk G.tk F hr hlen (by simpa using h1) g1 g2 h4 h5 i) rfl rfl
      · cases h3
    · cases h
  | .meth a mt es, X, E0, N, sc, G, hl, hn, hs, e, h => by
    rw [chkE.eq_def] at h; dsimp only at h
    split at h
    · rename_i o name apos args cpos
      simp only [Bool.and_eq_true] at h
      obtain ⟨⟨⟨⟨⟨⟨h1, h2⟩, h3⟩, h4⟩, h5⟩, h6⟩, h7⟩ := h
      have i := (sE a G hl hn hs _ h6).pe
      have j := sEs es G hl hn hs _ h7
      have hl : args.length < 20 := by simpa using h4
      cases args with
      | nil =>
        cases es with
        | cons a r => rw [chkEs.eq_def] at h7; cases h7
        | nil =>
          cases mt <;> simp only [mtStr, decide_eq_true_eq, Bool.false_eq_true] at h5 <;> subst h5
          · exact snd_p (l_meth0 .append F.plainAttrs_list F.slot_list_append rfl so_append (fun x m hr => by cases x <;> simp only [recvOk] at hr; obtain ⟨ws, q⟩ := hr; exact ⟨_, ws, rfl, q⟩) i h1 h2) rfl rfl
          · exact snd_p (l_meth0 .extend F.plainAttrs_list F.slot_list_extend rfl so_extend (fun x m hr => by cases x <;> simp only [recvOk] at hr; obtain ⟨ws, q⟩ := hr; exact ⟨_, ws, rfl, q⟩) i h1 h2) rfl rfl
          · exact snd_p (l_meth0 .pop F.plainAttrs_list F.slot_list_pop rfl so_pop (fun x m hr => by cases x <;> simp only [recvOk] at hr; obtain ⟨ws, q⟩ := hr; exact ⟨_, ws, rfl, q⟩) i h1 h2) rfl rfl
      | cons b bs =>
        have hl : bs.length < 20 := by rw [List.length_cons] at hl; omega
        cases mt <;> simp only [mtStr, decide_eq_true_eq, Bool.false_eq_true] at h5 <;> subst h5
        · exact snd_p (l_meth .append F.plainAttrs_list F.slot_list_append rfl so_append (fun x m hr => by cases x <;> simp only [recvOk] at hr; obtain ⟨ws, q⟩ := hr; exact ⟨_, ws, rfl, q⟩) i j h1 h3 hl h2) rfl rfl
        · exact snd_p (l_meth .extend F.plainAttrs_list F.slot_list_extend rfl so_extend (fun x m hr => by cases x <;> simp only [recvOk] at hr; obtain ⟨ws, q⟩ := hr; exact ⟨_, ws, rfl, q⟩) i j h1 h3 hl h2) rfl rfl
        · exact snd_p (l_meth .pop F.plainAttrs_list F.slot_list_pop rfl so_pop (fun x m hr => by cases x <;> simp only [recvOk] at hr; obtain ⟨ws, q⟩ := hr; exact ⟨_, ws, rfl, q⟩) i j h1 h3 hl h2) rfl rfl
    · cases h
  | .lc own x .nil, X, E0, N, sc, G, hl, hn, hs, e, h => by
    rw [chkE.eq_def] at h; dsimp only at h
    split at h
    · simp [gsLen] at h
    · cases h
  | .lc own x (.cons t it c (.cons t1 it1 c1 (.cons _ _ _ _))), X, E0, N, sc, G, hl, hn, hs, e, h => by
    rw [chkE.eq_def] at h; dsimp only at h
    split at h
    · simp [gsLen] at h
    · cases h
  | .lc own x (.cons t it c .nil), X, E0, N, sc, G, hl, hn, hs, e, h => by
    rw [chkE.eq_def] at h; dsimp only at h
    split at h
    · rename_i elt gens scope pos
      simp only [Bool.and_eq_true, decide_eq_true_eq] at h
      obtain ⟨⟨⟨⟨_, h1⟩, h2⟩, h3⟩, h4⟩ := h
      rw [chkGs.eq_def] at h4; dsimp only at h4
      split at h4
      · rename_i tg iter ifs gens
        simp only [Bool.and_eq_true] at h4
        obtain ⟨⟨⟨⟨h5, h6⟩, h7⟩, h8⟩, h9⟩ := h4
        rw [chkGs.eq_def] at h9; dsimp only at h9
        cases gens with
        | cons _ _ => cases h9
        | nil =>
          have ok : BlkOk X.N X.env.scope scope (prs N.n own) := by rw [hn, hs]; exact blkOk_by h1
          obtain ⟨w1, w2⟩ := sWk it G hl hn hs tg iter h7
          have hv : ∀ i ∈ t.vars, i ∈ (prs N.n own).map (·.2) := fun i hi => by
            rw [h2]
            simpa using List.all_eq_true.mp h6 i hi
          have hb := fun (s : Shared) (H : Hp) (A : Addr) (cl : List (Str × Addr)) (fp : List Addr) => G.blk ok s H A cl fp
          have hsc : ∀ (s : Shared) (H : Hp) (A : Addr) (cl : List (Str × Addr)) (fp : List Addr), (X.blk s H scope (compEnvC scope cl A X.env) fp).env.scope = relS scope sc := fun _ _ _ _ _ => by rw [← hs]; rfl
          have gg := fun (s : Shared) (H : Hp) (A : Addr) (cl : List (Str × Addr)) (fp : List Addr) => sTg (hb s H A cl fp) hn (hsc s H A cl fp) (fnc := false) (fun z => by cases z) t tg h5
          have gt := fun (s : Shared) (H : Hp) (A : Addr) (cl : List (Str × Addr)) (fp : List Addr) => sC c (hb s H A cl fp) (fun z => (hl z).blk s H A cl fp) hn (hsc s H A cl fp) ifs h8
          have gx := fun (s : Shared) (H : Hp) (A : Addr) (cl : List (Str × Addr)) (fp : List Addr) => (sE x (hb s H A cl fp) (fun z => (hl z).blk s H A cl fp) hn (hsc s H A cl fp) elt h3).pe
          have e0 : evE P.subc P.fieldsOf call make (.lc own x (.cons t it c .nil)) = lcF (evIt P.subc P.fieldsOf call make it) t (evC P.subc P.fieldsOf call make c) (oneK (evE P.subc P.fieldsOf call make x)) ((prs N.n own).map (·.2)) := by rw [h2]; rfl
          rw [e0]
          have pe := l_lc (pos := pos) G.calm G.nd w1 w2 ok hv gg gt gx
          refine ⟨pe, t_plain pe (ptr_of rfl), (fun op vs p z => by cases z), fun i y py spos hy hyl hsw => ?_⟩
          simp only [swB, Bool.and_eq_true, Bool.not_eq_true'] at hsw
          exact s_lc G.calm G.nd hy hyl (sw_true G.kind hyl hsw.1 hsw.2) w1 w2 ok hv gg gt gx
      · cases h4
    · cases h
  | .lc own x (.cons t it c (.cons t1 it1 c1 .nil)), X, E0, N, sc, G, hl, hn, hs, e, h => by
    rw [chkE.eq_def] at h; dsimp only at h
    split at h
    · rename_i elt gens scope pos
      simp only [Bool.and_eq_true, decide_eq_true_eq] at h
      obtain ⟨⟨⟨⟨_, h1⟩, h2⟩, h3⟩, h4⟩ := h
      rw [chkGs.eq_def] at h4; dsimp only at h4
      split at h4
      · rename_i tg iter ifs gens
        simp only [Bool.and_eq_true] at h4
        obtain ⟨⟨⟨⟨h5, h6⟩, h7⟩, h8⟩, h9⟩ := h4
        rw [chkGs.eq_def] at h9; dsimp only at h9
        split at h9
        · rename_i tg1 iter1 ifs1 gens
          simp only [Bool.and_eq_true] at h9
          obtain ⟨⟨⟨⟨k5, k6⟩, k7⟩, k8⟩, k9⟩ := h9
          rw [chkGs.eq_def] at k9; dsimp only at k9
          cases gens with
          | cons _ _ => cases k9
          | nil =>
            have ok : BlkOk X.N X.env.scope scope (prs N.n own) := by rw [hn, hs]; exact blkOk_by h1
            obtain ⟨w1, w2⟩ := sWk it G hl hn hs tg iter h7
            have hv : ∀ i ∈ t.vars, i ∈ (prs N.n own).map (·.2) := fun i hi => by
              rw [h2]
              simpa using List.all_eq_true.mp h6 i hi
            have hv1 : ∀ i ∈ t1.vars, i ∈ (prs N.n own).map (·.2) := fun i hi => by
              rw [h2]
              simpa using List.all_eq_true.mp k6 i hi
            have hb := fun (s : Shared) (H : Hp) (A : Addr) (cl : List (Str × Addr)) (fp : List Addr) => G.blk ok s H A cl fp
            have hsc : ∀ (s : Shared) (H : Hp) (A : Addr) (cl : List (Str × Addr)) (fp : List Addr), (X.blk s H scope (compEnvC scope cl A X.env) fp).env.scope = relS scope sc := fun _ _ _ _ _ => by rw [← hs]; rfl
            have gg := fun (s : Shared) (H : Hp) (A : Addr) (cl : List (Str × Addr)) (fp : List Addr) => sTg (hb s H A cl fp) hn (hsc s H A cl fp) (fnc := false) (fun z => by cases z) t tg h5
            have gt := fun (s : Shared) (H : Hp) (A : Addr) (cl : List (Str × Addr)) (fp : List Addr) => sC c (hb s H A cl fp) (fun z => (hl z).blk s H A cl fp) hn (hsc s H A cl fp) ifs h8
            have gi1 := fun (s : Shared) (H : Hp) (A : Addr) (cl : List (Str × Addr)) (fp : List Addr) => (sWk it1 (hb s H A cl fp) (fun z => (hl z).blk s H A cl fp) hn (hsc s H A cl fp) tg1 iter1 k7).2
            have gg1 := fun (s : Shared) (H : Hp) (A : Addr) (cl : List (Str × Addr)) (fp : List Addr) => sTg (hb s H A cl fp) hn (hsc s H A cl fp) (fnc := false) (fun z => by cases z) t1 tg1 k5
            have gt1 := fun (s : Shared) (H : Hp) (A : Addr) (cl : List (Str × Addr)) (fp : List Addr) => sC c1 (hb s H A cl fp) (fun z => (hl z).blk s H A cl fp) hn (hsc s H A cl fp) ifs1 k8
            have gx := fun (s : Shared) (H : Hp) (A : Addr) (cl : List (Str × Addr)) (fp : List Addr) => (sE x (hb s H A cl fp) (fun z => (hl z).blk s H A cl fp) hn (hsc s H A cl fp) elt h3).pe
            have w3 : nset iter1 = true := nset_of k7
            have e0 : evE P.subc P.fieldsOf call make (.lc own x (.cons t it c (.cons t1 it1 c1 .nil))) = lcF (evIt P.subc P.fieldsOf call make it) t (evC P.subc P.fieldsOf call make c) (twoK (evIt P.subc P.fieldsOf call make it1) t1 (evC P.subc P.fieldsOf call make c1) (oneK (evE P.subc P.fieldsOf call make x))) ((prs N.n own).map (·.2)) := by rw [h2]; rfl
            rw [e0]
            have pe := l_lc2 (pos := pos) G.calm G.nd w1 w3 w2 ok hv hv1 gg gt gi1 gg1 gt1 gx
            refine ⟨pe, t_plain pe (ptr_of rfl), (fun op vs p z => by cases z), fun i y py spos hy hyl hsw => ?_⟩
            simp only [swB, Bool.and_eq_true, Bool.not_eq_true'] at hsw
            exact s_lc2 G.calm G.nd hy hyl (sw_true G.kind hyl hsw.1 hsw.2) w1 w3 w2 ok hv hv1 gg gt gi1 gg1 gt1 gx
        · cases h9
      · cases h4
    · cases h
  | .make _ _, X, E0, N, sc, G, hl, hn, hs, e, h => by rw [chkE.eq_def] at h; cases h
  | .own _ _ _, X, E0, N, sc, G, hl, hn, hs, e, h => by rw [chkE.eq_def] at h; cases h
  | .fld _ _, X, E0, N, sc, G, hl, hn, hs, e, h => by rw [chkE.eq_def] at h; cases h
  | .sc _ _ _, X, E0, N, sc, G, hl, hn, hs, e, h => by rw [chkE.eq_def] at h; cases h
  | .dc own k x .nil, X, E0, N, sc, G, hl, hn, hs, e, h => by
    rw [chkE.eq_def] at h; dsimp only at h
    split at h
    · simp [gsOne] at h
    · cases h
  | .dc own k x (.cons _ _ _ (.cons _ _ _ _)), X, E0, N, sc, G, hl, hn, hs, e, h => by
    rw [chkE.eq_def] at h; dsimp only at h
    split at h
    · simp [gsOne] at h
    · cases h
  | .dc own k x (.cons t it c .nil), X, E0, N, sc, G, hl, hn, hs, e, h => by
    rw [chkE.eq_def] at h; dsimp only at h
    split at h
    · rename_i kx vx gens scope pos
      simp only [Bool.and_eq_true, decide_eq_true_eq] at h
      obtain ⟨⟨⟨⟨⟨_, h1⟩, h2⟩, h3⟩, h3b⟩, h4⟩ := h
      rw [chkGs.eq_def] at h4; dsimp only at h4
      split at h4
      · rename_i tg iter ifs gens
        simp only [Bool.and_eq_true] at h4
        obtain ⟨⟨⟨⟨h5, h6⟩, h7⟩, h8⟩, h9⟩ := h4
        rw [chkGs.eq_def] at h9; dsimp only at h9
        cases gens with
        | cons _ _ => cases h9
        | nil =>
          have ok : BlkOk X.N X.env.scope scope (prs N.n own) := by rw [hn, hs]; exact blkOk_by h1
          obtain ⟨w1, w2⟩ := sWk it G hl hn hs tg iter h7
          have hv : ∀ i ∈ t.vars, i ∈ (prs N.n own).map (·.2) := fun i hi => by
            rw [h2]
            simpa using List.all_eq_true.mp h6 i hi
          have hb := fun (s : Shared) (H : Hp) (A : Addr) (cl : List (Str × Addr)) (fp : List Addr) => G.blk ok s H A cl fp
          have hsc : ∀ (s : Shared) (H : Hp) (A : Addr) (cl : List (Str × Addr)) (fp : List Addr), (X.blk s H scope (compEnvC scope cl A X.env) fp).env.scope = relS scope sc := fun _ _ _ _ _ => by rw [← hs]; rfl
          have gg := fun (s : Shared) (H : Hp) (A : Addr) (cl : List (Str × Addr)) (fp : List Addr) => sTg (hb s H A cl fp) hn (hsc s H A cl fp) (fnc := false) (fun z => by cases z) t tg h5
          have gt := fun (s : Shared) (H : Hp) (A : Addr) (cl : List (Str × Addr)) (fp : List Addr) => sC c (hb s H A cl fp) (fun z => (hl z).blk s H A cl fp) hn (hsc s H A cl fp) ifs h8
          have gk := fun (s : Shared) (H : Hp) (A : Addr) (cl : List (Str × Addr)) (fp : List Addr) => (sE k (hb s H A cl fp) (fun z => (hl z).blk s H A cl fp) hn (hsc s H A cl fp) kx h3).pe
          have gx := fun (s : Shared) (H : Hp) (A : Addr) (cl : List (Str × Addr)) (fp : List Addr) => (sE x (hb s H A cl fp) (fun z => (hl z).blk s H A cl fp) hn (hsc s H A cl fp) vx h3b).pe
          have e0 : evE P.subc P.fieldsOf call make (.dc own k x (.cons t it c .nil)) = dcF (evIt P.subc P.fieldsOf call make it) t (evC P.subc P.fieldsOf call make c) (pairK (evE P.subc P.fieldsOf call make k) (evE P.subc P.fieldsOf call make x)) ((prs N.n own).map (·.2)) := by rw [h2]; rfl
          rw [e0]
          exact snd_p (l_dc G.hP G.hw G.hu G.calm G.nd w1 w2 ok hv gg gt gk gx) rfl rfl
      · cases h4
    · cases h
  | .caught c a, X, E0, N, sc, G, hl, hn, hs, e, h => by
    rw [chkE.eq_def] at h; dsimp only at h
    split at h
    · rename_i x p1 body scope lpos pos
      simp only [Bool.and_eq_true, decide_eq_true_eq] at h
      obtain ⟨⟨⟨⟨⟨⟨h1, h2⟩, h3⟩, h4⟩, h5⟩, h6⟩, h7⟩ := h
      subst h2 h5
      have S : LamX.LamS X.env.scope scope := LamX.lamS_by (by rw [hs]; exact h6)
      exact snd_p (l_caught G (hl h1) h4 (gl_of hs h3).1 S fun A outer s H E f c' G' => (sE a (N := ⟨N.n, false⟩) G' (fun z => by cases z) hn rfl body h7).pe) rfl rfl
    · cases h
theorem sEs : ∀ (c : Es) {X : Cx} {E0 : XK} {N : Nm} {sc : Scope} (G : Gd C X P call E0) (hl : N.lm = true → LamOk C X P call) (hn : X.N = N.n) (hs : X.env.scope = sc) (es : List Expr), chkEs P c N sc es = true → PA X es (tAs C (wx E0) (evEs P.subc P.fieldsOf call make c))
  | .nil, X, E0, N, sc, G, hl, hn, hs, es, h => by
    rw [chkEs.eq_def] at h; dsimp only at h
    cases es with
    | nil => exact l_nil
    | cons e es => cases h
  | .cons a r, X, E0, N, sc, G, hl, hn, hs, es, h => by
    rw [chkEs.eq_def] at h; dsimp only at h
    cases es with
    | nil => cases h
    | cons e es =>
      simp only [Bool.and_eq_true] at h
      exact l_cons h.1.1 (sE a G hl hn hs _ h.1.2).pe (sEs r G hl hn hs _ h.2)
theorem sKs : ∀ (c : Es) {X : Cx} {E0 : XK} {N : Nm} {sc : Scope} (G : Gd C X P call E0) (hl : N.lm = true → LamOk C X P call) (hn : X.N = N.n) (hs : X.env.scope = sc) (kws : List Keyword), chkEs P c N sc (kws.map fun k : Keyword => k.2) = true → PK X kws (tAs C (wx E0) (evEs P.subc P.fieldsOf call make c))
  | .nil, X, E0, N, sc, G, hl, hn, hs, kws, h => by
    rw [chkEs.eq_def] at h; dsimp only at h
    cases kws with
    | nil => exact k_nil
    | cons e es => cases h
  | .cons a r, X, E0, N, sc, G, hl, hn, hs, kws, h => by
    rw [chkEs.eq_def] at h; dsimp only at h
    cases kws with
    | nil => cases h
    | cons k kws =>
      obtain ⟨nm, v, kp⟩ := k
      simp only [List.map_cons, Bool.and_eq_true] at h
      exact k_cons (sE a G hl hn hs _ h.1.2).pe (sKs r G hl hn hs kws h.2)
theorem sPs : ∀ (c : Ps) {X : Cx} {E0 : XK} {N : Nm} {sc : Scope} (G : Gd C X P call E0) (hl : N.lm = true → LamOk C X P call) (hn : X.N = N.n) (hs : X.env.scope = sc) (pos : Pos) (ks : List (Option Expr)) (vs : List Expr), chkPs P c N sc ks vs = true → PD C (wx E0) X pos ks vs (evPs P.subc P.fieldsOf call make c)
  | .nil, X, E0, N, sc, G, hl, hn, hs, pos, ks, vs, h => by
    rw [chkPs.eq_def] at h; dsimp only at h
    cases ks <;> cases vs <;> first | exact d_nil | cases h
  | .cons k x r, X, E0, N, sc, G, hl, hn, hs, pos, ks, vs, h => by
    rw [chkPs.eq_def] at h; dsimp only at h
    split at h
    · simp only [Bool.and_eq_true] at h
      exact d_cons (sE k G hl hn hs _ h.1.1).pe (sE x G hl hn hs _ h.1.2).pe (sPs r G hl hn hs _ _ _ h.2)
    · cases h
theorem sOe : ∀ (c : Oe) {X : Cx} {E0 : XK} {N : Nm} {sc : Scope} (G : Gd C X P call E0) (hl : N.lm = true → LamOk C X P call) (hn : X.N = N.n) (hs : X.env.scope = sc) (o : Option Expr), chkOe P c N sc o = true → PO X o (tO C (wx E0) (evOe P.subc P.fieldsOf call make c))
  | .none, X, E0, N, sc, G, hl, hn, hs, o, h => by
    rw [chkOe.eq_def] at h; dsimp only at h
    cases o with
    | none => exact l_none
    | some e => cases h
  | .some a, X, E0, N, sc, G, hl, hn, hs, o, h => by
    rw [chkOe.eq_def] at h; dsimp only at h
    cases o with
    | none => cases h
    | some e => exact l_some (sE a G hl hn hs _ h).pe
theorem sC : ∀ (c : Oe) {X : Cx} {E0 : XK} {N : Nm} {sc : Scope} (G : Gd C X P call E0) (hl : N.lm = true → LamOk C X P call) (hn : X.N = N.n) (hs : X.env.scope = sc) (o : List Expr), chkC P c N sc o = true → PTs X o (tT C (wx E0) (evC P.subc P.fieldsOf call make c))
  | .none, X, E0, N, sc, G, hl, hn, hs, o, h => by
    rw [chkC.eq_def] at h; dsimp only at h
    cases o with
    | nil => exact ⟨fun pins s σ H Q I ⟨ρ, en, m, E, R, Pq⟩ => pts_nil.run pins s σ H Q I (PR.here (a := true) R rfl Pq)⟩
    | cons e es => cases h
  | .some a, X, E0, N, sc, G, hl, hn, hs, o, h => by
    rw [chkC.eq_def] at h; dsimp only at h
    split at h
    · exact pts_one (sE a G hl hn hs _ h).pt
    · cases h
theorem sWk : ∀ (c : Wk) {X : Cx} {E0 : XK} {N : Nm} {sc : Scope} (G : Gd C X P call E0) (hl : N.lm = true → LamOk C X P call) (hn : X.N = N.n) (hs : X.env.scope = sc) (tg iter : Expr), chkWk P c N sc tg iter = true → nset iter = true ∧ PI X tg iter (tI C (wx E0) (evIt P.subc P.fieldsOf call make c))
  | .of a, X, E0, N, sc, G, hl, hn, hs, tg, iter, h => by
    rw [chkWk.eq_def] at h; dsimp only at h
    rw [Bool.and_eq_true] at h
    exact ⟨h.1, i_of (sE a G hl hn hs _ h.2).pe⟩
  | .enum a, X, E0, N, sc, G, hl, hn, hs, tg, iter, h => by
    rw [chkWk.eq_def] at h; dsimp only at h
    cases ec : callOf "enumerate" sc iter with
    | none => rw [ec] at h; cases h
    | some as =>
      rw [ec] at h
      obtain ⟨p, pos, a0, as0, rfl, rfl, hg, ha⟩ := call_of ec
      cases as0 with
      | cons _ _ => cases h
      | nil =>
        simp only [Bool.and_eq_true] at h
        rw [List.all_cons, Bool.and_eq_true] at ha
        cases tg <;> first | exact Bool.noConfusion (show false = true from h.1) | exact ⟨rfl, i_enum (gl_of hs hg).1 (G.bi _ (by decide)) ha.1 (sE a G hl hn hs _ h.2).pe⟩
  | .zip a b, X, E0, N, sc, G, hl, hn, hs, tg, iter, h => by
    rw [chkWk.eq_def] at h; dsimp only at h
    cases ec : callOf "zip" sc iter with
    | none => rw [ec] at h; cases h
    | some as =>
      rw [ec] at h
      obtain ⟨p, pos, a0, as0, rfl, rfl, hg, ha⟩ := call_of ec
      split at h
      · rename_i he
        cases he
        simp only [Bool.and_eq_true] at h
        simp only [List.all_cons, Bool.and_eq_true] at ha
        cases tg <;> first | exact Bool.noConfusion (show false = true from h.1.1) | exact ⟨rfl, i_zip (gl_of hs hg).1 (G.bi _ (by decide)) ha.1 ha.2.1 (sE a G hl hn hs _ h.1.2).pe (sE b G hl hn hs _ h.2).pe⟩
      · cases h
  | .rng es, X, E0, N, sc, G, hl, hn, hs, tg, iter, h => by
    rw [chkWk.eq_def] at h; dsimp only at h
    cases ec : callOf "range" sc iter with
    | none => rw [ec] at h; cases h
    | some as =>
      rw [ec] at h
      obtain ⟨p, pos, a0, as0, rfl, rfl, hg, ha⟩ := call_of ec
      simp only [Bool.and_eq_true] at h
      obtain ⟨h1, h2⟩ := h
      refine ⟨rfl, ?_⟩
      cases es with
      | nil => rw [chkEs.eq_def] at h1; cases h1
      | cons a r =>
        rw [chkEs.eq_def] at h1
        simp only [Bool.and_eq_true] at h1
        cases as0 with
        | nil =>
          cases r with
          | cons b r => exact absurd h1.2 (by rw [chkEs.eq_def]; simp)
          | nil => exact i_rng1 (gl_of hs hg).1 (G.bi _ (by decide)) h1.1.1 (sE a G hl hn hs _ h1.1.2).pe
        | cons a2 as2 =>
          cases as2 with
          | cons _ _ => exact absurd h2 (by simp)
          | nil =>
            cases r with
            | nil => exact absurd h1.2 (by rw [chkEs.eq_def]; simp)
            | cons b r =>
              have h3 := h1.2
              rw [chkEs.eq_def] at h3
              simp only [Bool.and_eq_true] at h3
              cases r with
              | cons _ _ => exact absurd h3.2 (by rw [chkEs.eq_def]; simp)
              | nil => exact i_rng2 (gl_of hs hg).1 (G.bi _ (by decide)) h1.1.1 h3.1.1 (sE a G hl hn hs _ h1.1.2).pe (sE b G hl hn hs _ h3.1.2).pe
end
end
end Ev

set_option Elab.async false
set_option linter.all false
set_option maxRecDepth 100000
set_option maxHeartbeats 4000000
/-! Statements: the check, and what is checked holds. -/
namespace Ev
open PySem PySem.Spec PyProof.Rows L2
open Classical
def celB (sc : Scope) (x : Str) : Bool := match sc.names.lookup x with
  | some .cell => true
  | _ => false
def isLC : Expr → Bool
  | .ListComp _ _ _ _ => true
  | .DictComp _ _ _ _ _ => true
  | _ => false
section
variable (P : Prog)
/-- a, b = x, y -/
def parB (N : Nm) (sc : Scope) (t : Tg) (e : E) (tg v : Expr) : Bool := match t, e, tg, v with
  | .t [.v i, .v j], .tup (.cons a (.cons b .nil)), .Tuple [.Name x px, .Name y py] _ _, .Tuple [a', b'] _ _ =>
    atB N.n i x && atB N.n j y && decide (i ≠ j) && decide (x ≠ y) && loc1 sc x && loc1 sc y && (px.line == py.line) && nst a' && nst b' && !(foldedForSure 8 a' && foldedForSure 8 b') && !(constantsAlone 8 a' && constantsAlone 8 b')
  | _, _, _, _ => false
def nameB (N : Nm) (sc : Scope) (t : Tg) (tg v : Expr) : Bool := match t, tg with
  | .v i, .Name x p => atB N.n i x && ((ncmp v && locB true sc x) || (loc1 sc x && swB v x p) || (isLC v && celB sc x))
  | _, _ => false
mutual
def chkS : S → Nm → Scope → Stmt → Bool
  | .asg t e, N, sc, st => (match st with
    | .Assign [tg] v _ => chkE P e N sc v && (nameB N sc t tg v || parB N sc t e tg v || (isTupE tg && chkTg t N.n true sc tg && nsw tg v && ncmp v))
    | _ => false)
  | .aset o i e, N, sc, st => (match st with
    | .Assign [.Subscript a b _] v _ => nsl b && chkE P e N sc v && chkE P o N sc a && chkE P i N sc b
    | _ => false)
  | .ex e, N, sc, st => (match st with
    | .Expr v _ => ncmp v && chkE P e N sc v
    | _ => false)
  | .rt e, N, sc, st => (match st with
    | .Return (some v) _ => chkE P e N sc v
    | _ => false)
  | .rtN, _, _, st => (match st with
    | .Return none _ => true
    | _ => false)
  | .ite c a b, N, sc, st => (match st with
    | .If t x y _ => chkE P c N sc t && chkSs a N sc x && chkSs b N sc y
    | _ => false)
  | .whl c b _, N, sc, st => (match st with
    | .While t body [] _ => chkE P c N sc t && chkSs b N sc body
    | _ => false)
  | .for_ t it b _, N, sc, st => (match st with
    | .For tg iter body [] _ => chkTg t N.n true sc tg && chkWk P it N sc tg iter && chkSs b N sc body
    | _ => false)
  | .rse c es, _, sc, st => (match es, st with
    | .nil, .Raise (some (.Call (.Name x _) [.Constant (.str _) _ _] [] _)) none _ => P.isEx c && decide (x = (c : Str)) && glB sc x
    | _, _ => false)
  | .pass, _, _, st => (match st with
    | .Pass _ => true
    | .Expr (.Constant (.str _) _ _) _ => true
    | _ => false)
  | .brk, _, _, st => (match st with
    | .Break _ => true
    | _ => false)
  | .cnt, _, _, st => (match st with
    | .Continue _ => true
    | _ => false)
  | _, _, _, _ => false
def chkSs : Ss → Nm → Scope → List Stmt → Bool
  | .nil, _, _, sts => sts.isEmpty
  | .cons s r, N, sc, sts => (match sts with
    | st :: sts => chkS s N sc st && chkSs r N sc sts
    | [] => false)
end
end
structure GdF (C : Cf) (X : Cx) (P : Prog) (call : Call) (E0 : XK) : Prop extends Gd C X P call E0 where
  po : PassesOwn (model X.prog X.w) X.A X.env X.xe
  fnt : ∀ x, X.fn x = true
theorem sw_cell {v : Expr} {x : Str} {p : Pos} {l : Nat} {env : Env} (hv : isLC v = true) (h : env.scope.names.lookup x = some .cell) : swapsWith v (some (.Name x p)) l env = pure false := by
  have e : env.kindOf x = some .cell := h
  have e2 : (NameKind.cell == NameKind.local) = false := rfl
  cases v <;> first | exact Bool.noConfusion (show false = true from hv) | (unfold swapsWith; simp [e, e2])
theorem loc1_of {sc : Scope} {x : Str} (h : loc1 sc x = true) : sc.names.lookup x = some .local := by
  unfold loc1 at h
  split at h
  · assumption
  · cases h
theorem cel_of {sc : Scope} {x : Str} (h : celB sc x = true) : sc.names.lookup x = some .cell := by
  unfold celB at h
  split at h
  · assumption
  · cases h
theorem sole_tup {tg v : Expr} {l : Nat} {env : Env} (h : isTupE tg = true) : swapsWith v (some tg) l env = pure false := by
  cases tg <;> first | exact Bool.noConfusion (show false = true from h) | skip
  cases v <;> rfl
section
variable {C : Cf} {P : Prog} {call make : Call} (S0 : SetOk C)
include S0
mutual
theorem sS : ∀ (c : S) {X : Cx} {E0 : XK} {N : Nm} {sc : Scope} (G : GdF C X P call E0) (hl : N.lm = true → LamOk C X P call) (hn : X.N = N.n) (hs : X.env.scope = sc) (st : Stmt), chkS P c N sc st = true → PS X st (tS C E0 (evS P.subc P.fieldsOf call make c))
  | .asg t e, X, E0, N, sc, G, hl, hn, hs, st, h => by
    rw [chkS.eq_def] at h; dsimp only at h
    split at h
    · rename_i tg v pos
      rw [Bool.and_eq_true] at h
      obtain ⟨h1, h2⟩ := h
      have i := sE (make := make) S0 e G.toGd hl hn hs v h1
      simp only [Bool.or_eq_true] at h2
      rcases h2 with (h2 | h2) | h2
      · unfold nameB at h2
        split at h2
        · rename_i k x p
          simp only [Bool.and_eq_true, Bool.or_eq_true] at h2
          obtain ⟨a1, a2⟩ := h2
          rcases a2 with (a2 | a2) | a2
          · obtain ⟨b1, b2⟩ := loc_of hs (fun _ => G.fnt) a2.2
            exact s_set G.nd (at_of hn a1) b1 b2 (swaps_of a2.1) i.pe
          · exact i.sw k x p pos (at_of hn a1) (by rw [hs]; exact loc1_of a2.1) a2.2
          · exact s_set G.nd (at_of hn a1) (.inr (by rw [hs]; exact cel_of a2.2)) (.inl (G.fnt x)) (sw_cell a2.1 (by rw [hs]; exact cel_of a2.2)) i.pe
        · cases h2
      · unfold parB at h2
        split at h2
        · rename_i i1 j1 a b x px y py kt pt a' b' k2 pt2
          simp only [Bool.and_eq_true, decide_eq_true_eq, Bool.not_eq_true'] at h2
          obtain ⟨⟨⟨⟨⟨⟨⟨⟨⟨⟨c1, c2⟩, c3⟩, c4⟩, c5⟩, c6⟩, c7⟩, c8⟩, c9⟩, c10⟩, c11⟩ := h2
          have h3 : chkEs P (.cons a (.cons b .nil)) N sc [a', b'] = true := by
            rw [chkE.eq_def] at h1
            exact h1
          have l1 : X.env.scope.names.lookup x = some .local := by rw [hs]; exact loc1_of c5
          have l2 : X.env.scope.names.lookup y = some .local := by rw [hs]; exact loc1_of c6
          exact s_par G.calm G.nd (at_of hn c1) (at_of hn c2) c3 l1 l2 (swap2 (blk_fun G.kind) l1 l2 c7 c4 c8 c9 c10 c11) (sEs (make := make) S0 _ G.toGd hl hn hs _ h3)
        · cases h2
      · simp only [Bool.and_eq_true] at h2
        obtain ⟨⟨⟨a1, a2⟩, a3⟩, a4⟩ := h2
        exact s_asg (by cases tg <;> first | rfl | exact Bool.noConfusion (show false = true from a1)) (sole_tup a1) (swapped_none (ts := []) (vs := []) a3) i.pe (sTg G.toGd hn hs (fun _ => G.fnt) t tg a2)
    · cases h
  | .aset o i e, X, E0, N, sc, G, hl, hn, hs, st, h => by
    rw [chkS.eq_def] at h; dsimp only at h
    split at h
    · simp only [Bool.and_eq_true] at h
      obtain ⟨⟨⟨h1, h2⟩, h3⟩, h4⟩ := h
      exact s_aset G.hP G.hw G.hu (sE S0 e G.toGd hl hn hs _ h2).pe (sE S0 o G.toGd hl hn hs _ h3).pe (sE S0 i G.toGd hl hn hs _ h4).pe h1
    · cases h
  | .ex e, X, E0, N, sc, G, hl, hn, hs, st, h => by
    rw [chkS.eq_def] at h; dsimp only at h
    split at h
    · rw [Bool.and_eq_true] at h
      exact s_ex h.1 (sE S0 e G.toGd hl hn hs _ h.2).pe
    · cases h
  | .rt e, X, E0, N, sc, G, hl, hn, hs, st, h => by
    rw [chkS.eq_def] at h; dsimp only at h
    split at h
    · exact s_rt (sE S0 e G.toGd hl hn hs _ h).pe
    · cases h
  | .rtN, X, E0, N, sc, G, hl, hn, hs, st, h => by
    rw [chkS.eq_def] at h; dsimp only at h
    split at h
    · exact s_rtN
    · cases h
  | .ite c a b, X, E0, N, sc, G, hl, hn, hs, st, h => by
    rw [chkS.eq_def] at h; dsimp only at h
    split at h
    · simp only [Bool.and_eq_true] at h
      exact s_ite (sE S0 c G.toGd hl hn hs _ h.1.1).pt (sSs a G hl hn hs _ h.1.2) (sSs b G hl hn hs _ h.2)
    · cases h
  | .whl c b dead, X, E0, N, sc, G, hl, hn, hs, st, h => by
    rw [chkS.eq_def] at h; dsimp only at h
    split at h
    · simp only [Bool.and_eq_true] at h
      exact s_whl G.po (sE S0 c G.toGd hl hn hs _ h.1).pt (sSs b G hl hn hs _ h.2)
    · cases h
  | .for_ t it b dead, X, E0, N, sc, G, hl, hn, hs, st, h => by
    rw [chkS.eq_def] at h; dsimp only at h
    split at h
    · simp only [Bool.and_eq_true] at h
      obtain ⟨w1, w2⟩ := sWk (make := make) S0 it G.toGd hl hn hs _ _ h.1.2
      exact s_for G.po G.calm w1 w2 (sTg G.toGd hn hs (fun _ => G.fnt) t _ h.1.1) (sSs b G hl hn hs _ h.2)
    · cases h
  | .rse c es, X, E0, N, sc, G, hl, hn, hs, st, h => by
    rw [chkS.eq_def] at h; dsimp only at h
    split at h
    · simp only [Bool.and_eq_true] at h
      obtain ⟨g1, g2⟩ := gl_of hs h.2
      exact s_rse G.tk G.calm (G.ex c h.1.1) (by simpa using h.1.2) g1 g2
    · cases h
  | .pass, X, E0, N, sc, G, hl, hn, hs, st, h => by
    rw [chkS.eq_def] at h; dsimp only at h
    split at h
    · exact s_pass
    · exact s_doc
    · cases h
  | .brk, X, E0, N, sc, G, hl, hn, hs, st, h => by
    rw [chkS.eq_def] at h; dsimp only at h
    split at h
    · exact s_brk
    · cases h
  | .cnt, X, E0, N, sc, G, hl, hn, hs, st, h => by
    rw [chkS.eq_def] at h; dsimp only at h
    split at h
    · exact s_cnt
    · cases h
  | .afld _ _ _, X, E0, N, sc, G, hl, hn, hs, st, h => by rw [chkS.eq_def] at h; cases h
  | .aug _ _ _, X, E0, N, sc, G, hl, hn, hs, st, h => by rw [chkS.eq_def] at h; cases h
theorem sSs : ∀ (c : Ss) {X : Cx} {E0 : XK} {N : Nm} {sc : Scope} (G : GdF C X P call E0) (hl : N.lm = true → LamOk C X P call) (hn : X.N = N.n) (hs : X.env.scope = sc) (sts : List Stmt), chkSs P c N sc sts = true → PSs X sts (tS C E0 (evSs P.subc P.fieldsOf call make c))
  | .nil, X, E0, N, sc, G, hl, hn, hs, sts, h => by
    rw [chkSs.eq_def] at h; dsimp only at h
    cases sts with
    | nil => exact s_nil
    | cons e es => cases h
  | .cons s r, X, E0, N, sc, G, hl, hn, hs, sts, h => by
    rw [chkSs.eq_def] at h; dsimp only at h
    cases sts with
    | nil => cases h
    | cons st sts =>
      dsimp only at h
      rw [Bool.and_eq_true] at h
      exact s_cons (sS s G hl hn hs st h.1) (sSs r G hl hn hs sts h.2)
end
end
end Ev

set_option Elab.async false
set_option linter.all false
set_option maxRecDepth 100000
set_option maxHeartbeats 4000000
/-! Every def keeps its promise. -/
namespace Ev
open PySem PySem.Spec PyProof.Rows L2
open Classical
structure DefOk (C : Cf) (P : Prog) (K : PySem.W.Frag) (mg : Str → Option Value) (base : Heap) (f : String) (df : Def) : Prop where
  ex : ∃ (fa : Addr) (fd : FuncData) (params : Arguments) (body : List Stmt) (scope : Scope) (N : List Str) (lm : Bool), mg (f : Str) = some (.ref fa) ∧ FunD K (f : Str) (f : Str) params body scope [] [] fa fd ∧ FnScope N (ss df.ps) scope ∧ N.length = df.n ∧
    chkSs P df.body ⟨N, lm⟩ scope body = true ∧ Binds K fd (ss df.ps) [] ∧ (df.kw = true → KBinds K fd (ss df.ps) (ss df.ps) gK gK) ∧
    (lm = true → CatchOk K mg (C.ca "FoundError") ∧ ∃ c Pt, fd.code = .ref c ∧ LamX.TabB base mg c Pt ∧ (Pt, ((f : Str) ++ ".<locals>.") ++ "<lambda>") ∈ C.T ∧ ∀ p ∈ C.T, p.1 = Pt → p.2 = ((f : Str) ++ ".<locals>.") ++ "<lambda>")
/-- what is asked of the program's own things -/
structure World0 (C : Cf) (P : Prog) (prog : Program) (w : World) (K : PySem.W.Frag) (mg : Str → Option Value) (base : Heap) : Prop where
  hP : C.P = prog
  hw : C.w = w
  bi : ∀ x ∈ biNames, mg x = none
  ex : ∀ c, P.isEx c = true → ExE C K mg c
  ty : ∀ c, P.isCl c = true → TyE C K mg P.subc c
  df : ∀ f df, P.find f = some df → DefOk C P K mg base f df
section
variable {C : Cf} {P : Prog} {prog : Program} {w : World} {K : PySem.W.Frag} {mg : Str → Option Value} {base : Heap}
theorem callN_len (d : Nat) (f : String) (df : Def) (hf : P.find f = some df) (ws : List W) (m : Store) (h : callN P d f ws m ≠ .bad) : ws.length = df.ps.length := by
  cases d with
  | zero => exact absurd rfl h
  | succ d =>
    by_cases hl : ws.length = df.ps.length
    · exact hl
    · refine absurd ?_ h
      unfold callN
      rw [hf]
      dsimp only
      unfold runD
      rw [if_neg hl]
      rfl
theorem REn.start {ρ : List Addr} {H : Hp} {ws : List W} {vs : List V} (q : RWs C ρ H ws vs) (n : Nat) : REn C ρ H (ws.map some ++ List.replicate (n - ws.length) none) (vs.map some ++ List.replicate (n - vs.length) none) := by
  refine ⟨by simp [q.length], fun i w e => ?_⟩
  by_cases hi : i < ws.length
  · rw [List.getElem?_append_left (by simpa using hi), List.getElem?_map] at e
    obtain ⟨u, e1, e2⟩ := Option.map_eq_some_iff.mp e
    cases e2
    obtain ⟨v, e3, r⟩ := q.get e1
    refine ⟨v, ?_, r⟩
    rw [List.getElem?_append_left (by rw [List.length_map, ← q.length]; exact hi), List.getElem?_map, e3]; rfl
  · rw [List.getElem?_append_right (by simpa using hi), List.getElem?_replicate] at e
    split at e <;> cases e
/-- one def, its callees at depth d -/
theorem fn_step (S0 : SetOk C) (W0 : World0 C P prog w K mg base) (d : Nat) (ih : ∀ (f : String) (df : Def), P.find f = some df → FnE C prog w K mg base (callN P d) f df (5 * d)) {f : String} {df : Def} (hf : P.find f = some df) {fa : Addr} {fd : FuncData} {params : Arguments} {body : List Stmt} {scope : Scope} {N : List Str} {lm : Bool}
    (F : FunD K (f : Str) (f : Str) params body scope [] [] fa fd) (h3 : FnScope N (ss df.ps) scope) (h4 : N.length = df.n) (h5 : chkSs P df.body ⟨N, lm⟩ scope body = true)
    (h8 : lm = true → CatchOk K mg (C.ca "FoundError") ∧ ∃ c Pt, fd.code = .ref c ∧ LamX.TabB base mg c Pt ∧ (Pt, ((f : Str) ++ ".<locals>.") ++ "<lambda>") ∈ C.T ∧ ∀ p ∈ C.T, p.1 = Pt → p.2 = ((f : Str) ++ ".<locals>.") ++ "<lambda>") :
    FnOk prog w K mg base (L2.CX prog w) (5 * (d + 1)) fa fd (ss df.ps) (spOf C df.ps.length (callN P (d + 1) f)) := by
  obtain ⟨oc, od, dV, kV, doc, pm, an, cdv, ct, osl, rfl, lk, hcd, _, _⟩ := F.ex
  refine fn_of (k := 5 * d + 4) lk hcd h3 (fun vs H Q E h => by rw [h.1]; simp) ?_
  rintro A outer s H vs Q E hr ⟨hl, σ, ρ, m, ws, R, q, h⟩
  have G : GdF C (cxOf (L2.CX prog w) prog w K mg base N (f : Str) scope fa cdv A outer s H E) P (callN P d) E :=
    { hP := W0.hP, hw := W0.hw, hu := by have := hr.un; show (A.deeper _).units + 66 < cLine; omega, calm := rfl, nd := h3.nd, kind := h3.kind, tk := takes_of rfl rfl rfl rfl, bi := W0.bi,
      fn := fun g dg hg => ⟨⟨5 * d, ih g dg hg, hr.mono (by omega)⟩, fun ws m hb => callN_len d g dg hg ws m hb⟩, ex := W0.ex, ty := W0.ty, po := passes_of rfl, fnt := fun _ => rfl }
  refine ⟨_, sSs (make := mk P (callN P d)) S0 df.body G (fun z => (let ⟨z1, c, Pt, z2, z3, z4, z5⟩ := h8 z; ⟨⟨c, Pt, z3, z2, z4, z5⟩, ⟨5 * d, fun g dg hg => ih g dg hg, hr⟩, z1⟩)) rfl rfl body h5, ρ, ws.map some ++ List.replicate (df.n - ws.length) none, m, ?_, R, ?_⟩
  · have := REn.start q df.n
    rw [← h4] at this ⊢
    exact this
  · have h2 : PR C (RW C) σ (wx E) ρ H (runD P (callN P d) (mk P (callN P d)) df ws m) Q := by
      refine PR.gc R ?_
      unfold callN at h
      rw [hf] at h
      exact h
    have hlen : ws.length = df.ps.length := by rw [q.length]; exact hl
    unfold runD at h2
    rw [if_pos hlen] at h2
    cases er : evSs P.subc P.fieldsOf (callN P d) (mk P (callN P d)) df.body (ws.map some ++ List.replicate (df.n - ws.length) none) m with
    | nx en m1 => rw [er] at h2; exact fun ρ1 H1 σ1 x R1 E1 => h2 _ ρ1 H1 x R1 RW.non
    | rt u m1 => rw [er] at h2; exact fun ρ1 H1 v x R1 r => h2 v ρ1 H1 x R1 r
    | exc c us m1 => rw [er] at h2; exact fun dd ρ1 H1 x R1 r => h2 dd ρ1 H1 x R1 r
    | bk en m1 => rw [er] at h2; exact h2.elim
    | ct en m1 => rw [er] at h2; exact h2.elim
    | bad => rw [er] at h2; exact h2.elim
theorem fn_ok (S0 : SetOk C) (W0 : World0 C P prog w K mg base) : ∀ (d : Nat) (f : String) (df : Def), P.find f = some df → FnE C prog w K mg base (callN P d) f df (5 * d)
  | 0, f, df, hf => by
    obtain ⟨fa, fd, params, body, scope, N, lm, h1, F, h3, h4, h5, h6, h7, h8⟩ := (W0.df f df hf).ex
    refine ⟨fa, fd, h1, F.kp, h6, h7, ⟨fun vs H Q E h => by rw [h.1]; simp, ?_⟩⟩
    rintro A outer s H args us vs Q E _ _ _ _ ⟨_, σ, ρ, m, ws, _, _, h⟩
    exact h.elim
  | d + 1, f, df, hf => by
    obtain ⟨fa, fd, params, body, scope, N, lm, h1, F, h3, h4, h5, h6, h7, h8⟩ := (W0.df f df hf).ex
    exact ⟨fa, fd, h1, F.kp, h6, h7, fn_step S0 W0 d (fn_ok S0 W0 d) hf F h3 h4 h5 h8⟩
end
end Ev

set_option Elab.async false
set_option linter.all false
set_option maxRecDepth 100000
set_option maxHeartbeats 4000000
/-! The head: what the program's top leaves, read by one Hook; the walk of a law from the evaluator's answer. -/
namespace Ev
open PySem PySem.Spec PyProof.Rows L2
open Classical
/-! ### one row a def -/
structure Row where
  f : String
  df : Def
  N : List Str
  lm : Bool
  st : Stmt
structure RowOk (P : Prog) (r : Row) : Prop where
  sc : FnScope r.N (ss r.df.ps) (defScope r.st)
  len : r.N.length = r.df.n
  ck : chkSs P r.df.body ⟨r.N, r.lm⟩ (defScope r.st) (defBody r.st) = true
  bd : ∀ (kV doc pm : Value) (an : Option Addr) (cdv ct : Value) (us : List Value), us.length = (ss r.df.ps).length → bindArgs (PySem.W.fnOf (r.f : Str) (r.f : Str) (defArgs r.st) (defBody r.st) (defScope r.st) .none kV doc pm an cdv ct) ⟨us, []⟩ = pure ((ss r.df.ps).zip us)
  kw : r.df.kw = true → r.df.ps ≠ [] ∧ ∀ (kV doc pm : Value) (an : Option Addr) (cdv ct : Value) (ws : List Value), ws.length = (ss r.df.ps).length → bindArgs (PySem.W.fnOf (r.f : Str) (r.f : Str) (defArgs r.st) (defBody r.st) (defScope r.st) .none kV doc pm an cdv ct) ⟨[], (ss r.df.ps).zip ws⟩ = pure ((ss r.df.ps).zip ws)
def Row.d (r : Row) : He.DefD := ⟨((r.f : Str), none), (r.f : Str), (r.f : Str), defArgs r.st, defBody r.st, defScope r.st, [], []⟩
def rowsFind (rows : List Row) (f : String) : Option Def := (rows.find? fun r => r.f == f).map (·.df)
/-- the program of a law: its rows; which class is below which; classes that are raised; classes that are asked of -/
structure Law where
  rows : List Row
  subs : List (String × String × Bool)
  exs : List String
  cls : List String
  lams : List String
  ct : He.DefD
  cy : Str
  cn : Str
def Law.prog (L : Law) : Prog := { find := rowsFind L.rows, subc := fun d c => (L.subs.find? fun t => t.1 == d && t.2.1 == c).map (·.2.2), fieldsOf := fun _ => [], isEx := fun c => L.exs.contains c, isCl := fun c => L.cls.contains c }
/-- the def _law_caught, the rest of what is asked of a law's text -/
structure LawOk (L : Law) : Prop where
  row : ∀ r ∈ L.rows, RowOk L.prog r
  lam : ∀ r ∈ L.rows, r.lm = true → L.lams.contains r.f = true
  c1 : L.ct.name = "_law_caught" ∧ L.ct.qual = "_law_caught" ∧ L.ct.dfl = [] ∧ L.ct.kwd = [] ∧ L.ct.at_ = (("_law_caught" : Str), none)
  c2 : FnScope ["_law_work", L.cy, L.cn] ["_law_work"] L.ct.scope
  c3 : catchB "_law_work" L.cy L.cn "FoundError" L.ct.body = true
  c4 : L.ct.scope.names.lookup ("FoundError" : Str) = some .globalImplicit ∧ L.ct.scope.names.lookup ("_law_work" : Str) = some .local ∧ L.ct.scope.names.lookup L.cy = some .local ∧ L.ct.scope.names.lookup L.cn = some .local
  c5 : (L.cn == ("__debug__" : Str)) = false ∧ (L.cn == ("__classdict__" : Str)) = false ∧ (L.cy == ("__debug__" : Str)) = false ∧ (L.cy == ("__classdict__" : Str)) = false
  c6 : ∀ (kV doc pm : Value) (an : Option Addr) (cdv ct : Value) (us : List Value), us.length = (["_law_work"] : List Str).length → bindArgs (PySem.W.fnOf "_law_caught" "_law_caught" L.ct.params L.ct.body L.ct.scope .none kV doc pm an cdv ct) ⟨us, []⟩ = pure ((["_law_work"] : List Str).zip us)
/-! ### what the Hook looks at -/
def codeA (K : PySem.W.Frag) (x : String) : Addr := match K.lookup (He.ga K (x : Str)) with
  | some ⟨_, _, .func fd, _⟩ => (match fd.code with
    | .ref c => c
    | _ => 0)
  | _ => 0
def tabA (K : PySem.W.Frag) (x : String) : Addr := match K.lookup (codeA K x) with
  | some ⟨_, _, .fields vs, _⟩ => (match (vs[11]? : Option Value) with
    | some (.ref P) => P
    | _ => 0)
  | _ => 0
def isRefB (v : Value) (a : Addr) : Bool := match v with
  | .ref b => b == a
  | _ => false
def isStrB : Value → Bool
  | .str _ _ => true
  | _ => false
def isIntB : Value → Bool
  | .int _ _ => true
  | _ => false
def isBoolB : Value → Bool
  | .bool _ => true
  | _ => false
/-- the function's code is this address -/
def codeIsB (K : PySem.W.Frag) (x : String) : Bool := match K.lookup (He.ga K (x : Str)) with
  | some ⟨_, _, .func fd, _⟩ => isRefB fd.code (codeA K x)
  | _ => false
def codeHdB (K : PySem.W.Frag) (x : String) : Bool := match K.lookup (codeA K x) with
  | some ⟨.type c, _, .fields vs, _⟩ => decide (c = "code") && (match vs[11]? with
    | some v => isRefB v (tabA K x)
    | none => false) && isRefB (vs.getD 11 .none) (tabA K x) && isStrB (vs.getD 18 .none) && isIntB (vs.getD 7 .none) && isBoolB (vs.getD 9 .none) && isIntB (vs.getD 10 .none) && !(codeA K x == tabA K x)
  | _ => false
def emptyB (o : Option Obj) : Bool := match o with
  | some ⟨.none, none, .fields vs, sl⟩ => vs.isEmpty && sl.isEmpty
  | _ => false
def lamB (K : PySem.W.Frag) (g : Addr → Option Obj) (x : String) : Bool := codeIsB K x && codeHdB K x && (emptyB (g (tabA K x)) && (K.lookup (tabA K x)).isNone)
def oneTab (K : PySem.W.Frag) (lams : List String) : Bool := lams.all fun x => lams.all fun y => !(tabA K x == tabA K y) || x == y
def tyNames : List String := ["int", "bool", "tuple", "str", "list", "dict", "NoneType"]
def tyB (K : PySem.W.Frag) (c : String) : Bool := tyNames.all fun n => decide (PySem.W.kitOne K (.type n) (.ref (He.ga K (c : Str))) = some false)
def excB (K : PySem.W.Frag) (D : Addr) : Bool :=
  He.eqO (PySem.W.findIn K (.ref D) "__getattribute__") (some (some (.builtin "BaseException.__getattribute__"))) && He.eqO (PySem.W.findIn K (.ref D) "__getattr__") (some none) && decide (PySem.W.subIn K (.ref D) (.type "BaseException") = some true) && PySem.W.hasDictIn K D &&
  He.eqO (PySem.W.findIn K (.ref D) "__class__") (some (some (.builtin "object.__class__"))) && He.eqO (PySem.W.specialIn K (.builtin "object.__class__") "__get__") (some (some (.builtin "getset_descriptor.__get__"))) && decide (PySem.W.takesIn K (.builtin "object.__class__") = some true) && decide (PySem.W.mroIn K D (.type "object") = some true)
def subB (K : PySem.W.Frag) (t : String × String × Bool) : Bool := excB K (He.ga K (t.1 : Str)) && decide (PySem.W.kitOne K (.ref (He.ga K (t.1 : Str))) (.ref (He.ga K (t.2.1 : Str))) = some t.2.2) && decide (PySem.W.exmOne K (.ref (He.ga K (t.1 : Str))) (.ref (He.ga K (t.2.1 : Str))) = some t.2.2)
def noListB (K : PySem.W.Frag) : Bool := K.all fun p => match p.2.cls with
  | .type c => !(c == "list")
  | _ => true
def moreB (L : Law) (K : PySem.W.Frag) : Bool := L.cls.all (tyB K) && L.subs.all (subB K) && oneTab K L.lams && noListB K
def Law.fa (L : Law) : List He.Fa := (biNames.map fun x => .free x) ++ L.rows.map (fun r => He.Fa.glo (r.f : Str)) ++ [.glo ("_law_caught" : Str)] ++ L.exs.map (fun c => .glo (c : Str)) ++ L.exs.map (fun c => .exc (c : Str)) ++ L.cls.map fun c => .glo (c : Str)
def Law.fn (L : Law) : List He.DefD := L.ct :: L.rows.map Row.d
/-- the objects looked at: no lists, nothing inside a code object -/
def refsX (o : Obj) : List Addr := He.refV o.cls ++ (match o.dict with
  | some d => [d]
  | none => []) ++ match o.data with
  | .seq its _ => its.toList.flatMap He.refV
  | .dict es _ => es.toList.flatMap fun e => He.refV e.val
  | .func fd => He.refV fd.code ++ He.refV fd.defaults ++ He.refV fd.kwdefaults
  | .cls cd => cd.ns :: cd.mro.flatMap He.refV
  | _ => []
def growX (g : Addr → Option Obj) (as : List Addr) : List Addr := (as ++ as.flatMap fun a => match g a with
  | some o => refsX o
  | none => []).eraseDups
def asX (g : Addr → Option Obj) : Nat → List Addr
  | 0 => [mainGlobals]
  | n + 1 => growX g (asX g n)
def noL (g : Addr → Option Obj) (a : Addr) : Bool := match g a with
  | some o => (match o.cls with
    | .type c => !(c == "list")
    | _ => true)
  | none => false
def frX (g : Addr → Option Obj) (n : Nat) : PySem.W.Frag := He.frG g ((asX g n).filter (noL g))
abbrev Alx : Type := Bool × Bool × He.AlD
def obsK (L : Law) (g : Addr → Option Obj) (K : PySem.W.Frag) : Alx := (moreB L K, L.lams.all (lamB K g), He.obsD L.fa L.fn K)
def obsX (L : Law) (n : Nat) (g : Addr → Option Obj) : Alx := obsK L g (frX g n)
def valX (L : Law) : Alx := (true, true, He.valD L.fn)
theorem emptyB_ok {o : Option Obj} (h : emptyB o = true) : o = some { cls := .none, data := .fields #[] } := by
  unfold emptyB at h
  split at h
  · rename_i vs sl
    rw [Bool.and_eq_true] at h
    obtain ⟨h1, h2⟩ := h
    obtain rfl : vs = #[] := Array.isEmpty_iff.mp h1
    obtain rfl : sl = #[] := Array.isEmpty_iff.mp h2
    rfl
  · cases h
/-- what the end leans on -/
def SaysX (L : Law) (K : PySem.W.Frag) (h : Heap) : Prop := K.In h ∧ moreB L K = true ∧ He.SaysD L.fa L.fn K ∧ ∀ x ∈ L.lams, codeIsB K x = true ∧ codeHdB K x = true ∧ h.get? (tabA K x) = some { cls := .none, data := .fields #[] } ∧ K.lookup (tabA K x) = none
def hookX (L : Law) (n : Nat) : PySem.W.Hook where
  α := Alx
  obs := fun s => obsX L n s.heap.get?
  val := fun _ => valX L
  says := fun _ h => ∃ K : PySem.W.Frag, SaysX L K h
  of := fun _ s e => ⟨_, He.frG_in, congrArg (fun z : Alx => z.1) e, congrArg (fun z : Alx => z.2.2) e, fun x hx => by
    have e2 : (L.lams.all (lamB (frX s.heap.get? n) s.heap.get?)) = true := congrArg (fun z : Alx => z.2.1) e
    have e3 := List.all_eq_true.mp e2 x hx
    unfold lamB at e3
    simp only [Bool.and_eq_true] at e3
    exact ⟨e3.1.1, e3.1.2, emptyB_ok e3.2.1, Option.isNone_iff_eq_none.mp e3.2.2⟩⟩
  keeps := fun _ _ _ ⟨K, hK, c1, c2, c3⟩ k => ⟨K, PySem.W.Frag.In.keeps hK k, c1, c2, fun x hx => ⟨(c3 x hx).1, (c3 x hx).2.1, k _ _ (c3 x hx).2.2.1, (c3 x hx).2.2.2⟩⟩
theorem obsX_eq {L : Law} {n : Nat} {g : Addr → Option Obj} {s : Shared} (h : ∀ a, g a = s.heap.get? a) : obsX L n g = (hookX L n).obs s := by
  have e : g = s.heap.get? := funext h
  rw [e] <;> rfl
/-! ### from the Hook to World0 -/
section
variable {L : Law} {K : PySem.W.Frag} {h : Heap} {mg : Str → Option Value}
theorem isRefB_ok {v : Value} {a : Addr} (e : isRefB v a = true) : v = .ref a := by
  unfold isRefB at e
  split at e
  · rw [beq_iff_eq] at e; rw [e]
  · cases e
theorem codeHd_of (hK : K.In h) {x : String} (e : codeHdB K x = true) : PySem.W.CodeHd h (codeA K x) (tabA K x) := by
  unfold codeHdB at e
  split at e
  · rename_i c d vs sl hl
    simp only [Bool.and_eq_true, decide_eq_true_eq, Bool.not_eq_true', beq_eq_false_iff_ne] at e
    obtain ⟨⟨⟨⟨⟨⟨⟨e1, e2⟩, e3⟩, e4⟩, e5⟩, e6⟩, e7⟩, e8⟩ := e
    have e4' : ∃ file tf, vs.getD 18 .none = .str file tf := by
      revert e4; unfold isStrB; split
      · rename_i a b q; exact fun _ => ⟨a, b, q⟩
      · intro z; cases z
    have e5' : ∃ file tf, vs.getD 7 .none = .int file tf := by
      revert e5; unfold isIntB; split
      · rename_i a b q; exact fun _ => ⟨a, b, q⟩
      · intro z; cases z
    have e6' : ∃ file, vs.getD 9 .none = .bool file := by
      revert e6; unfold isBoolB; split
      · rename_i a q; exact fun _ => ⟨a, q⟩
      · intro z; cases z
    have e7' : ∃ file tf, vs.getD 10 .none = .int file tf := by
      revert e7; unfold isIntB; split
      · rename_i a b q; exact fun _ => ⟨a, b, q⟩
      · intro z; cases z
    obtain ⟨file, tf, e4⟩ := e4'
    obtain ⟨fl, tg, e5⟩ := e5'
    obtain ⟨inF, e6⟩ := e6'
    obtain ⟨tx, tt, e7⟩ := e7'
    have e2' : vs[11]? = some (.ref (tabA K x)) := by
      split at e2
      · rename_i v q; rw [q, isRefB_ok e2]
      · cases e2
    exact ⟨_, vs, file, tf, fl, tg, inF, tx, tt, hK _ _ hl, by rw [e1], rfl, e2', isRefB_ok e3, e4, e5, e6, e7, e8⟩
  · cases e
theorem codeIs_of {x : String} {fd : FuncData} {oc : Value} {od : Option Addr} {osl : Array (Option Value)} (e : codeIsB K x = true) (lk : K.lookup (He.ga K (x : Str)) = some ⟨oc, od, .func fd, osl⟩) : fd.code = .ref (codeA K x) := by
  unfold codeIsB at e
  rw [lk] at e
  exact isRefB_ok e
theorem mem_lookupA {a : Addr} {o : Obj} : ∀ {K : List (Addr × Obj)}, K.lookup a = some o → (a, o) ∈ K
  | [], e => by cases e
  | (b, u) :: r, e => by
    rw [List.lookup_cons] at e
    split at e
    · rename_i q
      rw [beq_iff_eq] at q
      cases e
      rw [q]
      exact List.mem_cons_self
    · exact List.mem_cons_of_mem _ (mem_lookupA e)
theorem noList_of {a : Addr} {o : Obj} (e : noListB K = true) (hl : K.lookup a = some o) : o.cls ≠ .type "list" := fun z => by
  have hm : (a, o) ∈ K := mem_lookupA hl
  have := List.all_eq_true.mp e _ hm
  rw [z] at this
  cases this
/-- the classes' addresses, the tables -/
def Law.cf (L : Law) (prog : Program) (w : World) (K : PySem.W.Frag) : Cf := ⟨prog, w, fun c => He.ga K (c : Str), L.prog.fieldsOf, L.lams.map fun x => (tabA K x, ((x : Str) ++ ".<locals>.") ++ "<lambda>")⟩
theorem fa_mem (c : He.SaysD L.fa L.fn K) {f : He.Fa} (hf : f ∈ L.fa) : f.ok K = true := by
  obtain ⟨i, hi, e⟩ := List.getElem_of_mem hf
  exact c.fact i (by rw [List.getElem?_eq_getElem hi, e])
theorem fn_mem (c : He.SaysD L.fa L.fn K) {d : He.DefD} (hd : d ∈ L.fn) : ∃ fd, FunD K d.name d.qual d.params d.body d.scope (d.dvs K) (d.kws K) (He.fAd K d.at_) fd := by
  obtain ⟨i, hi, e⟩ := List.getElem_of_mem hd
  exact c.def_ i (by rw [List.getElem?_eq_getElem hi, e])
theorem row_fun (c : He.SaysD L.fa L.fn K) {r : Row} (hr : r ∈ L.rows) : ∃ fd, FunD K (r.f : Str) (r.f : Str) (defArgs r.st) (defBody r.st) (defScope r.st) [] [] (He.ga K (r.f : Str)) fd :=
  fn_mem c (d := r.d) (List.mem_cons_of_mem _ (List.mem_map.mpr ⟨r, hr, rfl⟩))
theorem catch_of (LO : LawOk L) (G : h.Ns mainGlobals mg) (hK : K.In h) (c : He.SaysD L.fa L.fn K) (CS : Addr) : CatchOk K mg CS := by
  obtain ⟨fd, F⟩ := fn_mem c (d := L.ct) List.mem_cons_self
  obtain ⟨a1, a2, a3, a4, a5⟩ := LO.c1
  obtain ⟨d1, d2, d3, d4⟩ := LO.c4
  obtain ⟨n1, n2, n3, n4⟩ := LO.c5
  have F : FunD K "_law_caught" "_law_caught" L.ct.params L.ct.body L.ct.scope [] [] (He.ga K ("_law_caught" : Str)) fd := by
    have F1 := F
    unfold He.DefD.dvs He.DefD.kws at F1
    rw [a1, a2, a3, a4, a5] at F1
    exact F1
  refine ⟨_, fd, L.cy, L.cn, L.ct.scope, L.ct.params, L.ct.body, He.glo_ok hK G (fa_mem c ?_), F, F.bindsN fun kV doc pm an cdv ct us hl => LO.c6 kV doc pm an cdv ct us hl, LO.c2, LO.c3, d1, d2, d3, d4, n1, n2, n3, n4⟩
  unfold Law.fa
  simp
theorem def_of (LO : LawOk L) (G : h.Ns mainGlobals mg) (hS : SaysX L K h) {prog : Program} {w : World} {base : Heap} (hT : ∀ x ∈ L.lams, LamX.TabB base mg (codeA K x) (tabA K x)) {r : Row} (hr : r ∈ L.rows) {fd : FuncData} (F : FunD K (r.f : Str) (r.f : Str) (defArgs r.st) (defBody r.st) (defScope r.st) [] [] (He.ga K (r.f : Str)) fd) :
    mg (r.f : Str) = some (.ref (He.ga K (r.f : Str))) ∧ Binds K fd (ss r.df.ps) [] ∧ (r.df.kw = true → KBinds K fd (ss r.df.ps) (ss r.df.ps) gK gK) ∧
    (r.lm = true → CatchOk K mg ((L.cf prog w K).ca "FoundError") ∧ ∃ c Pt, fd.code = .ref c ∧ LamX.TabB base mg c Pt ∧ (Pt, ((r.f : Str) ++ ".<locals>.") ++ "<lambda>") ∈ (L.cf prog w K).T ∧ ∀ p ∈ (L.cf prog w K).T, p.1 = Pt → p.2 = ((r.f : Str) ++ ".<locals>.") ++ "<lambda>") := by
  obtain ⟨hK, c1, c2, c3⟩ := hS
  have O := LO.row r hr
  refine ⟨He.glo_ok hK G (fa_mem c2 ?_), F.bindsN fun kV doc pm an cdv ct us hl => O.bd kV doc pm an cdv ct us hl, fun hk => ?_, fun hl => ⟨catch_of LO G hK c2 _, codeA K r.f, tabA K r.f, ?_, ?_, ?_, ?_⟩⟩
  · unfold Law.fa
    simp only [List.mem_append, List.mem_map]
    exact .inl (.inl (.inl (.inl (.inr ⟨r, hr, rfl⟩))))
  · obtain ⟨k1, k2⟩ := O.kw hk
    obtain ⟨oc, od, dV, kV, doc, pm, an, cdv, ct, osl, rfl, lk, hcd, hD, hKw⟩ := F.ex
    rcases hD with ⟨_, rfl⟩ | ⟨e, _⟩
    · refine ⟨fun s us ws hs hlen => ?_, fun {vs us zs ws} r1 r2 => ?_⟩
      · cases us with
        | nil => exact .of_eq (k2 kV doc pm an cdv ct ws hlen)
        | cons u us =>
          have : (0 : Nat) = (ss r.df.ps).length := hlen
          rw [List.length_map] at this
          exact absurd (List.length_eq_zero_iff.mp this.symm) k1
      · cases r1 with
        | nil => exact r2
        | cons _ _ => exact .nil
    · exact absurd rfl e
  · have hx := LO.lam r hr hl
    have hx : r.f ∈ L.lams := List.contains_iff_mem.mp hx
    obtain ⟨oc, od, dV, kV, doc, pm, an, cdv, ct, osl, e1, lk, hcd, hD, hKw⟩ := F.ex
    exact codeIs_of (c3 _ hx).1 lk
  · exact hT _ (List.contains_iff_mem.mp (LO.lam r hr hl))
  · exact List.mem_map.mpr ⟨r.f, List.contains_iff_mem.mp (LO.lam r hr hl), rfl⟩
  · intro p hp e
    obtain ⟨x, hx, rfl⟩ := List.mem_map.mp hp
    have hr2 : r.f ∈ L.lams := List.contains_iff_mem.mp (LO.lam r hr hl)
    unfold moreB at c1
    simp only [Bool.and_eq_true] at c1
    have o1 := List.all_eq_true.mp (List.all_eq_true.mp c1.1.2 x hx) r.f hr2
    simp only [Bool.or_eq_true, Bool.not_eq_true', beq_eq_false_iff_ne, beq_iff_eq] at o1
    rcases o1 with o1 | o1
    · exact absurd e o1
    · rw [o1]
theorem world0_of (LO : LawOk L) (G : h.Ns mainGlobals mg) (hS : SaysX L K h) (prog : Program) (w : World) (base : Heap) (hT : ∀ x ∈ L.lams, LamX.TabB base mg (codeA K x) (tabA K x)) : World0 (L.cf prog w K) L.prog prog w K mg base := by
  obtain ⟨hK, c1, c2, c3⟩ := hS
  have c1' := c1
  unfold moreB at c1'
  simp only [Bool.and_eq_true] at c1'
  obtain ⟨⟨⟨m1, m2⟩, m3⟩, m4⟩ := c1'
  refine ⟨rfl, rfl, fun x hx => He.free_ok hK G (fa_mem c2 ?_), fun c hc => ?_, fun c hc => ?_, fun f df hf => ?_⟩
  · unfold Law.fa
    simp only [List.mem_append, List.mem_map]
    exact .inl (.inl (.inl (.inl (.inl ⟨x, hx, rfl⟩))))
  · have hc : c ∈ L.exs := List.contains_iff_mem.mp hc
    obtain ⟨x1, x2, x3, x4⟩ := He.exc_ok (K := K) (x := (c : Str)) (fa_mem c2 (by
      unfold Law.fa
      simp only [List.mem_append, List.mem_map]
      exact .inl (.inr ⟨c, hc, rfl⟩)))
    exact ⟨He.glo_ok hK G (fa_mem c2 (by
      unfold Law.fa
      simp only [List.mem_append, List.mem_map]
      exact .inl (.inl (.inr ⟨c, hc, rfl⟩)))), x1, x2, x3, x4⟩
  · have hc : c ∈ L.cls := List.contains_iff_mem.mp hc
    have t1 := List.all_eq_true.mp m1 c hc
    unfold tyB at t1
    have t2 : ∀ n ∈ tyNames, PySem.W.kitOne K (.type n) (.ref (He.ga K (c : Str))) = some false := fun n hn => of_decide_eq_true (List.all_eq_true.mp t1 n hn)
    refine ⟨He.glo_ok hK G (fa_mem c2 (by
      unfold Law.fa
      simp only [List.mem_append, List.mem_map]
      exact .inr ⟨c, hc, rfl⟩)), fun n hn => ?_, t2 _ (by decide), fun d b hd => ?_⟩
    · cases n <;> first | exact t2 _ (by decide) | exact Bool.noConfusion (show false = true from hn)
    · obtain ⟨t, ht, e⟩ := Option.map_eq_some_iff.mp (show (L.subs.find? fun t => t.1 == d && t.2.1 == c).map (·.2.2) = some b from hd)
      have hm := List.mem_of_find?_eq_some ht
      have hp := List.find?_some ht
      simp only [Bool.and_eq_true, beq_iff_eq] at hp
      have s1 := List.all_eq_true.mp m2 t hm
      unfold subB at s1
      simp only [Bool.and_eq_true, decide_eq_true_eq] at s1
      obtain ⟨⟨s1, s2⟩, s3⟩ := s1
      rw [hp.1] at s1 s2 s3
      rw [hp.2, e] at s2 s3
      unfold excB at s1
      simp only [Bool.and_eq_true, decide_eq_true_eq] at s1
      obtain ⟨⟨⟨⟨⟨⟨⟨q1, q2⟩, q3⟩, q4⟩, q5⟩, q6⟩, q7⟩, q8⟩ := s1
      exact ⟨⟨He.eqO_ok q1, He.eqO_ok q2, q3, q4, He.eqO_ok q5, He.eqO_ok q6, q7, q8⟩, s2, s3⟩
  · obtain ⟨r, h1, h2⟩ := Option.map_eq_some_iff.mp (show (L.rows.find? fun r => r.f == f).map (·.df) = some df from hf)
    have hr := List.mem_of_find?_eq_some h1
    have e := List.find?_some h1
    simp only [beq_iff_eq] at e
    subst e h2
    obtain ⟨fd, F⟩ := row_fun c2 hr
    have O := LO.row r hr
    obtain ⟨d1, d2, d3, d4⟩ := def_of LO G ⟨hK, c1, c2, c3⟩ (prog := prog) (w := w) hT hr F
    exact ⟨_, fd, _, _, _, r.N, r.lm, d1, F, O.sc, O.len, O.ck, d2, d3, d4⟩
end
/-! ### the walk -/
theorem law_at {l : PySem.W.OpenLaw} {L : Law} (LO : LawOk L) (S0 : ∀ (prog : Program) (w : World) (K : PySem.W.Frag), SetOk (L.cf prog w K)) {d : Nat} {df : Def} {w : World} {mg : Str → Option Value} {fa : Addr} {h : Heap} (x : String) (hdf : L.prog.find "law" = some df) (hps : df.ps = [x]) (hY : (hookX L n).says w h) (G : h.Ns mainGlobals mg) (hmg : mg ("law" : Str) = some (.ref fa))
    (hlaw : ∀ (o : MObj) (ns : List Int), (o = .lst (ns.map W.int) ∨ o = .lock (ns.map W.int)) → ns.length ≤ 63 → (∀ z ∈ ns, Builtin.Int.intBits z ≤ 1048576) → ∃ m, callN L.prog (d + 1) "law" [.ref 0] [o] = .ok (.bl true) m) :
    ∃ K : PySem.W.Frag, K.In h ∧ LamX.LawAtS l w K (L2.CX l.prog w) (5 * (d + 1)) 63 (x : Str) mg fa h := by
  obtain ⟨K, hS⟩ := hY
  have hS0 := hS
  obtain ⟨hK, c1, c2, c3⟩ := hS
  obtain ⟨r, h1, h2⟩ := Option.map_eq_some_iff.mp (show (L.rows.find? fun r => r.f == "law").map (·.df) = some df from hdf)
  have hr := List.mem_of_find?_eq_some h1
  have e := List.find?_some h1
  simp only [beq_iff_eq] at e
  have er : r = ⟨"law", df, r.N, r.lm, r.st⟩ := by
    cases r; simp only at e h2; subst e h2; rfl
  obtain ⟨fd, F⟩ := row_fun c2 hr
  have O := LO.row r hr
  generalize hN : r.N = N at er
  generalize hl : r.lm = lm at er
  generalize hst : r.st = st at er
  subst er
  have hfa : fa = He.ga K ("law" : Str) := by
    have := He.glo_ok hK G (fa_mem c2 (f := .glo ("law" : Str)) (by
      unfold Law.fa
      simp only [List.mem_append, List.mem_map]
      exact .inl (.inl (.inl (.inl (.inr ⟨_, hr, rfl⟩))))))
    rw [hmg] at this
    injection this with this
    injection this
  subst hfa
  refine ⟨K, hK, fd, L.lams.map fun x => (codeA K x, tabA K x), spOf (L.cf l.prog w K) 1 (callN L.prog (d + 1) "law"), fun p hp => ?_, fun p hp => ?_, fun p hp => ?_, fun s u => ?_, fun H a ns hlen hbits hH hsq => ?_, fun base hb hG hT => ?_⟩
  · obtain ⟨y, hy, rfl⟩ := List.mem_map.mp hp
    exact (c3 y hy).2.2.1
  · obtain ⟨y, hy, rfl⟩ := List.mem_map.mp hp
    exact (c3 y hy).2.2.2
  · obtain ⟨y, hy, rfl⟩ := List.mem_map.mp hp
    exact codeHd_of hK (c3 y hy).2.1
  · have b := FunD.bindsA (ps := ss df.ps) F fun kV doc pm an cdv ct us hl => O.bd kV doc pm an cdv ct us hl
    have b2 := b s [u] (by rw [hps]; rfl)
    rw [hps] at b2
    exact b2
  · obtain ⟨o, ho, hR⟩ : ∃ o : MObj, (o = .lst (ns.map W.int) ∨ o = .lock (ns.map W.int)) ∧ RO (L.cf l.prog w K) [a] H o a := by
      have hv : RWs (L.cf l.prog w K) [a] H (ns.map W.int) (ns.map V.int) := by
        clear hlen hbits hsq
        induction ns with
        | nil => exact .nil
        | cons n ns ih => exact .cons .int ih
      rcases hsq with hq | ⟨o, its, n, hk, hcl, _⟩
      · rcases hq with hq | ⟨o, hq⟩
        · exact ⟨_, .inl rfl, _, hq, hv⟩
        · exact ⟨_, .inr rfl, _, _, hq, hv⟩
      · unfold moreB at c1
        simp only [Bool.and_eq_true] at c1
        exact absurd hcl (noList_of c1.2 hk)
    obtain ⟨m, hm⟩ := hlaw o ns ho hlen hbits
    refine ⟨rfl, [], [a], [o], [.ref 0], ⟨rfl, by simp, fun n o1 a1 e1 e2 => ?_, fun p hp => ?_⟩, .cons (by rw [RW]; exact ⟨a, rfl, rfl⟩) .nil, ?_⟩
    · cases n with
      | zero => cases e1; cases e2; exact hR
      | succ n => cases e1
    · obtain ⟨y, hy, rfl⟩ := List.mem_map.mp hp
      exact LamX.TabS.nil (hH (codeA K y, tabA K y) (List.mem_map.mpr ⟨y, hy, rfl⟩))
    · rw [hm]
      intro b ρ2 H2 x2 R2 q
      exact q.bl_iff
  · have hT' : ∀ x ∈ L.lams, LamX.TabB base mg (codeA K x) (tabA K x) := fun y hy => hT _ (List.mem_map.mpr ⟨y, hy, rfl⟩)
    have W0 := world0_of LO G hS0 l.prog w base hT'
    obtain ⟨d1, d2, d3, d4⟩ := def_of LO G hS0 (prog := l.prog) (w := w) hT' hr F
    have key := fn_step (S0 l.prog w K) W0 d (fn_ok (S0 l.prog w K) W0 d) hdf F O.sc O.len O.ck d4
    rw [hps] at key
    exact key
end Ev

set_option Elab.async false
set_option linter.all false
set_option maxRecDepth 100000
set_option maxHeartbeats 4000000
/-! Plain reasoning about the evaluator: what goes, what stays; loops. -/
namespace Ev
open PySem
open Classical
/-- not for dsimp -/
theorem nr {α : Sort _} {a b : α} (h : a = b) : a = b := h
@[simp] theorem Res.of_some {α : Type} (a : α) (m : Store) : Res.of (some a) m = .ok a m := nr rfl
@[simp] theorem Res.of_none {α : Type} (m : Store) : Res.of (none : Option α) m = .bad := nr rfl
@[simp] theorem bind_ite {α β : Type} {c : Prop} [Decidable c] (a b : Res α) (k : α → Store → Res β) : (if c then a else b).bind k = if c then a.bind k else b.bind k := by split <;> rfl
@[simp] theorem st_ite {α : Type} {c : Prop} [Decidable c] (a b : Res α) (k : α → Store → SR) : (if c then a else b).st k = if c then a.st k else b.st k := by split <;> rfl
@[simp] theorem seq_ite {c : Prop} [Decidable c] (a b : SR) (k : En → Store → SR) : (if c then a else b).seq k = if c then a.seq k else b.seq k := by split <;> rfl
@[simp] theorem gc_ite {c : Prop} [Decidable c] (m : Store) (a b : Res W) : gc m (if c then a else b) = if c then gc m a else gc m b := by split <;> rfl
@[simp] theorem of_ite {α : Type} {c : Prop} [Decidable c] (m : Store) (a b : Option α) : Res.of (if c then a else b) m = if c then Res.of a m else Res.of b m := by split <;> rfl
/-! ### flat values -/
@[simp] theorem refs_non : W.refs .non = [] := by simp [W.refs]
@[simp] theorem refs_bl (b : Bool) : W.refs (.bl b) = [] := by simp [W.refs]
@[simp] theorem refs_int (b : Int) : W.refs (.int b) = [] := by simp [W.refs]
@[simp] theorem refs_str (b : Str) : W.refs (.str b) = [] := by simp [W.refs]
@[simp] theorem refs_tup (ws : List W) : W.refs (.tup ws) = W.refsL ws := by simp [W.refs]
@[simp] theorem refs_ref (n : Nat) : W.refs (.ref n) = [n] := by simp [W.refs]
@[simp] theorem refs_exc (c : String) (ws : List W) : W.refs (.exc c ws) = W.refsL ws := by simp [W.refs]
@[simp] theorem refs_obj (c : String) (ws : List W) : W.refs (.obj c ws) = W.refsL ws := by simp [W.refs]
@[simp] theorem refsL_nil : W.refsL [] = [] := by simp [W.refsL]
@[simp] theorem refsL_cons (w : W) (r : List W) : W.refsL (w :: r) = w.refs ++ W.refsL r := by simp [W.refsL]
@[simp] theorem refsL_append : ∀ (a b : List W), W.refsL (a ++ b) = W.refsL a ++ W.refsL b
  | [], b => by simp
  | w :: r, b => by simp [refsL_append r b]
theorem refsL_nil_iff {ws : List W} : W.refsL ws = [] ↔ ∀ w ∈ ws, w.refs = [] := by
  induction ws with
  | nil => simp
  | cons w r ih => simp [ih]
@[simp] theorem refsL_map {α : Type} (f : α → W) (l : List α) (h : ∀ x, (f x).refs = []) : W.refsL (l.map f) = [] := by
  rw [refsL_nil_iff]
  intro w hw
  obtain ⟨x, _, rfl⟩ := List.mem_map.mp hw
  exact h x
theorem mem_refsL {ws : List W} {r : Nat} : r ∈ W.refsL ws ↔ ∃ w ∈ ws, r ∈ w.refs := by
  induction ws with
  | nil => simp
  | cons w q ih => simp [ih]
theorem belowL_nil {n : Nat} {ws : List W} (h : W.refsL ws = []) : belowL n ws := fun r hr => by rw [h] at hr; cases hr
/-! ### the store -/
theorem keepOld_app (m e : Store) : keepOld m (m ++ e) := fun i hi => ⟨m[i], by rw [List.getElem?_append_left hi, List.getElem?_eq_getElem hi], .inl (List.getElem?_eq_getElem hi)⟩
theorem keepOld_refl (m : Store) : keepOld m m := by simpa using keepOld_app m []
theorem news_low {n : Nat} {ws : List W} (h : ∀ r ∈ W.refsL ws, r < n) : news n ws = [] := by
  unfold news
  have : (W.refsL ws).filter (fun r => decide (n ≤ r)) = [] := by
    rw [List.filter_eq_nil_iff]
    intro r hr
    have := h r hr
    simp; omega
  rw [this]; rfl
mutual
theorem ren_low {n : Nat} : ∀ {w : W}, (∀ r ∈ w.refs, r < n) → w.ren (rn n []) = w
  | .non, _ => by simp [W.ren]
  | .bl _, _ => by simp [W.ren]
  | .int _, _ => by simp [W.ren]
  | .str _, _ => by simp [W.ren]
  | .ref k, h => by
    have : k < n := h k (by simp)
    simp [W.ren, rn, this]
  | .tup ws, h => by rw [W.ren, renL_low (by simpa using h)]
  | .obj c ws, h => by rw [W.ren, renL_low (by simpa using h)]
  | .exc c ws, h => by rw [W.ren, renL_low (by simpa using h)]
theorem renL_low {n : Nat} : ∀ {ws : List W}, (∀ r ∈ W.refsL ws, r < n) → W.renL (rn n []) ws = ws
  | [], _ => by simp [W.renL]
  | w :: r, h => by
    rw [W.renL, ren_low (fun q hq => h q (by simp [hq])), renL_low (fun q hq => h q (by simp [hq]))]
end
theorem flatNews_nil (n : Nat) (m : Store) : flatNews n m [] := fun r hr => by cases hr
/-- a result that names nothing new: the old part of the store stays -/
theorem gc_low {m m1 : Store} {w : W} (k : keepOld m m1) (h : ∀ r ∈ w.refs, r < m.length) : gc m (.ok w m1) = .ok w (m1.take m.length) := by
  unfold gc
  simp only
  have hn : news m.length [w] = [] := news_low (by simpa using h)
  rw [hn]
  rw [if_pos ⟨k, flatNews_nil _ _⟩, ren_low h]
  simp
@[simp] theorem gc_bad (m : Store) : gc m .bad = .bad := nr rfl
@[simp] theorem gc_keep (m : Store) {w : W} (h : w.refs = []) : gc m (.ok w m) = .ok w m := by
  rw [gc_low (keepOld_refl m) (by rw [h]; simp)]; simp
@[simp] theorem gc_drop (m e : Store) {w : W} (h : w.refs = []) : gc m (.ok w (m ++ e)) = .ok w m := by
  rw [gc_low (keepOld_app m e) (by rw [h]; simp)]; simp
theorem gc_lowd (m e : Store) {w : W} (h : ∀ r ∈ w.refs, r < m.length) : gc m (.ok w (m ++ e)) = .ok w m := by
  rw [gc_low (keepOld_app m e) h]; simp
theorem gc_lowk (m : Store) {w : W} (h : ∀ r ∈ w.refs, r < m.length) : gc m (.ok w m) = .ok w m := by
  simpa using gc_lowd m [] h
/-- a new flat object: it alone stays -/
theorem gc_ref (m e : Store) {k : Nat} {o : MObj} (he : e[k]? = some o) (hb : o.bel m.length) : gc m (.ok (.ref (m.length + k)) (m ++ e)) = .ok (.ref m.length) (m ++ [o]) := by
  unfold gc
  simp only
  have hn : news m.length [.ref (m.length + k)] = [m.length + k] := by
    unfold news
    simp [ddN]
  rw [hn]
  have hg : (m ++ e)[m.length + k]? = some o := by rw [List.getElem?_append_right (by omega)]; simpa using he
  rw [if_pos ⟨keepOld_app m e, fun r hr => by rw [List.mem_singleton.mp hr]; exact ⟨o, hg, hb⟩⟩]
  have hnl : ¬ (m.length + k < m.length) := by omega
  simp only [W.ren, rn, if_neg hnl, List.idxOf_cons_self, Nat.add_zero, List.take_left', List.filterMap_cons, hg, List.filterMap_nil]
@[simp] theorem gc_new (m : Store) {o : MObj} (hb : o.bel m.length) : gc m (.ok (.ref m.length) (m ++ [o])) = .ok (.ref m.length) (m ++ [o]) := gc_ref m [o] (k := 0) rfl hb
/-- old objects changed -/
theorem gc_mut {m m1 : Store} (e : Store) {w : W} (hl : m1.length = m.length) (k : ∀ (i : Nat) (o : MObj), m1[i]? = some o → m[i]? = some o ∨ o.bel m.length) (h : ∀ r ∈ w.refs, r < m.length) : gc m (.ok w (m1 ++ e)) = .ok w m1 := by
  have kk : keepOld m (m1 ++ e) := fun i hi => by
    have hi1 : i < m1.length := by omega
    refine ⟨m1[i], by rw [List.getElem?_append_left hi1, List.getElem?_eq_getElem hi1], ?_⟩
    exact k i _ (List.getElem?_eq_getElem hi1)
  rw [gc_low kk h, ← hl]; simp
@[simp] theorem bel_lst {n : Nat} {ws : List W} : (MObj.lst ws).bel n ↔ ∀ r ∈ W.refsL ws, r < n := ⟨id, id⟩
@[simp] theorem bel_lock {n : Nat} {ws : List W} : (MObj.lock ws).bel n ↔ ∀ r ∈ W.refsL ws, r < n := ⟨id, id⟩
theorem bel_flat {n : Nat} {ws : List W} (h : W.refsL ws = []) : (MObj.lst ws).bel n := by rw [bel_lst, h]; simp
@[simp] theorem get_new (m : Store) (o : MObj) (e : Store) : (m ++ o :: e)[m.length]? = some o := by simp
theorem get_old {m e : Store} {n : Nat} {o : MObj} (h : m[n]? = some o) : (m ++ e)[n]? = some o := by
  rw [List.getElem?_append_left (List.getElem?_eq_some_iff.mp h).1, h]
theorem lt_of_get {m : Store} {n : Nat} {o : MObj} (h : m[n]? = some o) : n < m.length := (List.getElem?_eq_some_iff.mp h).1
/-! ### calls -/
section
variable {P : Prog}
/-- the body's way out as the call's result -/
def outD : SR → Res W
  | .nx _ m => .ok .non m
  | .rt w m => .ok w m
  | .exc c ws m => .exc c ws m
  | _ => .bad
@[simp] theorem outD1 (en : En) (m : Store) : outD (.nx en m) = .ok .non m := nr rfl
@[simp] theorem outD2 (w : W) (m : Store) : outD (.rt w m) = .ok w m := nr rfl
@[simp] theorem outD3 (c : String) (ws : List W) (m : Store) : outD (.exc c ws m) = .exc c ws m := nr rfl
@[simp] theorem outD4 : outD .bad = .bad := nr rfl
@[simp] theorem outD_ite {c : Prop} [Decidable c] (a b : SR) : outD (if c then a else b) = if c then outD a else outD b := by split <;> rfl
def startE (df : Def) (ws : List W) : En := ws.map some ++ List.replicate (df.n - ws.length) none
theorem call_eq {f : String} {df : Def} {ws : List W} {m : Store} {r : Res W} {k : Nat} (hf : P.find f = some df) (hl : ws.length = df.ps.length)
    (h : ∀ d, k ≤ d → gc m (outD (evSs P.subc P.fieldsOf (callN P d) (mk P (callN P d)) df.body (startE df ws) m)) = r) : ∀ d, k + 1 ≤ d → callN P d f ws m = r := by
  intro d hd
  obtain ⟨d, rfl⟩ : ∃ e, d = e + 1 := ⟨d - 1, by omega⟩
  rw [← h d (by omega)]
  show (match P.find f with
    | some df => gc m (runD P (callN P d) (mk P (callN P d)) df ws m)
    | none => .bad) = _
  rw [hf]
  show gc m (runD P (callN P d) (mk P (callN P d)) df ws m) = _
  unfold runD
  rw [if_pos hl]
  unfold startE outD
  cases evSs P.subc P.fieldsOf (callN P d) (mk P (callN P d)) df.body (ws.map some ++ List.replicate (df.n - ws.length) none) m <;> rfl
end
/-! ### loops -/
/-- comprehension: each item gives some values, the store stays -/
theorem loopC_ok {still : Store → Prop} {f : W → Store → Res (List W)} {m : Store} {g : W → List W} (hs : still m) : ∀ {ws : List W}, (∀ w ∈ ws, f w m = .ok (g w) m) → loopC still f ws m = .ok (ws.flatMap g) m
  | [], _ => by simp [loopC, hs]
  | w :: r, h => by
    rw [loopC, if_pos hs, h w List.mem_cons_self]
    simp only [Res.bind]
    rw [loopC_ok hs fun u hu => h u (List.mem_cons_of_mem _ hu)]
    simp
@[simp] theorem stillAt_nil (m : Store) : stillAt [] m := fun p hp => by cases hp
@[simp] theorem stillAt_one {n : Nat} {o : Option MObj} {m : Store} : stillAt [(n, o)] m ↔ m[n]? = o := by simp [stillAt]
@[simp] theorem gcI_keep (m : Store) {ws : List W} {srcs : List Src} (h : W.refsL ws = []) : gcI m ⟨ws, srcs⟩ m = .ok ⟨ws, srcs.filter fun p => decide (p.1 < m.length)⟩ m := by
  unfold gcI
  rw [if_pos ⟨keepOld_refl m, belowL_nil h⟩]; simp
@[simp] theorem gcI_drop (m e : Store) {ws : List W} {srcs : List Src} (h : W.refsL ws = []) : gcI m ⟨ws, srcs⟩ (m ++ e) = .ok ⟨ws, srcs.filter fun p => decide (p.1 < m.length)⟩ m := by
  unfold gcI
  rw [if_pos ⟨keepOld_app m e, belowL_nil h⟩]; simp
/-- a for whose turns carry a state: enc its names, sto its store; none of the turns leaves the loop but by a return -/
def foldX {σ α ρ : Type} (step : σ → α → σ ⊕ ρ) : List α → σ → σ ⊕ ρ
  | [], s => .inl s
  | a :: r, s => match step s a with
    | .inl s => foldX step r s
    | .inr x => .inr x
theorem forL_fold {σ : Type} {m0 : Store} {dead : List Nat} {still : Store → Prop} {t : Tg} {body : En → Store → SR} (enc : σ → En) (sto : σ → Store) (step : σ → W → σ ⊕ (W × Store)) (I : σ → Prop) (hst : ∀ s, I s → still (sto s)) : ∀ {ws : List W},
    (∀ w ∈ ws, ∀ s, I s → ∃ en1, bindT t w (enc s) = some en1 ∧ match step s w with
      | .inl s' => I s' ∧ ∃ en2 m2, (body en1 (sto s) = .nx en2 m2 ∨ body en1 (sto s) = .ct en2 m2) ∧ gcE m0 dead en2 m2 = (enc s', sto s')
      | .inr x => body en1 (sto s) = .rt x.1 x.2) →
    ∀ s, I s → forL m0 dead still t body ws (enc s) (sto s) = match foldX step ws s with
      | .inl s' => .nx (enc s') (sto s')
      | .inr x => .rt x.1 x.2
  | [], _, s, hs => by simp [forL, foldX, hst s hs]
  | w :: r, h, s, hs => by
    obtain ⟨en1, e1, e2⟩ := h w List.mem_cons_self s hs
    rw [forL, if_pos (hst s hs), e1, foldX]
    cases hstep : step s w with
    | inl s' =>
      rw [hstep] at e2
      obtain ⟨hs', en2, m2, e3, e4⟩ := e2
      have ih := forL_fold enc sto step I hst (fun u hu => h u (List.mem_cons_of_mem _ hu)) s' hs'
      rcases e3 with e3 | e3
      · simp only [e3, e4, ih]
      · simp only [e3, e4, ih]
    | inr x =>
      rw [hstep] at e2
      simp only [e2]
/-- a for that only looks: the names and the store stay, or it returns -/
theorem forL_look {m0 : Store} {dead : List Nat} {still : Store → Prop} {t : Tg} {body : En → Store → SR} {en : En} {m : Store} (p : W → Option W) (hst : still m) {ws : List W}
    (h : ∀ w ∈ ws, ∃ en1, bindT t w en = some en1 ∧ match p w with
      | none => ∃ en2 m2, (body en1 m = .nx en2 m2 ∨ body en1 m = .ct en2 m2) ∧ gcE m0 dead en2 m2 = (en, m)
      | some v => body en1 m = .rt v m) :
    forL m0 dead still t body ws en m = match ws.findSome? p with
      | none => .nx en m
      | some v => .rt v m := by
  have key := forL_fold (σ := Unit) (m0 := m0) (dead := dead) (still := still) (t := t) (body := body) (fun _ => en) (fun _ => m) (fun _ w => match p w with
    | none => .inl ()
    | some v => .inr (v, m)) (fun _ => True) (fun _ _ => hst) (ws := ws) (fun w hw s _ => by
      obtain ⟨en1, e1, e2⟩ := h w hw
      refine ⟨en1, e1, ?_⟩
      cases hp : p w with
      | none => rw [hp] at e2; exact ⟨trivial, e2⟩
      | some v => rw [hp] at e2; exact e2) () trivial
  rw [key]
  clear key h
  induction ws with
  | nil => rfl
  | cons w r ih =>
    rw [foldX, List.findSome?_cons]
    cases hp : p w with
    | none => simpa [hp] using ih
    | some v => simp
/-- what a turn's end lets go: flat names, the store as it was -/
theorem gcE_flat {m0 : Store} {dead : List Nat} {en : En} {m : Store} (hk : keepOld m0 m) (h : ∀ w, some w ∈ wipeE en dead → ∀ r ∈ w.refs, r < m0.length) : gcE m0 dead en m = (wipeE en dead, m.take m0.length) := by
  unfold gcE
  have hn : news m0.length ((wipeE en dead).filterMap id) = [] := news_low fun r hr => by
    obtain ⟨w, hw, hr⟩ := mem_refsL.mp hr
    obtain ⟨o, ho, e⟩ := List.mem_filterMap.mp hw
    simp only [id] at e
    subst e
    exact h w ho r hr
  rw [hn, if_pos ⟨hk, flatNews_nil _ _⟩]
  simp only [List.filterMap_nil, List.append_nil, Prod.mk.injEq, and_true]
  conv => rhs; rw [← List.map_id (wipeE en dead)]
  refine List.map_congr_left fun o ho => ?_
  cases o with
  | none => rfl
  | some w => simp only [Option.map_some, id, ren_low (h w ho)]
end Ev

set_option Elab.async false
set_option linter.all false
set_option maxRecDepth 100000
set_option maxHeartbeats 4000000
/-! The evaluator's equations, one continuation a step (printed by genP2.py). -/
namespace Ev
open PySem
open Classical
section
variable (subc : String → String → Option Bool) (fieldsOf : String → List String) (call make : Call)

end
noncomputable def kBl (m : Store) (o0 : Option Bool) : Res W := (Res.of o0 m).bind fun t m => .ok (.bl t) m
@[simp] theorem kBl_some (m : Store) (t : Bool) : kBl m (some t) = .ok (.bl t) m := nr rfl
@[simp] theorem kBl_none (m : Store) : kBl m none = .bad := nr rfl
noncomputable def kUna (o : Uop) (r : Res W) : Res W := r.bind fun x m => evUna o x m
@[simp] theorem kUna_ok (o : Uop) (x : W) (m : Store) : kUna o (.ok x m) = evUna o x m := nr rfl
@[simp] theorem kUna_exc (o : Uop) (c0 : String) (ws0 : List W) (m : Store) : kUna o (.exc c0 ws0 m) = .exc c0 ws0 m := nr rfl
@[simp] theorem kUna_bad (o : Uop) : kUna o .bad = .bad := nr rfl
@[simp] theorem kUna_ite (o : Uop) {cc : Prop} [Decidable cc] (r1 r2 : Res W) : kUna o (if cc then r1 else r2) = if cc then kUna o r1 else kUna o r2 := by split <;> rfl
noncomputable def kBin2 (o : Bop) (x : W) (r : Res W) : Res W := r.bind fun y m => evBin o x y m
@[simp] theorem kBin2_ok (o : Bop) (x : W) (y : W) (m : Store) : kBin2 o x (.ok y m) = evBin o x y m := nr rfl
@[simp] theorem kBin2_exc (o : Bop) (x : W) (c0 : String) (ws0 : List W) (m : Store) : kBin2 o x (.exc c0 ws0 m) = .exc c0 ws0 m := nr rfl
@[simp] theorem kBin2_bad (o : Bop) (x : W) : kBin2 o x .bad = .bad := nr rfl
@[simp] theorem kBin2_ite (o : Bop) (x : W) {cc : Prop} [Decidable cc] (r1 r2 : Res W) : kBin2 o x (if cc then r1 else r2) = if cc then kBin2 o x r1 else kBin2 o x r2 := by split <;> rfl
noncomputable def kBin (subc : String → String → Option Bool) (fieldsOf : String → List String) (call make : Call) (o : Bop) (b : E) (en : En) (r : Res W) : Res W := r.bind fun x m => kBin2 o x (evE subc fieldsOf call make b en m)
@[simp] theorem kBin_ok (subc : String → String → Option Bool) (fieldsOf : String → List String) (call make : Call) (o : Bop) (b : E) (en : En) (x : W) (m : Store) : kBin subc fieldsOf call make o b en (.ok x m) = kBin2 o x (evE subc fieldsOf call make b en m) := nr rfl
@[simp] theorem kBin_exc (subc : String → String → Option Bool) (fieldsOf : String → List String) (call make : Call) (o : Bop) (b : E) (en : En) (c0 : String) (ws0 : List W) (m : Store) : kBin subc fieldsOf call make o b en (.exc c0 ws0 m) = .exc c0 ws0 m := nr rfl
@[simp] theorem kBin_bad (subc : String → String → Option Bool) (fieldsOf : String → List String) (call make : Call) (o : Bop) (b : E) (en : En) : kBin subc fieldsOf call make o b en .bad = .bad := nr rfl
@[simp] theorem kBin_ite (subc : String → String → Option Bool) (fieldsOf : String → List String) (call make : Call) (o : Bop) (b : E) (en : En) {cc : Prop} [Decidable cc] (r1 r2 : Res W) : kBin subc fieldsOf call make o b en (if cc then r1 else r2) = if cc then kBin subc fieldsOf call make o b en r1 else kBin subc fieldsOf call make o b en r2 := by split <;> rfl
noncomputable def kCmp2 (o : Cop) (x : W) (r : Res W) : Res W := r.bind fun y m => kBl m (evCmp o x y m)
@[simp] theorem kCmp2_ok (o : Cop) (x : W) (y : W) (m : Store) : kCmp2 o x (.ok y m) = kBl m (evCmp o x y m) := nr rfl
@[simp] theorem kCmp2_exc (o : Cop) (x : W) (c0 : String) (ws0 : List W) (m : Store) : kCmp2 o x (.exc c0 ws0 m) = .exc c0 ws0 m := nr rfl
@[simp] theorem kCmp2_bad (o : Cop) (x : W) : kCmp2 o x .bad = .bad := nr rfl
@[simp] theorem kCmp2_ite (o : Cop) (x : W) {cc : Prop} [Decidable cc] (r1 r2 : Res W) : kCmp2 o x (if cc then r1 else r2) = if cc then kCmp2 o x r1 else kCmp2 o x r2 := by split <;> rfl
noncomputable def kCmp (subc : String → String → Option Bool) (fieldsOf : String → List String) (call make : Call) (o : Cop) (b : E) (en : En) (r : Res W) : Res W := r.bind fun x m => kCmp2 o x (evE subc fieldsOf call make b en m)
@[simp] theorem kCmp_ok (subc : String → String → Option Bool) (fieldsOf : String → List String) (call make : Call) (o : Cop) (b : E) (en : En) (x : W) (m : Store) : kCmp subc fieldsOf call make o b en (.ok x m) = kCmp2 o x (evE subc fieldsOf call make b en m) := nr rfl
@[simp] theorem kCmp_exc (subc : String → String → Option Bool) (fieldsOf : String → List String) (call make : Call) (o : Cop) (b : E) (en : En) (c0 : String) (ws0 : List W) (m : Store) : kCmp subc fieldsOf call make o b en (.exc c0 ws0 m) = .exc c0 ws0 m := nr rfl
@[simp] theorem kCmp_bad (subc : String → String → Option Bool) (fieldsOf : String → List String) (call make : Call) (o : Cop) (b : E) (en : En) : kCmp subc fieldsOf call make o b en .bad = .bad := nr rfl
@[simp] theorem kCmp_ite (subc : String → String → Option Bool) (fieldsOf : String → List String) (call make : Call) (o : Cop) (b : E) (en : En) {cc : Prop} [Decidable cc] (r1 r2 : Res W) : kCmp subc fieldsOf call make o b en (if cc then r1 else r2) = if cc then kCmp subc fieldsOf call make o b en r1 else kCmp subc fieldsOf call make o b en r2 := by split <;> rfl
noncomputable def kChn3 (subc : String → String → Option Bool) (fieldsOf : String → List String) (call make : Call) (y : W) (p : Cop) (c : E) (en : En) (m : Store) (o0 : Option Bool) : Res W := (Res.of o0 m).bind fun t m => if t = true then kCmp2 p y (evE subc fieldsOf call make c en m) else .ok (.bl false) m
@[simp] theorem kChn3_some (subc : String → String → Option Bool) (fieldsOf : String → List String) (call make : Call) (y : W) (p : Cop) (c : E) (en : En) (m : Store) (t : Bool) : kChn3 subc fieldsOf call make y p c en m (some t) = (if t = true then kCmp2 p y (evE subc fieldsOf call make c en m) else .ok (.bl false) m) := nr rfl
@[simp] theorem kChn3_none (subc : String → String → Option Bool) (fieldsOf : String → List String) (call make : Call) (y : W) (p : Cop) (c : E) (en : En) (m : Store) : kChn3 subc fieldsOf call make y p c en m none = .bad := nr rfl
noncomputable def kChn2 (subc : String → String → Option Bool) (fieldsOf : String → List String) (call make : Call) (o : Cop) (x : W) (p : Cop) (c : E) (en : En) (r : Res W) : Res W := r.bind fun y m => kChn3 subc fieldsOf call make y p c en m (evCmp o x y m)
@[simp] theorem kChn2_ok (subc : String → String → Option Bool) (fieldsOf : String → List String) (call make : Call) (o : Cop) (x : W) (p : Cop) (c : E) (en : En) (y : W) (m : Store) : kChn2 subc fieldsOf call make o x p c en (.ok y m) = kChn3 subc fieldsOf call make y p c en m (evCmp o x y m) := nr rfl
@[simp] theorem kChn2_exc (subc : String → String → Option Bool) (fieldsOf : String → List String) (call make : Call) (o : Cop) (x : W) (p : Cop) (c : E) (en : En) (c0 : String) (ws0 : List W) (m : Store) : kChn2 subc fieldsOf call make o x p c en (.exc c0 ws0 m) = .exc c0 ws0 m := nr rfl
@[simp] theorem kChn2_bad (subc : String → String → Option Bool) (fieldsOf : String → List String) (call make : Call) (o : Cop) (x : W) (p : Cop) (c : E) (en : En) : kChn2 subc fieldsOf call make o x p c en .bad = .bad := nr rfl
@[simp] theorem kChn2_ite (subc : String → String → Option Bool) (fieldsOf : String → List String) (call make : Call) (o : Cop) (x : W) (p : Cop) (c : E) (en : En) {cc : Prop} [Decidable cc] (r1 r2 : Res W) : kChn2 subc fieldsOf call make o x p c en (if cc then r1 else r2) = if cc then kChn2 subc fieldsOf call make o x p c en r1 else kChn2 subc fieldsOf call make o x p c en r2 := by split <;> rfl
noncomputable def kChn (subc : String → String → Option Bool) (fieldsOf : String → List String) (call make : Call) (o : Cop) (b : E) (p : Cop) (c : E) (en : En) (r : Res W) : Res W := r.bind fun x m => kChn2 subc fieldsOf call make o x p c en (evE subc fieldsOf call make b en m)
@[simp] theorem kChn_ok (subc : String → String → Option Bool) (fieldsOf : String → List String) (call make : Call) (o : Cop) (b : E) (p : Cop) (c : E) (en : En) (x : W) (m : Store) : kChn subc fieldsOf call make o b p c en (.ok x m) = kChn2 subc fieldsOf call make o x p c en (evE subc fieldsOf call make b en m) := nr rfl
@[simp] theorem kChn_exc (subc : String → String → Option Bool) (fieldsOf : String → List String) (call make : Call) (o : Cop) (b : E) (p : Cop) (c : E) (en : En) (c0 : String) (ws0 : List W) (m : Store) : kChn subc fieldsOf call make o b p c en (.exc c0 ws0 m) = .exc c0 ws0 m := nr rfl
@[simp] theorem kChn_bad (subc : String → String → Option Bool) (fieldsOf : String → List String) (call make : Call) (o : Cop) (b : E) (p : Cop) (c : E) (en : En) : kChn subc fieldsOf call make o b p c en .bad = .bad := nr rfl
@[simp] theorem kChn_ite (subc : String → String → Option Bool) (fieldsOf : String → List String) (call make : Call) (o : Cop) (b : E) (p : Cop) (c : E) (en : En) {cc : Prop} [Decidable cc] (r1 r2 : Res W) : kChn subc fieldsOf call make o b p c en (if cc then r1 else r2) = if cc then kChn subc fieldsOf call make o b p c en r1 else kChn subc fieldsOf call make o b p c en r2 := by split <;> rfl
noncomputable def kAnd2 (subc : String → String → Option Bool) (fieldsOf : String → List String) (call make : Call) (b : E) (en : En) (x : W) (m : Store) (o0 : Option Bool) : Res W := (Res.of o0 m).bind fun t m => if t = true then evE subc fieldsOf call make b en m else .ok x m
@[simp] theorem kAnd2_some (subc : String → String → Option Bool) (fieldsOf : String → List String) (call make : Call) (b : E) (en : En) (x : W) (m : Store) (t : Bool) : kAnd2 subc fieldsOf call make b en x m (some t) = (if t = true then evE subc fieldsOf call make b en m else .ok x m) := nr rfl
@[simp] theorem kAnd2_none (subc : String → String → Option Bool) (fieldsOf : String → List String) (call make : Call) (b : E) (en : En) (x : W) (m : Store) : kAnd2 subc fieldsOf call make b en x m none = .bad := nr rfl
noncomputable def kAnd (subc : String → String → Option Bool) (fieldsOf : String → List String) (call make : Call) (b : E) (en : En) (r : Res W) : Res W := r.bind fun x m => kAnd2 subc fieldsOf call make b en x m (truth m x)
@[simp] theorem kAnd_ok (subc : String → String → Option Bool) (fieldsOf : String → List String) (call make : Call) (b : E) (en : En) (x : W) (m : Store) : kAnd subc fieldsOf call make b en (.ok x m) = kAnd2 subc fieldsOf call make b en x m (truth m x) := nr rfl
@[simp] theorem kAnd_exc (subc : String → String → Option Bool) (fieldsOf : String → List String) (call make : Call) (b : E) (en : En) (c0 : String) (ws0 : List W) (m : Store) : kAnd subc fieldsOf call make b en (.exc c0 ws0 m) = .exc c0 ws0 m := nr rfl
@[simp] theorem kAnd_bad (subc : String → String → Option Bool) (fieldsOf : String → List String) (call make : Call) (b : E) (en : En) : kAnd subc fieldsOf call make b en .bad = .bad := nr rfl
@[simp] theorem kAnd_ite (subc : String → String → Option Bool) (fieldsOf : String → List String) (call make : Call) (b : E) (en : En) {cc : Prop} [Decidable cc] (r1 r2 : Res W) : kAnd subc fieldsOf call make b en (if cc then r1 else r2) = if cc then kAnd subc fieldsOf call make b en r1 else kAnd subc fieldsOf call make b en r2 := by split <;> rfl
noncomputable def kOr2 (subc : String → String → Option Bool) (fieldsOf : String → List String) (call make : Call) (b : E) (en : En) (x : W) (m : Store) (o0 : Option Bool) : Res W := (Res.of o0 m).bind fun t m => if t = true then .ok x m else evE subc fieldsOf call make b en m
@[simp] theorem kOr2_some (subc : String → String → Option Bool) (fieldsOf : String → List String) (call make : Call) (b : E) (en : En) (x : W) (m : Store) (t : Bool) : kOr2 subc fieldsOf call make b en x m (some t) = (if t = true then .ok x m else evE subc fieldsOf call make b en m) := nr rfl
@[simp] theorem kOr2_none (subc : String → String → Option Bool) (fieldsOf : String → List String) (call make : Call) (b : E) (en : En) (x : W) (m : Store) : kOr2 subc fieldsOf call make b en x m none = .bad := nr rfl
noncomputable def kOr (subc : String → String → Option Bool) (fieldsOf : String → List String) (call make : Call) (b : E) (en : En) (r : Res W) : Res W := r.bind fun x m => kOr2 subc fieldsOf call make b en x m (truth m x)
@[simp] theorem kOr_ok (subc : String → String → Option Bool) (fieldsOf : String → List String) (call make : Call) (b : E) (en : En) (x : W) (m : Store) : kOr subc fieldsOf call make b en (.ok x m) = kOr2 subc fieldsOf call make b en x m (truth m x) := nr rfl
@[simp] theorem kOr_exc (subc : String → String → Option Bool) (fieldsOf : String → List String) (call make : Call) (b : E) (en : En) (c0 : String) (ws0 : List W) (m : Store) : kOr subc fieldsOf call make b en (.exc c0 ws0 m) = .exc c0 ws0 m := nr rfl
@[simp] theorem kOr_bad (subc : String → String → Option Bool) (fieldsOf : String → List String) (call make : Call) (b : E) (en : En) : kOr subc fieldsOf call make b en .bad = .bad := nr rfl
@[simp] theorem kOr_ite (subc : String → String → Option Bool) (fieldsOf : String → List String) (call make : Call) (b : E) (en : En) {cc : Prop} [Decidable cc] (r1 r2 : Res W) : kOr subc fieldsOf call make b en (if cc then r1 else r2) = if cc then kOr subc fieldsOf call make b en r1 else kOr subc fieldsOf call make b en r2 := by split <;> rfl
noncomputable def kIte2 (subc : String → String → Option Bool) (fieldsOf : String → List String) (call make : Call) (a b : E) (en : En) (m : Store) (o0 : Option Bool) : Res W := (Res.of o0 m).bind fun t m => if t = true then evE subc fieldsOf call make a en m else evE subc fieldsOf call make b en m
@[simp] theorem kIte2_some (subc : String → String → Option Bool) (fieldsOf : String → List String) (call make : Call) (a b : E) (en : En) (m : Store) (t : Bool) : kIte2 subc fieldsOf call make a b en m (some t) = (if t = true then evE subc fieldsOf call make a en m else evE subc fieldsOf call make b en m) := nr rfl
@[simp] theorem kIte2_none (subc : String → String → Option Bool) (fieldsOf : String → List String) (call make : Call) (a b : E) (en : En) (m : Store) : kIte2 subc fieldsOf call make a b en m none = .bad := nr rfl
noncomputable def kIte (subc : String → String → Option Bool) (fieldsOf : String → List String) (call make : Call) (a b : E) (en : En) (r : Res W) : Res W := r.bind fun x m => kIte2 subc fieldsOf call make a b en m (truth m x)
@[simp] theorem kIte_ok (subc : String → String → Option Bool) (fieldsOf : String → List String) (call make : Call) (a b : E) (en : En) (x : W) (m : Store) : kIte subc fieldsOf call make a b en (.ok x m) = kIte2 subc fieldsOf call make a b en m (truth m x) := nr rfl
@[simp] theorem kIte_exc (subc : String → String → Option Bool) (fieldsOf : String → List String) (call make : Call) (a b : E) (en : En) (c0 : String) (ws0 : List W) (m : Store) : kIte subc fieldsOf call make a b en (.exc c0 ws0 m) = .exc c0 ws0 m := nr rfl
@[simp] theorem kIte_bad (subc : String → String → Option Bool) (fieldsOf : String → List String) (call make : Call) (a b : E) (en : En) : kIte subc fieldsOf call make a b en .bad = .bad := nr rfl
@[simp] theorem kIte_ite (subc : String → String → Option Bool) (fieldsOf : String → List String) (call make : Call) (a b : E) (en : En) {cc : Prop} [Decidable cc] (r1 r2 : Res W) : kIte subc fieldsOf call make a b en (if cc then r1 else r2) = if cc then kIte subc fieldsOf call make a b en r1 else kIte subc fieldsOf call make a b en r2 := by split <;> rfl
noncomputable def kTup  (r : Res (List W)) : Res W := r.bind fun ws m => (if ws.length ≤ cap then .ok (.tup ws) m else .bad)
@[simp] theorem kTup_ok  (ws : List W) (m : Store) : kTup  (.ok ws m) = (if ws.length ≤ cap then .ok (.tup ws) m else .bad) := nr rfl
@[simp] theorem kTup_exc  (c0 : String) (ws0 : List W) (m : Store) : kTup  (.exc c0 ws0 m) = .exc c0 ws0 m := nr rfl
@[simp] theorem kTup_bad  : kTup  .bad = .bad := nr rfl
@[simp] theorem kTup_ite  {cc : Prop} [Decidable cc] (r1 r2 : Res (List W)) : kTup  (if cc then r1 else r2) = if cc then kTup  r1 else kTup  r2 := by split <;> rfl
noncomputable def kLst  (r : Res (List W)) : Res W := r.bind fun ws m => allocL ws m
@[simp] theorem kLst_ok  (ws : List W) (m : Store) : kLst  (.ok ws m) = allocL ws m := nr rfl
@[simp] theorem kLst_exc  (c0 : String) (ws0 : List W) (m : Store) : kLst  (.exc c0 ws0 m) = .exc c0 ws0 m := nr rfl
@[simp] theorem kLst_bad  : kLst  .bad = .bad := nr rfl
@[simp] theorem kLst_ite  {cc : Prop} [Decidable cc] (r1 r2 : Res (List W)) : kLst  (if cc then r1 else r2) = if cc then kLst  r1 else kLst  r2 := by split <;> rfl
noncomputable def kIdx2 (x : W) (r : Res W) : Res W := r.bind fun y m => evIdx x y m
@[simp] theorem kIdx2_ok (x : W) (y : W) (m : Store) : kIdx2 x (.ok y m) = evIdx x y m := nr rfl
@[simp] theorem kIdx2_exc (x : W) (c0 : String) (ws0 : List W) (m : Store) : kIdx2 x (.exc c0 ws0 m) = .exc c0 ws0 m := nr rfl
@[simp] theorem kIdx2_bad (x : W) : kIdx2 x .bad = .bad := nr rfl
@[simp] theorem kIdx2_ite (x : W) {cc : Prop} [Decidable cc] (r1 r2 : Res W) : kIdx2 x (if cc then r1 else r2) = if cc then kIdx2 x r1 else kIdx2 x r2 := by split <;> rfl
noncomputable def kIdx (subc : String → String → Option Bool) (fieldsOf : String → List String) (call make : Call) (b : E) (en : En) (r : Res W) : Res W := r.bind fun x m => kIdx2 x (evE subc fieldsOf call make b en m)
@[simp] theorem kIdx_ok (subc : String → String → Option Bool) (fieldsOf : String → List String) (call make : Call) (b : E) (en : En) (x : W) (m : Store) : kIdx subc fieldsOf call make b en (.ok x m) = kIdx2 x (evE subc fieldsOf call make b en m) := nr rfl
@[simp] theorem kIdx_exc (subc : String → String → Option Bool) (fieldsOf : String → List String) (call make : Call) (b : E) (en : En) (c0 : String) (ws0 : List W) (m : Store) : kIdx subc fieldsOf call make b en (.exc c0 ws0 m) = .exc c0 ws0 m := nr rfl
@[simp] theorem kIdx_bad (subc : String → String → Option Bool) (fieldsOf : String → List String) (call make : Call) (b : E) (en : En) : kIdx subc fieldsOf call make b en .bad = .bad := nr rfl
@[simp] theorem kIdx_ite (subc : String → String → Option Bool) (fieldsOf : String → List String) (call make : Call) (b : E) (en : En) {cc : Prop} [Decidable cc] (r1 r2 : Res W) : kIdx subc fieldsOf call make b en (if cc then r1 else r2) = if cc then kIdx subc fieldsOf call make b en r1 else kIdx subc fieldsOf call make b en r2 := by split <;> rfl
noncomputable def kSlc5 (x : W) (l : Option Int) (m : Store) (o0 : Option (Option Int)) : Res W := (Res.of o0 m).bind fun h m => evSlc x l h m
@[simp] theorem kSlc5_some (x : W) (l : Option Int) (m : Store) (h : (Option Int)) : kSlc5 x l m (some h) = evSlc x l h m := nr rfl
@[simp] theorem kSlc5_none (x : W) (l : Option Int) (m : Store) : kSlc5 x l m none = .bad := nr rfl
noncomputable def kSlc4 (x : W) (l : Option Int) (r : Res (Option W)) : Res W := r.bind fun h m => kSlc5 x l m (part h)
@[simp] theorem kSlc4_ok (x : W) (l : Option Int) (h : Option W) (m : Store) : kSlc4 x l (.ok h m) = kSlc5 x l m (part h) := nr rfl
@[simp] theorem kSlc4_exc (x : W) (l : Option Int) (c0 : String) (ws0 : List W) (m : Store) : kSlc4 x l (.exc c0 ws0 m) = .exc c0 ws0 m := nr rfl
@[simp] theorem kSlc4_bad (x : W) (l : Option Int) : kSlc4 x l .bad = .bad := nr rfl
@[simp] theorem kSlc4_ite (x : W) (l : Option Int) {cc : Prop} [Decidable cc] (r1 r2 : Res (Option W)) : kSlc4 x l (if cc then r1 else r2) = if cc then kSlc4 x l r1 else kSlc4 x l r2 := by split <;> rfl
noncomputable def kSlc3 (subc : String → String → Option Bool) (fieldsOf : String → List String) (call make : Call) (x : W) (hi : Oe) (en : En) (m : Store) (o0 : Option (Option Int)) : Res W := (Res.of o0 m).bind fun l m => kSlc4 x l (evOe subc fieldsOf call make hi en m)
@[simp] theorem kSlc3_some (subc : String → String → Option Bool) (fieldsOf : String → List String) (call make : Call) (x : W) (hi : Oe) (en : En) (m : Store) (l : (Option Int)) : kSlc3 subc fieldsOf call make x hi en m (some l) = kSlc4 x l (evOe subc fieldsOf call make hi en m) := nr rfl
@[simp] theorem kSlc3_none (subc : String → String → Option Bool) (fieldsOf : String → List String) (call make : Call) (x : W) (hi : Oe) (en : En) (m : Store) : kSlc3 subc fieldsOf call make x hi en m none = .bad := nr rfl
noncomputable def kSlc2 (subc : String → String → Option Bool) (fieldsOf : String → List String) (call make : Call) (x : W) (hi : Oe) (en : En) (r : Res (Option W)) : Res W := r.bind fun l m => kSlc3 subc fieldsOf call make x hi en m (part l)
@[simp] theorem kSlc2_ok (subc : String → String → Option Bool) (fieldsOf : String → List String) (call make : Call) (x : W) (hi : Oe) (en : En) (l : Option W) (m : Store) : kSlc2 subc fieldsOf call make x hi en (.ok l m) = kSlc3 subc fieldsOf call make x hi en m (part l) := nr rfl
@[simp] theorem kSlc2_exc (subc : String → String → Option Bool) (fieldsOf : String → List String) (call make : Call) (x : W) (hi : Oe) (en : En) (c0 : String) (ws0 : List W) (m : Store) : kSlc2 subc fieldsOf call make x hi en (.exc c0 ws0 m) = .exc c0 ws0 m := nr rfl
@[simp] theorem kSlc2_bad (subc : String → String → Option Bool) (fieldsOf : String → List String) (call make : Call) (x : W) (hi : Oe) (en : En) : kSlc2 subc fieldsOf call make x hi en .bad = .bad := nr rfl
@[simp] theorem kSlc2_ite (subc : String → String → Option Bool) (fieldsOf : String → List String) (call make : Call) (x : W) (hi : Oe) (en : En) {cc : Prop} [Decidable cc] (r1 r2 : Res (Option W)) : kSlc2 subc fieldsOf call make x hi en (if cc then r1 else r2) = if cc then kSlc2 subc fieldsOf call make x hi en r1 else kSlc2 subc fieldsOf call make x hi en r2 := by split <;> rfl
noncomputable def kSlc (subc : String → String → Option Bool) (fieldsOf : String → List String) (call make : Call) (lo hi : Oe) (en : En) (r : Res W) : Res W := r.bind fun x m => kSlc2 subc fieldsOf call make x hi en (evOe subc fieldsOf call make lo en m)
@[simp] theorem kSlc_ok (subc : String → String → Option Bool) (fieldsOf : String → List String) (call make : Call) (lo hi : Oe) (en : En) (x : W) (m : Store) : kSlc subc fieldsOf call make lo hi en (.ok x m) = kSlc2 subc fieldsOf call make x hi en (evOe subc fieldsOf call make lo en m) := nr rfl
@[simp] theorem kSlc_exc (subc : String → String → Option Bool) (fieldsOf : String → List String) (call make : Call) (lo hi : Oe) (en : En) (c0 : String) (ws0 : List W) (m : Store) : kSlc subc fieldsOf call make lo hi en (.exc c0 ws0 m) = .exc c0 ws0 m := nr rfl
@[simp] theorem kSlc_bad (subc : String → String → Option Bool) (fieldsOf : String → List String) (call make : Call) (lo hi : Oe) (en : En) : kSlc subc fieldsOf call make lo hi en .bad = .bad := nr rfl
@[simp] theorem kSlc_ite (subc : String → String → Option Bool) (fieldsOf : String → List String) (call make : Call) (lo hi : Oe) (en : En) {cc : Prop} [Decidable cc] (r1 r2 : Res W) : kSlc subc fieldsOf call make lo hi en (if cc then r1 else r2) = if cc then kSlc subc fieldsOf call make lo hi en r1 else kSlc subc fieldsOf call make lo hi en r2 := by split <;> rfl
noncomputable def kBi (b : Bi) (r : Res (List W)) : Res W := r.bind fun ws m => evBi b ws m
@[simp] theorem kBi_ok (b : Bi) (ws : List W) (m : Store) : kBi b (.ok ws m) = evBi b ws m := nr rfl
@[simp] theorem kBi_exc (b : Bi) (c0 : String) (ws0 : List W) (m : Store) : kBi b (.exc c0 ws0 m) = .exc c0 ws0 m := nr rfl
@[simp] theorem kBi_bad (b : Bi) : kBi b .bad = .bad := nr rfl
@[simp] theorem kBi_ite (b : Bi) {cc : Prop} [Decidable cc] (r1 r2 : Res (List W)) : kBi b (if cc then r1 else r2) = if cc then kBi b r1 else kBi b r2 := by split <;> rfl
noncomputable def kIsi (subc : String → String → Option Bool) (fieldsOf : String → List String) (call make : Call) (t : Ty) (r : Res W) : Res W := r.bind fun x m => kBl m (tyIs subc t x m)
@[simp] theorem kIsi_ok (subc : String → String → Option Bool) (fieldsOf : String → List String) (call make : Call) (t : Ty) (x : W) (m : Store) : kIsi subc fieldsOf call make t (.ok x m) = kBl m (tyIs subc t x m) := nr rfl
@[simp] theorem kIsi_exc (subc : String → String → Option Bool) (fieldsOf : String → List String) (call make : Call) (t : Ty) (c0 : String) (ws0 : List W) (m : Store) : kIsi subc fieldsOf call make t (.exc c0 ws0 m) = .exc c0 ws0 m := nr rfl
@[simp] theorem kIsi_bad (subc : String → String → Option Bool) (fieldsOf : String → List String) (call make : Call) (t : Ty) : kIsi subc fieldsOf call make t .bad = .bad := nr rfl
@[simp] theorem kIsi_ite (subc : String → String → Option Bool) (fieldsOf : String → List String) (call make : Call) (t : Ty) {cc : Prop} [Decidable cc] (r1 r2 : Res W) : kIsi subc fieldsOf call make t (if cc then r1 else r2) = if cc then kIsi subc fieldsOf call make t r1 else kIsi subc fieldsOf call make t r2 := by split <;> rfl
noncomputable def kCall (subc : String → String → Option Bool) (fieldsOf : String → List String) (call make : Call) (f : String) (r : Res (List W)) : Res W := r.bind fun ws m => call f ws m
@[simp] theorem kCall_ok (subc : String → String → Option Bool) (fieldsOf : String → List String) (call make : Call) (f : String) (ws : List W) (m : Store) : kCall subc fieldsOf call make f (.ok ws m) = call f ws m := nr rfl
@[simp] theorem kCall_exc (subc : String → String → Option Bool) (fieldsOf : String → List String) (call make : Call) (f : String) (c0 : String) (ws0 : List W) (m : Store) : kCall subc fieldsOf call make f (.exc c0 ws0 m) = .exc c0 ws0 m := nr rfl
@[simp] theorem kCall_bad (subc : String → String → Option Bool) (fieldsOf : String → List String) (call make : Call) (f : String) : kCall subc fieldsOf call make f .bad = .bad := nr rfl
@[simp] theorem kCall_ite (subc : String → String → Option Bool) (fieldsOf : String → List String) (call make : Call) (f : String) {cc : Prop} [Decidable cc] (r1 r2 : Res (List W)) : kCall subc fieldsOf call make f (if cc then r1 else r2) = if cc then kCall subc fieldsOf call make f r1 else kCall subc fieldsOf call make f r2 := by split <;> rfl
noncomputable def kMeth2 (mt : Mt) (x : W) (r : Res (List W)) : Res W := r.bind fun ws m => evMt mt x ws m
@[simp] theorem kMeth2_ok (mt : Mt) (x : W) (ws : List W) (m : Store) : kMeth2 mt x (.ok ws m) = evMt mt x ws m := nr rfl
@[simp] theorem kMeth2_exc (mt : Mt) (x : W) (c0 : String) (ws0 : List W) (m : Store) : kMeth2 mt x (.exc c0 ws0 m) = .exc c0 ws0 m := nr rfl
@[simp] theorem kMeth2_bad (mt : Mt) (x : W) : kMeth2 mt x .bad = .bad := nr rfl
@[simp] theorem kMeth2_ite (mt : Mt) (x : W) {cc : Prop} [Decidable cc] (r1 r2 : Res (List W)) : kMeth2 mt x (if cc then r1 else r2) = if cc then kMeth2 mt x r1 else kMeth2 mt x r2 := by split <;> rfl
noncomputable def kMeth (subc : String → String → Option Bool) (fieldsOf : String → List String) (call make : Call) (mt : Mt) (es : Es) (en : En) (r : Res W) : Res W := r.bind fun x m => (if recvOk mt x m then kMeth2 mt x (evEs subc fieldsOf call make es en m) else .bad)
@[simp] theorem kMeth_ok (subc : String → String → Option Bool) (fieldsOf : String → List String) (call make : Call) (mt : Mt) (es : Es) (en : En) (x : W) (m : Store) : kMeth subc fieldsOf call make mt es en (.ok x m) = (if recvOk mt x m then kMeth2 mt x (evEs subc fieldsOf call make es en m) else .bad) := nr rfl
@[simp] theorem kMeth_exc (subc : String → String → Option Bool) (fieldsOf : String → List String) (call make : Call) (mt : Mt) (es : Es) (en : En) (c0 : String) (ws0 : List W) (m : Store) : kMeth subc fieldsOf call make mt es en (.exc c0 ws0 m) = .exc c0 ws0 m := nr rfl
@[simp] theorem kMeth_bad (subc : String → String → Option Bool) (fieldsOf : String → List String) (call make : Call) (mt : Mt) (es : Es) (en : En) : kMeth subc fieldsOf call make mt es en .bad = .bad := nr rfl
@[simp] theorem kMeth_ite (subc : String → String → Option Bool) (fieldsOf : String → List String) (call make : Call) (mt : Mt) (es : Es) (en : En) {cc : Prop} [Decidable cc] (r1 r2 : Res W) : kMeth subc fieldsOf call make mt es en (if cc then r1 else r2) = if cc then kMeth subc fieldsOf call make mt es en r1 else kMeth subc fieldsOf call make mt es en r2 := by split <;> rfl
noncomputable def kCons2 (w : W) (r : Res (List W)) : Res (List W) := r.bind fun ws m => .ok (w :: ws) m
@[simp] theorem kCons2_ok (w : W) (ws : List W) (m : Store) : kCons2 w (.ok ws m) = .ok (w :: ws) m := nr rfl
@[simp] theorem kCons2_exc (w : W) (c0 : String) (ws0 : List W) (m : Store) : kCons2 w (.exc c0 ws0 m) = .exc c0 ws0 m := nr rfl
@[simp] theorem kCons2_bad (w : W) : kCons2 w .bad = .bad := nr rfl
@[simp] theorem kCons2_ite (w : W) {cc : Prop} [Decidable cc] (r1 r2 : Res (List W)) : kCons2 w (if cc then r1 else r2) = if cc then kCons2 w r1 else kCons2 w r2 := by split <;> rfl
noncomputable def kCons (subc : String → String → Option Bool) (fieldsOf : String → List String) (call make : Call) (q : Es) (en : En) (r : Res W) : Res (List W) := r.bind fun w m => kCons2 w (evEs subc fieldsOf call make q en m)
@[simp] theorem kCons_ok (subc : String → String → Option Bool) (fieldsOf : String → List String) (call make : Call) (q : Es) (en : En) (w : W) (m : Store) : kCons subc fieldsOf call make q en (.ok w m) = kCons2 w (evEs subc fieldsOf call make q en m) := nr rfl
@[simp] theorem kCons_exc (subc : String → String → Option Bool) (fieldsOf : String → List String) (call make : Call) (q : Es) (en : En) (c0 : String) (ws0 : List W) (m : Store) : kCons subc fieldsOf call make q en (.exc c0 ws0 m) = .exc c0 ws0 m := nr rfl
@[simp] theorem kCons_bad (subc : String → String → Option Bool) (fieldsOf : String → List String) (call make : Call) (q : Es) (en : En) : kCons subc fieldsOf call make q en .bad = .bad := nr rfl
@[simp] theorem kCons_ite (subc : String → String → Option Bool) (fieldsOf : String → List String) (call make : Call) (q : Es) (en : En) {cc : Prop} [Decidable cc] (r1 r2 : Res W) : kCons subc fieldsOf call make q en (if cc then r1 else r2) = if cc then kCons subc fieldsOf call make q en r1 else kCons subc fieldsOf call make q en r2 := by split <;> rfl
noncomputable def kSome  (r : Res W) : Res (Option W) := r.bind fun w m => .ok (some w) m
@[simp] theorem kSome_ok  (w : W) (m : Store) : kSome  (.ok w m) = .ok (some w) m := nr rfl
@[simp] theorem kSome_exc  (c0 : String) (ws0 : List W) (m : Store) : kSome  (.exc c0 ws0 m) = .exc c0 ws0 m := nr rfl
@[simp] theorem kSome_bad  : kSome  .bad = .bad := nr rfl
@[simp] theorem kSome_ite  {cc : Prop} [Decidable cc] (r1 r2 : Res W) : kSome  (if cc then r1 else r2) = if cc then kSome  r1 else kSome  r2 := by split <;> rfl
noncomputable def kC  (r : Res W) : Res Bool := r.bind fun x m => Res.of (truth m x) m
@[simp] theorem kC_ok  (x : W) (m : Store) : kC  (.ok x m) = Res.of (truth m x) m := nr rfl
@[simp] theorem kC_exc  (c0 : String) (ws0 : List W) (m : Store) : kC  (.exc c0 ws0 m) = .exc c0 ws0 m := nr rfl
@[simp] theorem kC_bad  : kC  .bad = .bad := nr rfl
@[simp] theorem kC_ite  {cc : Prop} [Decidable cc] (r1 r2 : Res W) : kC  (if cc then r1 else r2) = if cc then kC  r1 else kC  r2 := by split <;> rfl
noncomputable def kAsg2 (m : Store) (o0 : Option En) : SR := match o0 with
  | some en => .nx en m
  | none => .bad
@[simp] theorem kAsg2_some (m : Store) (en : En) : kAsg2 m (some en) = .nx en m := nr rfl
@[simp] theorem kAsg2_none (m : Store) : kAsg2 m none = .bad := nr rfl
noncomputable def kAsg (t : Tg) (en : En) (r : Res W) : SR := r.st fun w m => kAsg2 m (bindT t w en)
@[simp] theorem kAsg_ok (t : Tg) (en : En) (w : W) (m : Store) : kAsg t en (.ok w m) = kAsg2 m (bindT t w en) := nr rfl
@[simp] theorem kAsg_exc (t : Tg) (en : En) (c0 : String) (ws0 : List W) (m : Store) : kAsg t en (.exc c0 ws0 m) = .exc c0 ws0 m := nr rfl
@[simp] theorem kAsg_bad (t : Tg) (en : En) : kAsg t en .bad = .bad := nr rfl
@[simp] theorem kAsg_ite (t : Tg) (en : En) {cc : Prop} [Decidable cc] (r1 r2 : Res W) : kAsg t en (if cc then r1 else r2) = if cc then kAsg t en r1 else kAsg t en r2 := by split <;> rfl
noncomputable def kEx (en : En) (r : Res W) : SR := r.st fun w m => .nx en m
@[simp] theorem kEx_ok (en : En) (w : W) (m : Store) : kEx en (.ok w m) = .nx en m := nr rfl
@[simp] theorem kEx_exc (en : En) (c0 : String) (ws0 : List W) (m : Store) : kEx en (.exc c0 ws0 m) = .exc c0 ws0 m := nr rfl
@[simp] theorem kEx_bad (en : En) : kEx en .bad = .bad := nr rfl
@[simp] theorem kEx_ite (en : En) {cc : Prop} [Decidable cc] (r1 r2 : Res W) : kEx en (if cc then r1 else r2) = if cc then kEx en r1 else kEx en r2 := by split <;> rfl
noncomputable def kSet3 (v x : W) (en : En) (r : Res W) : SR := r.st fun j m => kEx en (evSet x j v m)
@[simp] theorem kSet3_ok (v x : W) (en : En) (j : W) (m : Store) : kSet3 v x en (.ok j m) = kEx en (evSet x j v m) := nr rfl
@[simp] theorem kSet3_exc (v x : W) (en : En) (c0 : String) (ws0 : List W) (m : Store) : kSet3 v x en (.exc c0 ws0 m) = .exc c0 ws0 m := nr rfl
@[simp] theorem kSet3_bad (v x : W) (en : En) : kSet3 v x en .bad = .bad := nr rfl
@[simp] theorem kSet3_ite (v x : W) (en : En) {cc : Prop} [Decidable cc] (r1 r2 : Res W) : kSet3 v x en (if cc then r1 else r2) = if cc then kSet3 v x en r1 else kSet3 v x en r2 := by split <;> rfl
noncomputable def kSet2 (subc : String → String → Option Bool) (fieldsOf : String → List String) (call make : Call) (v : W) (i : E) (en : En) (r : Res W) : SR := r.st fun x m => kSet3 v x en (evE subc fieldsOf call make i en m)
@[simp] theorem kSet2_ok (subc : String → String → Option Bool) (fieldsOf : String → List String) (call make : Call) (v : W) (i : E) (en : En) (x : W) (m : Store) : kSet2 subc fieldsOf call make v i en (.ok x m) = kSet3 v x en (evE subc fieldsOf call make i en m) := nr rfl
@[simp] theorem kSet2_exc (subc : String → String → Option Bool) (fieldsOf : String → List String) (call make : Call) (v : W) (i : E) (en : En) (c0 : String) (ws0 : List W) (m : Store) : kSet2 subc fieldsOf call make v i en (.exc c0 ws0 m) = .exc c0 ws0 m := nr rfl
@[simp] theorem kSet2_bad (subc : String → String → Option Bool) (fieldsOf : String → List String) (call make : Call) (v : W) (i : E) (en : En) : kSet2 subc fieldsOf call make v i en .bad = .bad := nr rfl
@[simp] theorem kSet2_ite (subc : String → String → Option Bool) (fieldsOf : String → List String) (call make : Call) (v : W) (i : E) (en : En) {cc : Prop} [Decidable cc] (r1 r2 : Res W) : kSet2 subc fieldsOf call make v i en (if cc then r1 else r2) = if cc then kSet2 subc fieldsOf call make v i en r1 else kSet2 subc fieldsOf call make v i en r2 := by split <;> rfl
noncomputable def kSet (subc : String → String → Option Bool) (fieldsOf : String → List String) (call make : Call) (o i : E) (en : En) (r : Res W) : SR := r.st fun v m => kSet2 subc fieldsOf call make v i en (evE subc fieldsOf call make o en m)
@[simp] theorem kSet_ok (subc : String → String → Option Bool) (fieldsOf : String → List String) (call make : Call) (o i : E) (en : En) (v : W) (m : Store) : kSet subc fieldsOf call make o i en (.ok v m) = kSet2 subc fieldsOf call make v i en (evE subc fieldsOf call make o en m) := nr rfl
@[simp] theorem kSet_exc (subc : String → String → Option Bool) (fieldsOf : String → List String) (call make : Call) (o i : E) (en : En) (c0 : String) (ws0 : List W) (m : Store) : kSet subc fieldsOf call make o i en (.exc c0 ws0 m) = .exc c0 ws0 m := nr rfl
@[simp] theorem kSet_bad (subc : String → String → Option Bool) (fieldsOf : String → List String) (call make : Call) (o i : E) (en : En) : kSet subc fieldsOf call make o i en .bad = .bad := nr rfl
@[simp] theorem kSet_ite (subc : String → String → Option Bool) (fieldsOf : String → List String) (call make : Call) (o i : E) (en : En) {cc : Prop} [Decidable cc] (r1 r2 : Res W) : kSet subc fieldsOf call make o i en (if cc then r1 else r2) = if cc then kSet subc fieldsOf call make o i en r1 else kSet subc fieldsOf call make o i en r2 := by split <;> rfl
noncomputable def kRt  (r : Res W) : SR := r.st fun w m => .rt w m
@[simp] theorem kRt_ok  (w : W) (m : Store) : kRt  (.ok w m) = .rt w m := nr rfl
@[simp] theorem kRt_exc  (c0 : String) (ws0 : List W) (m : Store) : kRt  (.exc c0 ws0 m) = .exc c0 ws0 m := nr rfl
@[simp] theorem kRt_bad  : kRt  .bad = .bad := nr rfl
@[simp] theorem kRt_ite  {cc : Prop} [Decidable cc] (r1 r2 : Res W) : kRt  (if cc then r1 else r2) = if cc then kRt  r1 else kRt  r2 := by split <;> rfl
noncomputable def kIf (subc : String → String → Option Bool) (fieldsOf : String → List String) (call make : Call) (a b : Ss) (en : En) (r : Res Bool) : SR := r.st fun t m => (if t = true then evSs subc fieldsOf call make a en m else evSs subc fieldsOf call make b en m)
@[simp] theorem kIf_ok (subc : String → String → Option Bool) (fieldsOf : String → List String) (call make : Call) (a b : Ss) (en : En) (t : Bool) (m : Store) : kIf subc fieldsOf call make a b en (.ok t m) = (if t = true then evSs subc fieldsOf call make a en m else evSs subc fieldsOf call make b en m) := nr rfl
@[simp] theorem kIf_exc (subc : String → String → Option Bool) (fieldsOf : String → List String) (call make : Call) (a b : Ss) (en : En) (c0 : String) (ws0 : List W) (m : Store) : kIf subc fieldsOf call make a b en (.exc c0 ws0 m) = .exc c0 ws0 m := nr rfl
@[simp] theorem kIf_bad (subc : String → String → Option Bool) (fieldsOf : String → List String) (call make : Call) (a b : Ss) (en : En) : kIf subc fieldsOf call make a b en .bad = .bad := nr rfl
@[simp] theorem kIf_ite (subc : String → String → Option Bool) (fieldsOf : String → List String) (call make : Call) (a b : Ss) (en : En) {cc : Prop} [Decidable cc] (r1 r2 : Res Bool) : kIf subc fieldsOf call make a b en (if cc then r1 else r2) = if cc then kIf subc fieldsOf call make a b en r1 else kIf subc fieldsOf call make a b en r2 := by split <;> rfl
noncomputable def kRse (c : String) (r : Res (List W)) : SR := r.st fun ws m => .exc c ws m
@[simp] theorem kRse_ok (c : String) (ws : List W) (m : Store) : kRse c (.ok ws m) = .exc c ws m := nr rfl
@[simp] theorem kRse_exc (c : String) (c0 : String) (ws0 : List W) (m : Store) : kRse c (.exc c0 ws0 m) = .exc c0 ws0 m := nr rfl
@[simp] theorem kRse_bad (c : String) : kRse c .bad = .bad := nr rfl
@[simp] theorem kRse_ite (c : String) {cc : Prop} [Decidable cc] (r1 r2 : Res (List W)) : kRse c (if cc then r1 else r2) = if cc then kRse c r1 else kRse c r2 := by split <;> rfl
section
variable {subc : String → String → Option Bool} {fieldsOf : String → List String} {call make : Call} (en : En) (m : Store)
@[simp] theorem evE_non  : evE subc fieldsOf call make .non en m = .ok .non m := nr rfl
@[simp] theorem evE_bl (b : Bool) : evE subc fieldsOf call make (.bl b) en m = .ok (.bl b) m := nr rfl
@[simp] theorem evE_int (i : Int) : evE subc fieldsOf call make (.int i) en m = .ok (.int i) m := nr rfl
@[simp] theorem evE_str (x : Str) : evE subc fieldsOf call make (.str x) en m = .ok (.str x) m := nr rfl
@[simp] theorem evE_una (o : Uop) (a : E) : evE subc fieldsOf call make (.una o a) en m = gc m (kUna o (evE subc fieldsOf call make a en m)) := nr rfl
@[simp] theorem evE_bin (o : Bop) (a b : E) : evE subc fieldsOf call make (.bin o a b) en m = gc m (kBin subc fieldsOf call make o b en (evE subc fieldsOf call make a en m)) := nr rfl
@[simp] theorem evE_and (a b : E) : evE subc fieldsOf call make (.and a b) en m = kAnd subc fieldsOf call make b en (evE subc fieldsOf call make a en m) := nr rfl
@[simp] theorem evE_or (a b : E) : evE subc fieldsOf call make (.or a b) en m = kOr subc fieldsOf call make b en (evE subc fieldsOf call make a en m) := nr rfl
@[simp] theorem evE_cmp (o : Cop) (a b : E) : evE subc fieldsOf call make (.cmp o a b) en m = gc m (kCmp subc fieldsOf call make o b en (evE subc fieldsOf call make a en m)) := nr rfl
@[simp] theorem evE_chn (o : Cop) (a b : E) (p : Cop) (c : E) : evE subc fieldsOf call make (.chn o a b p c) en m = gc m (kChn subc fieldsOf call make o b p c en (evE subc fieldsOf call make a en m)) := nr rfl
@[simp] theorem evE_ite (c a b : E) : evE subc fieldsOf call make (.ite c a b) en m = kIte subc fieldsOf call make a b en (evE subc fieldsOf call make c en m) := nr rfl
@[simp] theorem evE_tup (es : Es) : evE subc fieldsOf call make (.tup es) en m = kTup (evEs subc fieldsOf call make es en m) := nr rfl
@[simp] theorem evE_lst (es : Es) : evE subc fieldsOf call make (.lst es) en m = kLst (evEs subc fieldsOf call make es en m) := nr rfl
@[simp] theorem evE_idx (a b : E) : evE subc fieldsOf call make (.idx a b) en m = gc m (kIdx subc fieldsOf call make b en (evE subc fieldsOf call make a en m)) := nr rfl
@[simp] theorem evE_slc (a : E) (lo hi : Oe) : evE subc fieldsOf call make (.slc a lo hi) en m = gc m (kSlc subc fieldsOf call make lo hi en (evE subc fieldsOf call make a en m)) := nr rfl
@[simp] theorem evE_bi (b : Bi) (es : Es) : evE subc fieldsOf call make (.bi b es) en m = gc m (kBi b (evEs subc fieldsOf call make es en m)) := nr rfl
@[simp] theorem evE_isi (a : E) (t : Ty) : evE subc fieldsOf call make (.isi a t) en m = gc m (kIsi subc fieldsOf call make t (evE subc fieldsOf call make a en m)) := nr rfl
@[simp] theorem evE_call (f : String) (es : Es) : evE subc fieldsOf call make (.call f es) en m = gc m (kCall subc fieldsOf call make f (evEs subc fieldsOf call make es en m)) := nr rfl
@[simp] theorem evE_callk (f : String) (es : Es) : evE subc fieldsOf call make (.callk f es) en m = gc m (kCall subc fieldsOf call make f (evEs subc fieldsOf call make es en m)) := nr rfl
@[simp] theorem evE_meth (a : E) (mt : Mt) (es : Es) : evE subc fieldsOf call make (.meth a mt es) en m = gc m (kMeth subc fieldsOf call make mt es en (evE subc fieldsOf call make a en m)) := nr rfl
@[simp] theorem evE_caught (f : String) (a : E) : evE subc fieldsOf call make (.caught f a) en m = cgt subc f (evE subc fieldsOf call make a en m) := nr rfl
@[simp] theorem evEs_nil  : evEs subc fieldsOf call make .nil en m = .ok [] m := nr rfl
@[simp] theorem evEs_cons (a : E) (r : Es) : evEs subc fieldsOf call make (.cons a r) en m = kCons subc fieldsOf call make r en (evE subc fieldsOf call make a en m) := nr rfl
@[simp] theorem evOe_none  : evOe subc fieldsOf call make .none en m = .ok none m := nr rfl
@[simp] theorem evOe_some (a : E) : evOe subc fieldsOf call make (.some a) en m = kSome (evE subc fieldsOf call make a en m) := nr rfl
@[simp] theorem evC_none  : evC subc fieldsOf call make .none en m = .ok true m := nr rfl
@[simp] theorem evC_some (a : E) : evC subc fieldsOf call make (.some a) en m = kC (evE subc fieldsOf call make a en m) := nr rfl
@[simp] theorem evT_eq (a : E) : evT subc fieldsOf call make a en m = kC (evE subc fieldsOf call make a en m) := nr rfl
@[simp] theorem evS_asg (t : Tg) (e : E) : evS subc fieldsOf call make (.asg t e) en m = kAsg t en (evE subc fieldsOf call make e en m) := nr rfl
@[simp] theorem evS_aset (o i e : E) : evS subc fieldsOf call make (.aset o i e) en m = kSet subc fieldsOf call make o i en (evE subc fieldsOf call make e en m) := nr rfl
@[simp] theorem evS_ex (e : E) : evS subc fieldsOf call make (.ex e) en m = kEx en (evE subc fieldsOf call make e en m) := nr rfl
@[simp] theorem evS_rt (e : E) : evS subc fieldsOf call make (.rt e) en m = kRt (evE subc fieldsOf call make e en m) := nr rfl
@[simp] theorem evS_rtN  : evS subc fieldsOf call make .rtN en m = .rt .non m := nr rfl
@[simp] theorem evS_ite (c : E) (a b : Ss) : evS subc fieldsOf call make (.ite c a b) en m = kIf subc fieldsOf call make a b en (evT subc fieldsOf call make c en m) := nr rfl
@[simp] theorem evS_rse (c : String) (es : Es) : evS subc fieldsOf call make (.rse c es) en m = kRse c (evEs subc fieldsOf call make es en m) := nr rfl
@[simp] theorem evS_pass  : evS subc fieldsOf call make .pass en m = .nx en m := nr rfl
@[simp] theorem evS_brk  : evS subc fieldsOf call make .brk en m = .bk en m := nr rfl
@[simp] theorem evS_cnt  : evS subc fieldsOf call make .cnt en m = .ct en m := nr rfl
@[simp] theorem evSs_nil  : evSs subc fieldsOf call make .nil en m = .nx en m := nr rfl
theorem evE_var' (i : Nat) : evE subc fieldsOf call make (.var i) en m = (match en[i]? with
    | some (some w) => .ok w m
    | _ => .bad) := rfl
@[simp] theorem evE_var (i : Nat) {w : W} (h : en[i]? = some (some w)) : evE subc fieldsOf call make (.var i) en m = .ok w m := by rw [evE_var', h]
noncomputable def thn (subc : String → String → Option Bool) (fieldsOf : String → List String) (call make : Call) (r : Ss) (s : SR) : SR := s.seq fun en m => evSs subc fieldsOf call make r en m
@[simp] theorem evSs_cons (s : S) (r : Ss) : evSs subc fieldsOf call make (.cons s r) en m = thn subc fieldsOf call make r (evS subc fieldsOf call make s en m) := nr rfl
@[simp] theorem thn1 (r : Ss) : thn subc fieldsOf call make r (.nx en m) = evSs subc fieldsOf call make r en m := nr rfl
@[simp] theorem thn2 (r : Ss) (w : W) : thn subc fieldsOf call make r (.rt w m) = .rt w m := nr rfl
@[simp] theorem thn3 (r : Ss) : thn subc fieldsOf call make r (.bk en m) = .bk en m := nr rfl
@[simp] theorem thn4 (r : Ss) : thn subc fieldsOf call make r (.ct en m) = .ct en m := nr rfl
@[simp] theorem thn5 (r : Ss) (c : String) (ws : List W) : thn subc fieldsOf call make r (.exc c ws m) = .exc c ws m := nr rfl
@[simp] theorem thn6 (r : Ss) : thn subc fieldsOf call make r .bad = .bad := nr rfl
@[simp] theorem thn_ite (r : Ss) {cc : Prop} [Decidable cc] (a b : SR) : thn subc fieldsOf call make r (if cc then a else b) = if cc then thn subc fieldsOf call make r a else thn subc fieldsOf call make r b := by split <;> rfl
end
end Ev

set_option Elab.async false
set_option linter.all false
set_option maxRecDepth 100000
set_option maxHeartbeats 4000000
/-! Operations on values, as rows for simp. -/
namespace Ev
open PySem
open Classical
@[simp] theorem bindT_v (i : Nat) (w : W) (en : En) : bindT (.v i) w en = if i < en.length then some (en.set i (some w)) else none := by simp [bindT]
@[simp] theorem bindT_t (ts : List Tg) (ws : List W) (en : En) : bindT (.t ts) (.tup ws) en = bindTs ts ws en := by simp [bindT]
@[simp] theorem bindTs_nil (en : En) : bindTs [] [] en = some en := by simp [bindTs]
@[simp] theorem bindTs_cons (t : Tg) (ts : List Tg) (w : W) (ws : List W) (en : En) : bindTs (t :: ts) (w :: ws) en = (bindT t w en).bind fun en => bindTs ts ws en := by simp [bindTs]
@[simp] theorem wipeE_nil (en : En) : wipeE en [] = en := nr rfl
@[simp] theorem wipeE_cons (en : En) (v : Nat) (vs : List Nat) : wipeE en (v :: vs) = (wipeE en vs).set v none := nr rfl
@[simp] theorem vars_v (i : Nat) : (Tg.v i).vars = [i] := by simp [Tg.vars]
@[simp] theorem vars_t (ts : List Tg) : (Tg.t ts).vars = varsL ts := by simp [Tg.vars]
@[simp] theorem varsL_nil : varsL [] = [] := by simp [varsL]
@[simp] theorem varsL_cons (t : Tg) (ts : List Tg) : varsL (t :: ts) = t.vars ++ varsL ts := by simp [varsL]
section
variable (m : Store)
@[simp] theorem truth_non : truth m .non = some false := nr rfl
@[simp] theorem truth_bl (b : Bool) : truth m (.bl b) = some b := nr rfl
@[simp] theorem truth_int (i : Int) : truth m (.int i) = some (i != 0) := nr rfl
@[simp] theorem truth_tup (ws : List W) : truth m (.tup ws) = some (!ws.isEmpty) := nr rfl
@[simp] theorem truth_lst {n : Nat} {ws : List W} (h : m[n]? = some (.lst ws)) : truth m (.ref n) = some (!ws.isEmpty) := by simp [truth, h]
@[simp] theorem una_not_bl (b : Bool) : evUna .not (.bl b) m = .ok (.bl (!b)) m := nr rfl
@[simp] theorem una_neg (i : Int) : evUna .neg (.int i) m = .ok (.int (-i)) m := nr rfl
/-! types -/
@[simp] theorem tyIs_non (s : String → String → Option Bool) (t : Ty) : tyIs s t .non m = some false := by cases t <;> rfl
@[simp] theorem tyIs_bl (s : String → String → Option Bool) (t : Ty) (b : Bool) : tyIs s t (.bl b) m = some (tySub .bool t) := by cases t <;> rfl
@[simp] theorem tyIs_int (s : String → String → Option Bool) (t : Ty) (b : Int) : tyIs s t (.int b) m = some (tySub .int t) := by cases t <;> rfl
@[simp] theorem tyIs_str (s : String → String → Option Bool) (t : Ty) (b : Str) : tyIs s t (.str b) m = some (tySub .str t) := by cases t <;> rfl
@[simp] theorem tyIs_tup (s : String → String → Option Bool) (t : Ty) (b : List W) : tyIs s t (.tup b) m = some (tySub .tuple t) := by cases t <;> rfl
@[simp] theorem tyIs_lst (s : String → String → Option Bool) (t : Ty) {n : Nat} {ws : List W} (h : m[n]? = some (.lst ws)) : tyIs s t (.ref n) m = some (tySub .list t) := by cases t <;> simp [tyIs, tyName, h, tySub]
@[simp] theorem tyIs_dct (s : String → String → Option Bool) (t : Ty) {n : Nat} (h : m[n]? = some (.dct [])) : tyIs s t (.ref n) m = some (tySub .dict t) := by cases t <;> simp [tyIs, tyName, h, tySub]
@[simp] theorem tyIs_exc (s : String → String → Option Bool) (d c : String) : tyIs s (.cls c) (.exc d []) m = s d c := nr rfl
end
@[simp] theorem ts1 : tySub .int .int = true := nr rfl
@[simp] theorem ts2 : tySub .bool .bool = true := nr rfl
@[simp] theorem ts3 : tySub .bool .int = true := nr rfl
@[simp] theorem ts4 : tySub .str .str = true := nr rfl
@[simp] theorem ts5 : tySub .tuple .tuple = true := nr rfl
@[simp] theorem ts6 : tySub .list .list = true := nr rfl
@[simp] theorem ts7 : tySub .dict .dict = true := nr rfl
@[simp] theorem tn1 : tySub .int .bool = false := nr rfl
@[simp] theorem tn2 : tySub .int .tuple = false := nr rfl
@[simp] theorem tn3 : tySub .int .str = false := nr rfl
@[simp] theorem tn4 : tySub .int .list = false := nr rfl
@[simp] theorem tn5 : tySub .int .dict = false := nr rfl
@[simp] theorem tn6 : tySub .bool .tuple = false := nr rfl
@[simp] theorem tn7 : tySub .bool .str = false := nr rfl
@[simp] theorem tn8 : tySub .bool .list = false := nr rfl
@[simp] theorem tn9 : tySub .bool .dict = false := nr rfl
@[simp] theorem tn10 : tySub .tuple .int = false := nr rfl
@[simp] theorem tn11 : tySub .tuple .bool = false := nr rfl
@[simp] theorem tn12 : tySub .tuple .str = false := nr rfl
@[simp] theorem tn13 : tySub .tuple .list = false := nr rfl
@[simp] theorem tn14 : tySub .tuple .dict = false := nr rfl
@[simp] theorem tn15 : tySub .str .int = false := nr rfl
@[simp] theorem tn16 : tySub .str .bool = false := nr rfl
@[simp] theorem tn17 : tySub .str .tuple = false := nr rfl
@[simp] theorem tn18 : tySub .str .list = false := nr rfl
@[simp] theorem tn19 : tySub .str .dict = false := nr rfl
@[simp] theorem tn20 : tySub .list .int = false := nr rfl
@[simp] theorem tn21 : tySub .list .bool = false := nr rfl
@[simp] theorem tn22 : tySub .list .tuple = false := nr rfl
@[simp] theorem tn23 : tySub .list .str = false := nr rfl
@[simp] theorem tn24 : tySub .list .dict = false := nr rfl
@[simp] theorem tn25 : tySub .dict .int = false := nr rfl
@[simp] theorem tn26 : tySub .dict .bool = false := nr rfl
@[simp] theorem tn27 : tySub .dict .tuple = false := nr rfl
@[simp] theorem tn28 : tySub .dict .str = false := nr rfl
@[simp] theorem tn29 : tySub .dict .list = false := nr rfl
@[simp] theorem tnc (t : Ty) (c : String) : tySub t (.cls c) = false := by cases t <;> rfl
/-! order, equality -/
section
variable (m : Store)
@[simp] theorem cmp_lt (x y : W) : evCmp .lt x y m = if x.plain = true ∧ y.plain = true ∧ x.dep ≤ 8 then W.ltb x y else none := nr rfl
@[simp] theorem cmp_le (i j : Int) : evCmp .le (.int i) (.int j) m = some (decide (i ≤ j)) := nr rfl
@[simp] theorem cmp_gt (i j : Int) : evCmp .gt (.int i) (.int j) m = some (decide (j < i)) := nr rfl
@[simp] theorem cmp_ge (i j : Int) : evCmp .ge (.int i) (.int j) m = some (decide (j ≤ i)) := nr rfl
@[simp] theorem cmp_eq (x y : W) : evCmp .eq x y m = eqD m x y := nr rfl
@[simp] theorem cmp_ne (x y : W) : evCmp .ne x y m = (eqD m x y).map (!·) := nr rfl
@[simp] theorem cmp_in (x y : W) : evCmp .inn x y m = evIn x y m := nr rfl
@[simp] theorem cmp_nin (x y : W) : evCmp .nin x y m = (evIn x y m).map (!·) := nr rfl
@[simp] theorem cmp_is_bl (a b : Bool) : evCmp .is (.bl a) (.bl b) m = some (a == b) := nr rfl
@[simp] theorem cmp_isn_bl (a b : Bool) : evCmp .isn (.bl a) (.bl b) m = some (!(a == b)) := nr rfl
@[simp] theorem cmp_is_non : evCmp .is .non .non m = some true := nr rfl
@[simp] theorem plain_int (i : Int) : W.plain (.int i) = true := by simp [W.plain]
@[simp] theorem plain_str (i : Str) : W.plain (.str i) = true := by simp [W.plain]
@[simp] theorem plain_tup (ws : List W) : W.plain (.tup ws) = W.plainL ws := by simp [W.plain]
@[simp] theorem plainL_nil : W.plainL [] = true := by simp [W.plainL]
@[simp] theorem plainL_cons (w : W) (ws : List W) : W.plainL (w :: ws) = (w.plain && W.plainL ws) := by simp [W.plainL]
@[simp] theorem dep_int (i : Int) : W.dep (.int i) = 0 := by simp [W.dep]
@[simp] theorem dep_str (i : Str) : W.dep (.str i) = 0 := by simp [W.dep]
@[simp] theorem dep_tup (ws : List W) : W.dep (.tup ws) = W.depL ws + 1 := by simp [W.dep]
@[simp] theorem depL_nil : W.depL [] = 0 := by simp [W.depL]
@[simp] theorem depL_cons (w : W) (ws : List W) : W.depL (w :: ws) = max w.dep (W.depL ws) := by simp [W.depL]
@[simp] theorem ltb_int (i j : Int) : W.ltb (.int i) (.int j) = some (decide (i < j)) := by simp [W.ltb]
@[simp] theorem ltb_tup (a b : List W) : W.ltb (.tup a) (.tup b) = W.ltbL a b := by simp [W.ltb]
@[simp] theorem ltbL_nn : W.ltbL [] [] = some false := by simp [W.ltbL]
@[simp] theorem ltbL_nc (y : W) (ys : List W) : W.ltbL [] (y :: ys) = some true := by simp [W.ltbL]
@[simp] theorem ltbL_cn (x : W) (xs : List W) : W.ltbL (x :: xs) [] = some false := by simp [W.ltbL]
@[simp] theorem ltbL_cc (x : W) (xs : List W) (y : W) (ys : List W) : W.ltbL (x :: xs) (y :: ys) = (W.ltb x y).bind fun b => (W.ltbL xs ys).map fun c => if x = y then c else b := by simp [W.ltbL]
end
/-! ints and tuples of such -/
@[simp] theorem pi_int (i : Int) : W.pi (.int i) = true := by simp [W.pi]
@[simp] theorem pi_tup (ws : List W) : W.pi (.tup ws) = W.piL ws := by simp [W.pi]
@[simp] theorem piL_nil : W.piL [] = true := by simp [W.piL]
@[simp] theorem piL_cons (w : W) (r : List W) : W.piL (w :: r) = (w.pi && W.piL r) := by simp [W.piL]
theorem piL_iff {ws : List W} : W.piL ws = true ↔ ∀ w ∈ ws, w.pi = true := by
  induction ws with
  | nil => simp
  | cons w r ih => simp [ih]
theorem depL_iff {ws : List W} {n : Nat} : W.depL ws ≤ n ↔ ∀ w ∈ ws, w.dep ≤ n := by
  induction ws with
  | nil => simp
  | cons w r ih => simp [Nat.max_le, ih]
mutual
def W.toD : W → PyData
  | .int i => .int i
  | .tup ws => .tuple (W.toDL ws)
  | _ => .none
def W.toDL : List W → List PyData
  | [] => []
  | w :: r => w.toD :: W.toDL r
end
mutual
theorem pi_refs : ∀ {w : W}, w.pi = true → w.refs = []
  | .int _, _ => by simp
  | .tup ws, h => by rw [refs_tup]; exact piL_refs (by simpa using h)
  | .non, h => by simp [W.pi] at h
  | .bl _, h => by simp [W.pi] at h
  | .str _, h => by simp [W.pi] at h
  | .ref _, h => by simp [W.pi] at h
  | .obj _ _, h => by simp [W.pi] at h
  | .exc _ _, h => by simp [W.pi] at h
theorem piL_refs : ∀ {ws : List W}, W.piL ws = true → W.refsL ws = []
  | [], _ => by simp
  | w :: r, h => by
    simp only [piL_cons, Bool.and_eq_true] at h
    simp [pi_refs h.1, piL_refs h.2]
end
mutual
theorem pi_dat (f : Nat → Option PyData) : ∀ {w : W}, w.pi = true → w.dat f = some w.toD
  | .int _, _ => by simp [W.dat, W.toD]
  | .tup ws, h => by simp [W.dat, W.toD, piL_dat f (ws := ws) (by simpa using h)]
  | .non, h => by simp [W.pi] at h
  | .bl _, h => by simp [W.pi] at h
  | .str _, h => by simp [W.pi] at h
  | .ref _, h => by simp [W.pi] at h
  | .obj _ _, h => by simp [W.pi] at h
  | .exc _ _, h => by simp [W.pi] at h
theorem piL_dat (f : Nat → Option PyData) : ∀ {ws : List W}, W.piL ws = true → W.datL f ws = some (W.toDL ws)
  | [], _ => by simp [W.datL, W.toDL]
  | w :: r, h => by
    simp only [piL_cons, Bool.and_eq_true] at h
    simp [W.datL, W.toDL, pi_dat f h.1, piL_dat f h.2]
end
mutual
theorem pi_shape : ∀ {w : W}, w.pi = true → w.toD.canLay0 = true ∧ w.toD.depth = w.dep
  | .int _, _ => by simp [W.toD, PyData.canLay0, PyData.depth]
  | .tup ws, h => by
    have := piL_shape (ws := ws) (by simpa using h)
    simp [W.toD, PyData.canLay0, PyData.depth, this]
  | .non, h => by simp [W.pi] at h
  | .bl _, h => by simp [W.pi] at h
  | .str _, h => by simp [W.pi] at h
  | .ref _, h => by simp [W.pi] at h
  | .obj _ _, h => by simp [W.pi] at h
  | .exc _ _, h => by simp [W.pi] at h
theorem piL_shape : ∀ {ws : List W}, W.piL ws = true → PyData.canLayAll0 (W.toDL ws) = true ∧ PyData.depthAll (W.toDL ws) = W.depL ws
  | [], _ => by simp [W.toDL, PyData.canLayAll0, PyData.depthAll]
  | w :: r, h => by
    simp only [piL_cons, Bool.and_eq_true] at h
    have h1 := pi_shape h.1
    have h2 := piL_shape h.2
    simp [W.toDL, PyData.canLayAll0, PyData.depthAll, h1, h2]
end
mutual
theorem pi_eqv : ∀ {a b : W}, a.pi = true → b.pi = true → PyData.eqv a.toD b.toD = decide (a = b)
  | .int i, .int j, _, _ => by
    simp only [W.toD, PyData.eqv, W.int.injEq]
    rw [Bool.eq_iff_iff]; simp
  | .tup xs, .tup ys, h, k => by
    have := piL_eqv (as := xs) (bs := ys) (by simpa using h) (by simpa using k)
    simp [W.toD, PyData.eqv, this]
  | .int i, .tup ys, _, _ => by simp [W.toD, PyData.eqv]
  | .tup ys, .int i, _, _ => by simp [W.toD, PyData.eqv]
  | .non, _, h, _ => by simp [W.pi] at h
  | .bl _, _, h, _ => by simp [W.pi] at h
  | .str _, _, h, _ => by simp [W.pi] at h
  | .ref _, _, h, _ => by simp [W.pi] at h
  | .obj _ _, _, h, _ => by simp [W.pi] at h
  | .exc _ _, _, h, _ => by simp [W.pi] at h
  | .int _, .non, _, h => by simp [W.pi] at h
  | .int _, .bl _, _, h => by simp [W.pi] at h
  | .int _, .str _, _, h => by simp [W.pi] at h
  | .int _, .ref _, _, h => by simp [W.pi] at h
  | .int _, .obj _ _, _, h => by simp [W.pi] at h
  | .int _, .exc _ _, _, h => by simp [W.pi] at h
  | .tup _, .non, _, h => by simp [W.pi] at h
  | .tup _, .bl _, _, h => by simp [W.pi] at h
  | .tup _, .str _, _, h => by simp [W.pi] at h
  | .tup _, .ref _, _, h => by simp [W.pi] at h
  | .tup _, .obj _ _, _, h => by simp [W.pi] at h
  | .tup _, .exc _ _, _, h => by simp [W.pi] at h
theorem piL_eqv : ∀ {as bs : List W}, W.piL as = true → W.piL bs = true → PyData.eqvAll (W.toDL as) (W.toDL bs) = decide (as = bs)
  | [], [], _, _ => by simp [W.toDL, PyData.eqvAll]
  | [], _ :: _, _, _ => by simp [W.toDL, PyData.eqvAll]
  | _ :: _, [], _, _ => by simp [W.toDL, PyData.eqvAll]
  | a :: as, b :: bs, h, k => by
    simp only [piL_cons, Bool.and_eq_true] at h k
    simp [W.toDL, PyData.eqvAll, pi_eqv h.1 k.1, piL_eqv h.2 k.2]
end
theorem shaped_pi {w : W} (h : w.pi = true) (hd : w.dep ≤ 64) : SeqAt.shaped w.toD = true := by
  obtain ⟨h1, h2⟩ := pi_shape h
  simp [SeqAt.shaped, h1, h2, hd]
theorem shaped_tup {ws : List W} (h : W.piL ws = true) (hd : W.depL ws ≤ 63) : SeqAt.shaped (.tuple (W.toDL ws)) = true ∧ SeqAt.shaped (.list (W.toDL ws)) = true := by
  obtain ⟨h1, h2⟩ := piL_shape h
  simp [SeqAt.shaped, PyData.canLay0, PyData.depth, h1, h2]; omega
theorem eqD_pi (m : Store) {a b : W} (h : a.pi = true) (k : b.pi = true) (hd : a.dep ≤ 64) (kd : b.dep ≤ 64) : eqD m a b = some (decide (a = b)) := by
  unfold eqD datOf
  rw [pi_dat _ h, pi_dat _ k]
  simp [shaped_pi h hd, shaped_pi k kd, pi_eqv h k]
@[simp] theorem eqD_int (m : Store) (i j : Int) : eqD m (.int i) (.int j) = some (decide (i = j)) := by
  rw [eqD_pi m (by simp) (by simp) (by simp) (by simp)]; simp
theorem datOf_lst {m : Store} {n : Nat} {ws : List W} (e : m[n]? = some (.lst ws)) (h : W.piL ws = true) : datOf m (.ref n) = some (.list (W.toDL ws)) := by
  simp [datOf, W.dat, datR, e, piL_dat _ h]
theorem eqD_lst {m : Store} {a b : Nat} {xs ys : List W} (ea : m[a]? = some (.lst xs)) (eb : m[b]? = some (.lst ys)) (h : W.piL xs = true) (k : W.piL ys = true) (hd : W.depL xs ≤ 63) (kd : W.depL ys ≤ 63) : eqD m (.ref a) (.ref b) = some (decide (xs = ys)) := by
  unfold eqD
  rw [datOf_lst ea h, datOf_lst eb k]
  simp [(shaped_tup h hd).2, (shaped_tup k kd).2, PyData.eqv, piL_eqv h k]
theorem any_eqv {x : W} (hx : x.pi = true) : ∀ {ws : List W}, W.piL ws = true → (W.toDL ws).any (fun z => PyData.eqv z x.toD) = decide (x ∈ ws)
  | [], _ => by simp [W.toDL]
  | w :: r, h => by
    simp only [piL_cons, Bool.and_eq_true] at h
    rw [W.toDL, List.any_cons, pi_eqv h.1 hx, any_eqv hx h.2]
    simp [eq_comm]
theorem in_tup (m : Store) {x : W} {ws : List W} (hx : x.pi = true) (hd : x.dep ≤ 64) (h : W.piL ws = true) (kd : W.depL ws ≤ 63) : evIn x (.tup ws) m = some (decide (x ∈ ws)) := by
  unfold evIn datOf
  simp only
  rw [pi_dat _ hx, piL_dat _ h]
  simp only [shaped_pi hx hd, (shaped_tup h kd).1, and_self, if_true, any_eqv hx h]
theorem in_lst {m : Store} {n : Nat} {x : W} {ws : List W} (e : m[n]? = some (.lst ws)) (hx : x.pi = true) (hd : x.dep ≤ 64) (h : W.piL ws = true) (kd : W.depL ws ≤ 63) : evIn x (.ref n) m = some (decide (x ∈ ws)) := by
  unfold evIn datOf
  simp only [e]
  rw [pi_dat _ hx, piL_dat _ h]
  simp only [shaped_pi hx hd, (shaped_tup h kd).2, and_self, if_true, any_eqv hx h]
theorem bl_datL (f : Nat → Option PyData) : ∀ bs : List Bool, W.datL f (bs.map W.bl) = some (bs.map PyData.bool)
  | [] => by simp [W.datL]
  | b :: r => by simp [W.datL, W.dat, bl_datL f r]
theorem bl_lay : ∀ bs : List Bool, PyData.canLayAll0 (bs.map PyData.bool) = true ∧ PyData.depthAll (bs.map PyData.bool) = 0
  | [] => by simp [PyData.canLayAll0, PyData.depthAll]
  | b :: r => by simp [PyData.canLayAll0, PyData.depthAll, PyData.canLay0, PyData.depth, bl_lay r]
/-- a truth in a list of truths -/
theorem in_bls {m : Store} {n : Nat} {b : Bool} {bs : List Bool} (e : m[n]? = some (.lst (bs.map W.bl))) : evIn (.bl b) (.ref n) m = some (decide (b ∈ bs)) := by
  unfold evIn datOf
  simp only [e]
  rw [bl_datL]
  obtain ⟨h1, h2⟩ := bl_lay bs
  have hs : SeqAt.shaped (PyData.list (bs.map PyData.bool)) = true := by simp [SeqAt.shaped, PyData.canLay0, PyData.depth, h1, h2]
  simp only [W.dat, SeqAt.shaped, PyData.canLay0, PyData.depth, h1, h2]
  have : (bs.map PyData.bool).any (fun z => PyData.eqv z (.bool b)) = decide (b ∈ bs) := by
    clear e hs h1 h2
    induction bs with
    | nil => simp
    | cons c r ih => rw [List.map_cons, List.any_cons, ih]; cases b <;> cases c <;> simp [PyData.eqv]
  simp [this]
theorem in_dct {m : Store} {n : Nat} {x : W} {kvs : List (W × W)} (e : m[n]? = some (.dct kvs)) (h : okKey x kvs) : evIn x (.ref n) m = some (decide (x ∈ kvs.map (·.1))) := by
  unfold evIn
  simp only [e, if_pos h]
/-! built-ins -/
section
variable (m : Store)
@[simp] theorem bi_len (w : W) : evBi .len [w] m = evLen w m := nr rfl
@[simp] theorem bi_all (w : W) : evBi .all [w] m = evAll (fun bs => bs.all id) w m := nr rfl
@[simp] theorem bi_any (w : W) : evBi .any [w] m = evAll (fun bs => bs.any id) w m := nr rfl
@[simp] theorem bi_tuple_tup (ws : List W) : evBi .tuple [.tup ws] m = .ok (.tup ws) m := nr rfl
@[simp] theorem bi_tuple {n : Nat} {ws : List W} (h : m[n]? = some (.lst ws)) : evBi .tuple [.ref n] m = .ok (.tup ws) m := by simp [evBi, one, iterOf, h]
@[simp] theorem bi_list_tup (ws : List W) : evBi .list [.tup ws] m = alloc (.lst ws) m := nr rfl
@[simp] theorem bi_list {n : Nat} {ws : List W} (h : m[n]? = some (.lst ws)) : evBi .list [.ref n] m = alloc (.lst ws) m := by simp [evBi, one, iterOf, h]
@[simp] theorem bi_sorted (w : W) : evBi .sorted [w] m = evSorted w m := nr rfl
@[simp] theorem sorted_lst {n : Nat} {ws : List W} (h : m[n]? = some (.lst ws)) (c : comparable ws) : evSorted (.ref n) m = alloc (.lst (sortW ws)) m := by simp [evSorted, iterOf, h, c]
theorem sorted_tup {ws : List W} (c : comparable ws) : evSorted (.tup ws) m = alloc (.lst (sortW ws)) m := by simp [evSorted, iterOf, c]
@[simp] theorem bi_lenset (w : W) : evBi .lenset [w] m = evLenset w m := nr rfl
@[simp] theorem bi_sortset (w : W) : evBi .sortset [w] m = evSortset w m := nr rfl
@[simp] theorem bi_min (i j : Int) : evBi .min [.int i, .int j] m = .ok (.int (if j < i then j else i)) m := nr rfl
@[simp] theorem bi_max (i j : Int) : evBi .max [.int i, .int j] m = .ok (.int (if j > i then j else i)) m := nr rfl
@[simp] theorem bi_abs (i : Int) : evBi .abs [.int i] m = .ok (.int (if i < 0 then -i else i)) m := nr rfl
@[simp] theorem bi_int (i : Int) : evBi .int [.int i] m = .ok (.int i) m := nr rfl
@[simp] theorem bi_intb (b : Bool) : evBi .int [.bl b] m = .ok (.int (if b then 1 else 0)) m := nr rfl
@[simp] theorem len_tup (ws : List W) : evLen (.tup ws) m = .ok (.int ws.length) m := nr rfl
@[simp] theorem len_lst {n : Nat} {ws : List W} (h : m[n]? = some (.lst ws)) : evLen (.ref n) m = .ok (.int ws.length) m := by simp [evLen, h]
theorem bools_map : ∀ bs : List Bool, bools (bs.map W.bl) = some bs
  | [] => rfl
  | b :: r => by simp [bools, bools_map r]
@[simp] theorem all_lst {n : Nat} {f : List Bool → Bool} {bs : List Bool} (h : m[n]? = some (.lst (bs.map W.bl))) : evAll f (.ref n) m = .ok (.bl (f bs)) m := by simp [evAll, h, bools_map]
@[simp] theorem alloc_eq (o : MObj) : alloc o m = .ok (.ref m.length) (m ++ [o]) := nr rfl
theorem allocL_eq {ws : List W} (h : ws.length ≤ cap) : allocL ws m = .ok (.ref m.length) (m ++ [.lst ws]) := by simp [allocL, h]
@[simp] theorem allocL_nil : allocL [] m = .ok (.ref m.length) (m ++ [.lst []]) := by simp [allocL]
@[simp] theorem bin_add_int (i j : Int) : evBin .add (.int i) (.int j) m = .ok (.int (i + j)) m := nr rfl
@[simp] theorem bin_sub_int (i j : Int) : evBin .sub (.int i) (.int j) m = .ok (.int (i - j)) m := by simp [evBin, intOp]
@[simp] theorem bin_add_tup (a b : List W) : evBin .add (.tup a) (.tup b) m = if a.length + b.length ≤ cap then .ok (.tup (a ++ b)) m else .bad := nr rfl
@[simp] theorem bin_add_lst {a b : Nat} {xs ys : List W} (ha : m[a]? = some (.lst xs)) (hb : m[b]? = some (.lst ys)) (hc : xs.length + ys.length ≤ cap) : evBin .add (.ref a) (.ref b) m = alloc (.lst (xs ++ ys)) m := by simp [evBin, evAdd, ha, hb, hc]
@[simp] theorem idx_tup (ws : List W) (i : Int) : evIdx (.tup ws) (.int i) m = Res.of (L2.atI ws i) m := nr rfl
@[simp] theorem idx_lst {n : Nat} {ws : List W} (h : m[n]? = some (.lst ws)) (i : Int) : evIdx (.ref n) (.int i) m = Res.of (L2.atI ws i) m := by simp [evIdx, h]
theorem idx_dct {n : Nat} {kvs : List (W × W)} {k : W} (h : m[n]? = some (.dct kvs)) (hk : okKey k kvs) : evIdx (.ref n) k m = Res.of (findK k kvs) m := by
  cases k <;> simp [evIdx, h, hk]
end
/-! ### comprehensions -/
section
variable {subc : String → String → Option Bool} {fieldsOf : String → List String} {call make : Call} {en : En} {m : Store}
noncomputable def turnX (subc : String → String → Option Bool) (fieldsOf : String → List String) (call make : Call) (own : List Nat) (t : Tg) (c : Oe) (x : E) (en : En) (w : W) (m : Store) : Res (List W) := match bindT t w (wipeE en own) with
  | none => .bad
  | some en => (evC subc fieldsOf call make c en m).bind fun b m => if b = true then (evE subc fieldsOf call make x en m).bind fun w m => .ok [w] m else .ok [] m
theorem lc_ok {own : List Nat} {x : E} {t : Tg} {it : Wk} {c : Oe} {its : Walked} (g : W → List W) (hit : evIt subc fieldsOf call make it en m = .ok its m) (hs : stillAt its.srcs m)
    (ht : ∀ w ∈ its.items, turnX subc fieldsOf call make own t c x en w m = .ok (g w) m) (hb : W.refsL (its.items.flatMap g) = []) (hc : (its.items.flatMap g).length ≤ cap) :
    evE subc fieldsOf call make (.lc own x (.cons t it c .nil)) en m = .ok (.ref m.length) (m ++ [.lst (its.items.flatMap g)]) := by
  show gc m (Res.calm (Res.bind (Res.bind (evIt subc fieldsOf call make it en m) fun its m1 => loopC (stillAt its.srcs) (fun w m => turnX subc fieldsOf call make own t c x en w m) its.items m1) fun ws m => allocL ws m)) = _
  rw [hit, Res.bind1, loopC_ok hs ht, Res.bind1, allocL_eq _ hc]
  exact gc_new m (bel_flat hb)
/-- each item gives one value -/
theorem lc_map {own : List Nat} {x : E} {t : Tg} {it : Wk} {its : Walked} (g : W → W) (hit : evIt subc fieldsOf call make it en m = .ok its m) (hs : stillAt its.srcs m)
    (ht : ∀ w ∈ its.items, ∃ en1, bindT t w (wipeE en own) = some en1 ∧ evE subc fieldsOf call make x en1 m = .ok (g w) m) (hb : W.refsL (its.items.map g) = []) (hc : its.items.length ≤ cap) :
    evE subc fieldsOf call make (.lc own x (.cons t it .none .nil)) en m = .ok (.ref m.length) (m ++ [.lst (its.items.map g)]) := by
  have e : its.items.flatMap (fun w => [g w]) = its.items.map g := by
    induction its.items with
    | nil => rfl
    | cons w r ih => simp [ih]
  have := lc_ok (own := own) (x := x) (t := t) (it := it) (c := .none) (fun w => [g w]) hit hs (fun w hw => by
    obtain ⟨en1, e1, e2⟩ := ht w hw
    simp [turnX, e1, e2]) (by rw [e]; exact hb) (by rw [e]; simpa using hc)
  rw [e] at this
  exact this
/-- each item of which the test is true gives one value -/
theorem lc_filter {own : List Nat} {x : E} {t : Tg} {it : Wk} {c : E} {its : Walked} (p : W → Bool) (g : W → W) (hit : evIt subc fieldsOf call make it en m = .ok its m) (hs : stillAt its.srcs m)
    (ht : ∀ w ∈ its.items, ∃ en1, bindT t w (wipeE en own) = some en1 ∧ kC (evE subc fieldsOf call make c en1 m) = .ok (p w) m ∧ (p w = true → evE subc fieldsOf call make x en1 m = .ok (g w) m)) (hb : W.refsL ((its.items.filter p).map g) = []) (hc : its.items.length ≤ cap) :
    evE subc fieldsOf call make (.lc own x (.cons t it (.some c) .nil)) en m = .ok (.ref m.length) (m ++ [.lst ((its.items.filter p).map g)]) := by
  have e : its.items.flatMap (fun w => if p w = true then [g w] else []) = (its.items.filter p).map g := by
    induction its.items with
    | nil => rfl
    | cons w r ih =>
      rw [List.flatMap_cons, ih, List.filter_cons]
      split <;> simp
  have := lc_ok (own := own) (x := x) (t := t) (it := it) (c := .some c) (fun w => if p w = true then [g w] else []) hit hs (fun w hw => by
    obtain ⟨en1, e1, e2, e3⟩ := ht w hw
    simp only [turnX, e1, evC_some, e2, Res.bind1]
    split
    · rename_i h; rw [e3 h]; simp
    · rfl) (by rw [e]; exact hb) (by rw [e]; exact Nat.le_trans (by simpa using List.length_filter_le _ _) hc)
  rw [e] at this
  exact this
/-! what is walked -/
@[simp] theorem it_of (a : E) : evIt subc fieldsOf call make (.of a) en m = ((evE subc fieldsOf call make a en m).bind fun x m1 => (Res.of (iterOf m1 x) m1).bind fun ws m1 => .ok (Walked.mk ws (srcOf m1 x)) m1).bind fun its m1 => gcI m its m1 := nr rfl
theorem it_tup {a : E} {ws : List W} (h : evE subc fieldsOf call make a en m = .ok (.tup ws) m) (hb : W.refsL ws = []) : evIt subc fieldsOf call make (.of a) en m = .ok ⟨ws, []⟩ m := by
  simp [h, iterOf, srcOf, hb]
theorem it_tupB {a : E} {ws : List W} (h : evE subc fieldsOf call make a en m = .ok (.tup ws) m) (hb : belowL m.length ws) : evIt subc fieldsOf call make (.of a) en m = .ok ⟨ws, []⟩ m := by
  rw [it_of, h]
  simp only [Res.bind1, iterOf, Res.of_some, srcOf]
  unfold gcI
  rw [if_pos ⟨keepOld_refl m, hb⟩]; simp
theorem it_new {a : E} {ws : List W} (h : evE subc fieldsOf call make a en m = .ok (.ref m.length) (m ++ [.lst ws])) (hb : W.refsL ws = []) : evIt subc fieldsOf call make (.of a) en m = .ok ⟨ws, []⟩ m := by
  simp [h, iterOf, srcOf, hb]
theorem it_lst {a : E} {n : Nat} {ws : List W} (h : evE subc fieldsOf call make a en m = .ok (.ref n) m) (e : m[n]? = some (.lst ws)) (hb : W.refsL ws = []) : evIt subc fieldsOf call make (.of a) en m = .ok ⟨ws, [(n, some (.lst ws))]⟩ m := by
  have e1 : iterOf m (.ref n) = some ws := by simp [iterOf, e]
  rw [it_of, h, Res.bind1, e1, Res.of_some, Res.bind1, Res.bind1, gcI_keep m hb]
  have := lt_of_get e
  simp only [srcOf, e, List.filter_cons, decide_eq_true this, if_true, List.filter_nil]
end
end Ev

set_option Elab.async false
set_option linter.all false
set_option maxRecDepth 100000
set_option maxHeartbeats 4000000
/-! Sorting and taking each once, read through an order of one's own. -/
namespace Ev
open PySem
open Classical
theorem mem_insW {x y : W} : ∀ {l : List W}, y ∈ insW x l ↔ y = x ∨ y ∈ l
  | [] => by simp [insW]
  | z :: r => by
    rw [insW]
    split
    · simp only [List.mem_cons, mem_insW (l := r)]
      constructor
      · rintro (h | h | h) <;> simp [h]
      · rintro (h | h | h) <;> simp [h]
    · simp
theorem mem_sortW {y : W} : ∀ {l : List W}, y ∈ sortW l ↔ y ∈ l
  | [] => by simp [sortW]
  | x :: r => by rw [sortW, mem_insW, mem_sortW, List.mem_cons]
theorem len_insW (x : W) : ∀ (l : List W), (insW x l).length = l.length + 1
  | [] => by simp [insW]
  | z :: r => by
    rw [insW]
    split
    · simp [len_insW x r]
    · simp
theorem len_sortW : ∀ (l : List W), (sortW l).length = l.length
  | [] => rfl
  | x :: r => by rw [sortW, len_insW, len_sortW r]; rfl
theorem mem_dedup {y : W} : ∀ {l : List W}, y ∈ dedup l ↔ y ∈ l
  | [] => by simp [dedup]
  | x :: r => by
    rw [dedup, List.mem_cons, List.mem_filter, mem_dedup, List.mem_cons]
    by_cases h : y = x <;> simp [h]
theorem len_dedup : ∀ (l : List W), (dedup l).length ≤ l.length
  | [] => Nat.le_refl _
  | x :: r => by
    rw [dedup, List.length_cons, List.length_cons]
    have := List.length_filter_le (fun u => decide (u ≠ x)) (dedup r)
    have := len_dedup r
    omega
/-! an order -/
section
variable {α : Type} [DecidableEq α] (lt : α → α → Bool)
structure Ord : Prop where
  irr : ∀ a, lt a a = false
  tr : ∀ a b c, lt a b = true → lt b c = true → lt a c = true
  tot : ∀ a b, a = b ∨ lt a b = true ∨ lt b a = true
def ins (x : α) : List α → List α
  | [] => [x]
  | y :: r => if lt y x = true then y :: ins x r else x :: y :: r
def srt : List α → List α
  | [] => []
  | x :: r => ins lt x (srt r)
def once : List α → List α
  | [] => []
  | x :: r => x :: (once r).filter fun u => decide (u ≠ x)
def Rise (l : List α) : Prop := l.Pairwise fun a b => lt a b = true
variable {lt}
theorem mem_ins {x y : α} : ∀ {l : List α}, y ∈ ins lt x l ↔ y = x ∨ y ∈ l
  | [] => by simp [ins]
  | z :: r => by
    rw [ins]
    split
    · simp only [List.mem_cons, mem_ins (l := r)]
      constructor
      · rintro (h | h | h) <;> simp [h]
      · rintro (h | h | h) <;> simp [h]
    · simp
theorem mem_srt {y : α} : ∀ {l : List α}, y ∈ srt lt l ↔ y ∈ l
  | [] => by simp [srt]
  | x :: r => by rw [srt, mem_ins, mem_srt, List.mem_cons]
theorem mem_once {y : α} : ∀ {l : List α}, y ∈ once l ↔ y ∈ l
  | [] => by simp [once]
  | x :: r => by
    rw [once, List.mem_cons, List.mem_filter, mem_once, List.mem_cons]
    by_cases h : y = x <;> simp [h]
theorem once_nodup : ∀ l : List α, (once l).Nodup
  | [] => List.nodup_nil
  | x :: r => by
    rw [once]
    exact List.nodup_cons.mpr ⟨fun h => by simpa using (List.mem_filter.mp h).2, (once_nodup r).filter _⟩
theorem once_id : ∀ {l : List α}, l.Nodup → once l = l
  | [], _ => rfl
  | x :: r, h => by
    obtain ⟨h1, h2⟩ := List.nodup_cons.mp h
    rw [once, once_id h2, List.filter_eq_self.mpr]
    intro u hu
    simpa using fun z => h1 (by rw [← z]; exact hu)
theorem ins_rise (O : Ord lt) {x : α} : ∀ {l : List α}, Rise lt l → x ∉ l → Rise lt (ins lt x l)
  | [], _, _ => by simp [ins, Rise]
  | y :: r, h, hx => by
    obtain ⟨h1, h2⟩ := List.pairwise_cons.mp h
    rw [ins]
    split
    · rename_i hl
      refine List.pairwise_cons.mpr ⟨fun z hz => ?_, ins_rise O h2 fun z => hx (List.mem_cons_of_mem _ z)⟩
      rcases mem_ins.mp hz with rfl | hz
      · exact hl
      · exact h1 z hz
    · rename_i hl
      have hxy : lt x y = true := by
        rcases O.tot x y with rfl | h | h
        · exact absurd List.mem_cons_self hx
        · exact h
        · exact absurd h hl
      refine List.pairwise_cons.mpr ⟨fun z hz => ?_, h⟩
      rcases List.mem_cons.mp hz with rfl | hz
      · exact hxy
      · exact O.tr _ _ _ hxy (h1 z hz)
theorem srt_rise (O : Ord lt) : ∀ {l : List α}, l.Nodup → Rise lt (srt lt l)
  | [], _ => List.Pairwise.nil
  | x :: r, h => by
    obtain ⟨h1, h2⟩ := List.nodup_cons.mp h
    exact ins_rise O (srt_rise O h2) fun z => h1 (mem_srt.mp z)
theorem Rise.nodup (O : Ord lt) {l : List α} (h : Rise lt l) : l.Nodup := List.Pairwise.imp (fun {a b} h e => by rw [e, O.irr] at h; cases h) h
theorem ins_least (O : Ord lt) {x : α} : ∀ {l : List α}, (∀ y ∈ l, lt x y = true) → ins lt x l = x :: l
  | [], _ => rfl
  | y :: r, h => by
    rw [ins, if_neg]
    intro z
    have := O.tr _ _ _ (h y List.mem_cons_self) z
    rw [O.irr] at this
    cases this
theorem srt_id (O : Ord lt) : ∀ {l : List α}, Rise lt l → srt lt l = l
  | [], _ => rfl
  | x :: r, h => by
    obtain ⟨h1, h2⟩ := List.pairwise_cons.mp h
    rw [srt, srt_id O h2, ins_least O h1]
/-- a list is its things, each once and in order, just if it rises -/
theorem eq_srt_iff (O : Ord lt) {l : List α} : l = srt lt (once l) ↔ Rise lt l := by
  constructor
  · intro h
    rw [h]
    exact srt_rise O (once_nodup l)
  · intro h
    rw [once_id (h.nodup O), srt_id O h]
/-! a word on neighbours -/
def neigh (lt : α → α → Bool) : List α → Bool
  | [] => true
  | [_] => true
  | a :: b :: r => lt a b && neigh lt (b :: r)
theorem neigh_iff (O : Ord lt) : ∀ {l : List α}, neigh lt l = true ↔ Rise lt l
  | [] => by simp [neigh, Rise]
  | [a] => by simp [neigh, Rise]
  | a :: b :: r => by
    rw [neigh, Bool.and_eq_true, neigh_iff O (l := b :: r)]
    constructor
    · rintro ⟨h1, h2⟩
      refine List.pairwise_cons.mpr ⟨fun c hc => ?_, h2⟩
      rcases List.mem_cons.mp hc with rfl | hc
      · exact h1
      · exact O.tr _ _ _ h1 ((List.pairwise_cons.mp h2).1 c hc)
    · intro h
      obtain ⟨h1, h2⟩ := List.pairwise_cons.mp h
      exact ⟨h1 b List.mem_cons_self, h2⟩
theorem zip_neigh (lt : α → α → Bool) : ∀ l : List α, (l.zip l.tail).all (fun p => lt p.1 p.2) = neigh lt l
  | [] => rfl
  | [a] => rfl
  | a :: b :: r => by
    have ih := zip_neigh lt (b :: r)
    simp only [List.tail_cons] at ih ⊢
    rw [List.zip_cons_cons, List.all_cons, ih]
    rfl
theorem rise_filter {l : List α} (p : α → Bool) (h : Rise lt l) : Rise lt (l.filter p) := List.Pairwise.filter p h
/-! read through f -/
variable {f : α → W} (hf : ∀ a b, f a = f b → a = b) (hl : ∀ a b, W.lt (f a) (f b) = lt a b)
include hl in
theorem insW_map (x : α) : ∀ l : List α, insW (f x) (l.map f) = (ins lt x l).map f
  | [] => rfl
  | y :: r => by
    rw [List.map_cons, insW, hl, ins]
    split
    · rw [insW_map x r, List.map_cons]
    · rfl
include hl in
theorem sortW_map : ∀ l : List α, sortW (l.map f) = (srt lt l).map f
  | [] => rfl
  | x :: r => by rw [List.map_cons, sortW, sortW_map r, insW_map hl, srt]
include hf in
theorem dedup_map : ∀ l : List α, dedup (l.map f) = (once l).map f
  | [] => rfl
  | x :: r => by
    rw [List.map_cons, dedup, dedup_map r, once, List.map_cons, List.filter_map]
    congr 1
    congr 1
    refine List.filter_congr fun u _ => ?_
    simp only [Function.comp, decide_eq_decide]
    exact ⟨fun h z => h (by rw [z]), fun h z => h (hf _ _ z)⟩
include hf in
theorem nodup_map {l : List α} (h : l.Nodup) : (l.map f).Nodup := List.pairwise_map.mpr (List.Pairwise.imp (fun {a b} hn e => hn (hf _ _ e)) h)
include hf in
theorem mem_map_inj {x : α} {l : List α} : f x ∈ l.map f ↔ x ∈ l := by
  rw [List.mem_map]
  exact ⟨fun ⟨y, h1, h2⟩ => by rw [← hf _ _ h2]; exact h1, fun h => ⟨x, h, rfl⟩⟩
include hf in
theorem map_inj {xs ys : List α} : xs.map f = ys.map f ↔ xs = ys := by
  constructor
  · intro h
    induction xs generalizing ys with
    | nil => cases ys with
      | nil => rfl
      | cons y ys => simp at h
    | cons x xs ih => cases ys with
      | nil => simp at h
      | cons y ys =>
        simp only [List.map_cons, List.cons.injEq] at h
        rw [hf _ _ h.1, ih h.2]
  · rintro rfl; rfl
end
/-! ints, pairs of ints, quartets -/
abbrev Q : Type := (Int × Int) × (Int × Int)
def pW (p : Int × Int) : W := .tup [.int p.1, .int p.2]
def qW (q : Q) : W := .tup [pW q.1, pW q.2]
theorem pW_inj (p q : Int × Int) (h : pW p = pW q) : p = q := by
  simp [pW] at h
  exact Prod.ext h.1 h.2
theorem qW_inj (p q : Q) (h : qW p = qW q) : p = q := by
  simp only [qW, W.tup.injEq, List.cons.injEq, and_true] at h
  exact Prod.ext (pW_inj _ _ h.1) (pW_inj _ _ h.2)
@[simp] theorem pW_refs (p : Int × Int) : (pW p).refs = [] := by simp [pW]
@[simp] theorem qW_refs (p : Q) : (qW p).refs = [] := by simp [qW]
@[simp] theorem pW_pi (p : Int × Int) : (pW p).pi = true := by simp [pW]
@[simp] theorem qW_pi (p : Q) : (qW p).pi = true := by simp [qW]
@[simp] theorem pW_dep (p : Int × Int) : (pW p).dep = 1 := by simp [pW]
@[simp] theorem qW_dep (p : Q) : (qW p).dep = 2 := by simp [qW]
@[simp] theorem pW_plain (p : Int × Int) : (pW p).plain = true := by simp [pW]
@[simp] theorem qW_plain (p : Q) : (qW p).plain = true := by simp [qW]
def ltP (p q : Int × Int) : Bool := decide (p.1 < q.1) || (decide (p.1 = q.1) && decide (p.2 < q.2))
def ltQ (p q : Q) : Bool := ltP p.1 q.1 || (decide (p.1 = q.1) && ltP p.2 q.2)
theorem ltb_pW (p q : Int × Int) : W.ltb (pW p) (pW q) = some (ltP p q) := by
  simp only [pW, ltb_tup, ltbL_cc, ltb_int, ltbL_nn, Option.map_some, Option.bind_some, W.int.injEq, ltP]
  by_cases h : p.1 = q.1
  · by_cases h2 : p.2 = q.2 <;> simp [h, h2]
  · simp [h]
theorem ltb_qW (p q : Q) : W.ltb (qW p) (qW q) = some (ltQ p q) := by
  simp only [qW, ltb_tup, ltbL_cc, ltb_pW, ltbL_nn, Option.map_some, Option.bind_some, ltQ]
  have e1 : (pW p.1 = pW q.1) = (p.1 = q.1) := propext ⟨pW_inj _ _, fun h => by rw [h]⟩
  have e2 : (pW p.2 = pW q.2) = (p.2 = q.2) := propext ⟨pW_inj _ _, fun h => by rw [h]⟩
  simp only [e1, e2]
  by_cases h : p.1 = q.1
  · have hp : ltP p.1 q.1 = false := by simp [ltP, h]
    by_cases h2 : p.2 = q.2
    · have hp2 : ltP p.2 q.2 = false := by simp [ltP, h2]
      simp [h, h2, hp, hp2]
      simp [ltP]
    · simp [h, h2, hp]
      simp [ltP]
  · simp [h]
theorem lt_pW (p q : Int × Int) : W.lt (pW p) (pW q) = ltP p q := by rw [W.lt, ltb_pW]; rfl
theorem lt_qW (p q : Q) : W.lt (qW p) (qW q) = ltQ p q := by rw [W.lt, ltb_qW]; rfl
theorem lt_int (i j : Int) : W.lt (.int i) (.int j) = decide (i < j) := by rw [W.lt, ltb_int]; rfl
theorem ordP : Ord ltP where
  irr a := by simp [ltP]
  tr a b c := by simp only [ltP, Bool.or_eq_true, Bool.and_eq_true, decide_eq_true_eq]; omega
  tot a b := by
    obtain ⟨a1, a2⟩ := a
    obtain ⟨b1, b2⟩ := b
    simp only [ltP, Bool.or_eq_true, Bool.and_eq_true, decide_eq_true_eq, Prod.mk.injEq]
    omega
theorem ordQ : Ord ltQ where
  irr a := by simp [ltQ, ordP.irr]
  tr a b c := by
    simp only [ltQ, Bool.or_eq_true, Bool.and_eq_true, decide_eq_true_eq]
    rintro (h | ⟨h1, h2⟩) (k | ⟨k1, k2⟩)
    · exact .inl (ordP.tr _ _ _ h k)
    · rw [← k1]; exact .inl h
    · rw [h1]; exact .inl k
    · exact .inr ⟨h1.trans k1, ordP.tr _ _ _ h2 k2⟩
  tot a b := by
    obtain ⟨a1, a2⟩ := a
    obtain ⟨b1, b2⟩ := b
    simp only [ltQ, Bool.or_eq_true, Bool.and_eq_true, decide_eq_true_eq, Prod.mk.injEq]
    rcases ordP.tot a1 b1 with rfl | h | h
    · rcases ordP.tot a2 b2 with rfl | h | h
      · simp
      · simp [h]
      · simp [h]
    · simp [h]
    · simp [h]
theorem ordI : Ord (fun a b : Int => decide (a < b)) where
  irr a := by simp
  tr a b c := by simp only [decide_eq_true_eq]; omega
  tot a b := by simp only [decide_eq_true_eq]; omega
theorem cmp_of {ws : List W} (h : ∀ x ∈ ws, x.plain = true ∧ x.dep ≤ 8 ∧ okTop x = true) (k : ∀ x ∈ ws, ∀ y ∈ ws, (W.ltb x y).isSome = true) : comparable ws := ⟨h, k⟩
theorem cmp_ints (l : List Int) : comparable (l.map W.int) := by
  refine cmp_of (fun x hx => ?_) fun x hx y hy => ?_
  · obtain ⟨i, _, rfl⟩ := List.mem_map.mp hx; simp [okTop]
  · obtain ⟨i, _, rfl⟩ := List.mem_map.mp hx; obtain ⟨j, _, rfl⟩ := List.mem_map.mp hy; simp
theorem cmp_ps (l : List (Int × Int)) : comparable (l.map pW) := by
  refine cmp_of (fun x hx => ?_) fun x hx y hy => ?_
  · obtain ⟨i, _, rfl⟩ := List.mem_map.mp hx; simp [okTop, pW]
  · obtain ⟨i, _, rfl⟩ := List.mem_map.mp hx; obtain ⟨j, _, rfl⟩ := List.mem_map.mp hy; rw [ltb_pW]; rfl
theorem cmp_qs (l : List Q) : comparable (l.map qW) := by
  refine cmp_of (fun x hx => ?_) fun x hx y hy => ?_
  · obtain ⟨i, _, rfl⟩ := List.mem_map.mp hx; simp [okTop, qW, pW]
  · obtain ⟨i, _, rfl⟩ := List.mem_map.mp hx; obtain ⟨j, _, rfl⟩ := List.mem_map.mp hy; rw [ltb_qW]; rfl
@[simp] theorem piL_map {α : Type} (f : α → W) (l : List α) (h : ∀ x, (f x).pi = true) : W.piL (l.map f) = true := piL_iff.mpr fun w hw => by
  obtain ⟨x, _, rfl⟩ := List.mem_map.mp hw
  exact h x
theorem depL_map {α : Type} (f : α → W) (l : List α) {n : Nat} (h : ∀ x, (f x).dep ≤ n) : W.depL (l.map f) ≤ n := depL_iff.mpr fun w hw => by
  obtain ⟨x, _, rfl⟩ := List.mem_map.mp hw
  exact h x
theorem in_qs (m : Store) (q : Q) (l : List Q) : evIn (qW q) (.tup (l.map qW)) m = some (decide (q ∈ l)) := by
  rw [in_tup m (by simp) (by simp) (by simp) (Nat.le_trans (depL_map qW l (n := 2) (by simp)) (by decide))]
  congr 1
  exact decide_eq_decide.mpr (mem_map_inj qW_inj)
theorem in_qd {m : Store} {n : Nat} {kvs : List (W × W)} {l : List Q} (e : m[n]? = some (.dct kvs)) (h : kvs.map (·.1) = l.map qW) (q : Q) : evIn (qW q) (.ref n) m = some (decide (q ∈ l)) := by
  rw [in_dct e ⟨by simp [W.keyb], fun p hp => ?_⟩, h]
  · congr 1
    exact decide_eq_decide.mpr (mem_map_inj qW_inj)
  · have : p.1 ∈ l.map qW := by rw [← h]; exact List.mem_map.mpr ⟨p, hp, rfl⟩
    obtain ⟨r, _, e⟩ := List.mem_map.mp this
    rw [← e]; rfl
theorem lenset_tup (m : Store) (l : List Int) (h : l.length ≤ 4000) : evLenset (.tup (l.map W.int)) m = .ok (.int (once l).length) m := by
  simp only [evLenset, iterOf, Res.of_some, Res.bind1]
  rw [if_pos ⟨fun x hx => by obtain ⟨i, _, rfl⟩ := List.mem_map.mp hx; exact ⟨i, rfl⟩, by simpa using h⟩, dedup_map (f := W.int) (fun a b e => by simpa using e)]
  simp
theorem sort2 (x y : W) : sortW [x, y] = if W.lt y x = true then [y, x] else [x, y] := rfl
@[simp] theorem sorted_new (m : Store) (ws : List W) (c : comparable ws) : evSorted (.ref m.length) (m ++ [.lst ws]) = .ok (.ref (m.length + 1)) (m ++ [.lst ws, .lst (sortW ws)]) := by
  simp [evSorted, iterOf, c]
@[simp] theorem cap_eq : cap = 16777216 := nr rfl
@[simp] theorem refsL_sortW {ws : List W} (h : W.refsL ws = []) : W.refsL (sortW ws) = [] := refsL_nil_iff.mpr fun w hw => refsL_nil_iff.mp h w (mem_sortW.mp hw)
@[simp] theorem gc_new1 (m : Store) (x : MObj) {o : MObj} (hb : o.bel m.length) : gc m (.ok (.ref (m.length + 1)) (m ++ [x, o])) = .ok (.ref m.length) (m ++ [o]) := gc_ref m [x, o] (k := 1) rfl hb
@[simp] theorem gc_new2 (m : Store) (x y : MObj) {o : MObj} (hb : o.bel m.length) : gc m (.ok (.ref (m.length + 2)) (m ++ [x, y, o])) = .ok (.ref m.length) (m ++ [o]) := gc_ref m [x, y, o] (k := 2) rfl hb
@[simp] theorem allocL_ok (m : Store) {ws : List W} (h : ws.length ≤ 16777216) : allocL ws m = .ok (.ref m.length) (m ++ [.lst ws]) := allocL_eq m h
def mn (a b : Int) : Int := if b < a then b else a
def mx (a b : Int) : Int := if b > a then b else a
def two (p q : Int × Int) : Q := if ltP q p = true then (q, p) else (p, q)
/-- the quartet told by four -/
def four (a b c d : Int) : Q := two (mn a b, mx a b) (mn c d, mx c d)
theorem sort2i (a b : Int) : sortW [.int a, .int b] = [.int (mn a b), .int (mx a b)] := by
  rw [sort2, lt_int]
  unfold mn mx
  by_cases h : b < a
  · have : ¬ b > a := by omega
    simp [h, this]
  · by_cases h2 : b > a
    · simp [h, h2]
    · have : a = b := by omega
      subst this; simp
theorem sort2p (p q : Int × Int) : W.tup (sortW [pW p, pW q]) = qW (two p q) := by
  rw [sort2, lt_pW]
  unfold two qW
  split <;> rfl
theorem cmp_2i (a b : Int) : comparable [.int a, .int b] := cmp_ints [a, b]
theorem cmp_2p (p q : Int × Int) : comparable [pW p, pW q] := cmp_ps [p, q]
end Ev

set_option Elab.async false
set_option linter.all false
set_option maxRecDepth 100000
set_option maxHeartbeats 4000000
/-! Ranges, zips, dicts made, two clauses; lists that a def fills. -/
namespace Ev
open PySem
open Classical
@[simp] theorem gc_exc0 (m : Store) (c : String) : gc m (.exc c [] m) = .exc c [] m := by
  unfold gc
  simp only
  rw [if_pos ⟨keepOld_refl m, belowL_nil (by simp)⟩]; simp
@[simp] theorem gc_exc1 (m e : Store) (c : String) : gc m (.exc c [] (m ++ e)) = .exc c [] m := by
  unfold gc
  simp only
  rw [if_pos ⟨keepOld_app m e, belowL_nil (by simp)⟩]; simp
def rangeI (i j : Int) : List Int := (List.range (j - i).toNat).map fun k => i + (k : Nat)
theorem rangeW_eq (i j : Int) : rangeW i j = (rangeI i j).map W.int := by simp [rangeW, rangeI]
theorem mem_rangeI {i j x : Int} : x ∈ rangeI i j ↔ i ≤ x ∧ x < j := by
  unfold rangeI
  rw [List.mem_map]
  constructor
  · rintro ⟨k, hk, rfl⟩
    have := List.mem_range.mp hk
    omega
  · rintro ⟨h1, h2⟩
    exact ⟨(x - i).toNat, List.mem_range.mpr (by omega), by omega⟩
theorem len_rangeI (i j : Int) : (rangeI i j).length = (j - i).toNat := by simp [rangeI]
section
variable {subc : String → String → Option Bool} {fieldsOf : String → List String} {call make : Call} {en : En} {m : Store}
theorem it_rng1 {a : E} {n : Int} (h : evE subc fieldsOf call make a en m = .ok (.int n) m) (hn : -(2 ^ 62) ≤ n ∧ n < 2 ^ 62) : evIt subc fieldsOf call make (.rng (.cons a .nil)) en m = .ok ⟨(rangeI 0 n).map W.int, []⟩ m := by
  show ((evEs subc fieldsOf call make (.cons a .nil) en m).bind fun ws m1 => (Res.of (ends ws) m1).bind fun p m1 => if -(2 ^ 62) ≤ p.1 ∧ p.1 < 2 ^ 62 ∧ -(2 ^ 62) ≤ p.2 ∧ p.2 < 2 ^ 62 then Res.ok (Walked.mk (rangeW p.1 p.2) []) m1 else .bad).bind (fun its m1 => gcI m its m1) = _
  rw [evEs_cons, h]
  simp only [kCons_ok, evEs_nil, kCons2_ok, Res.bind1, ends, Res.of_some]
  rw [if_pos ⟨by decide, by decide, hn.1, hn.2⟩, Res.bind1, rangeW_eq, gcI_keep m (by simp)]
  simp
theorem it_rng2 {a b : E} {i n : Int} (h : evE subc fieldsOf call make a en m = .ok (.int i) m) (k : evE subc fieldsOf call make b en m = .ok (.int n) m) (hi : -(2 ^ 62) ≤ i ∧ i < 2 ^ 62) (hn : -(2 ^ 62) ≤ n ∧ n < 2 ^ 62) : evIt subc fieldsOf call make (.rng (.cons a (.cons b .nil))) en m = .ok ⟨(rangeI i n).map W.int, []⟩ m := by
  show ((evEs subc fieldsOf call make (.cons a (.cons b .nil)) en m).bind fun ws m1 => (Res.of (ends ws) m1).bind fun p m1 => if -(2 ^ 62) ≤ p.1 ∧ p.1 < 2 ^ 62 ∧ -(2 ^ 62) ≤ p.2 ∧ p.2 < 2 ^ 62 then Res.ok (Walked.mk (rangeW p.1 p.2) []) m1 else .bad).bind (fun its m1 => gcI m its m1) = _
  rw [evEs_cons, h]
  simp only [kCons_ok, evEs_cons, k, evEs_nil, kCons2_ok, Res.bind1, ends, Res.of_some]
  rw [if_pos ⟨hi.1, hi.2, hn.1, hn.2⟩, Res.bind1, rangeW_eq, gcI_keep m (by simp)]
  simp
theorem it_zipT {a b : E} {xs ys : List W} (h : evE subc fieldsOf call make a en m = .ok (.tup xs) m) (k : evE subc fieldsOf call make b en m = .ok (.tup ys) m) (hx : W.refsL xs = []) (hy : W.refsL ys = []) :
    evIt subc fieldsOf call make (.zip a b) en m = .ok ⟨(xs.zip ys).map fun q => .tup [q.1, q.2], []⟩ m := by
  show ((evE subc fieldsOf call make a en m).bind fun x m1 => (evE subc fieldsOf call make b en m1).bind fun y m1 => (Res.of (twoSeq m1 x y) m1).bind fun p m1 =>
      if belowL m.length p.1 ∧ belowL m.length p.2 then Res.ok (Walked.mk ((p.1.zip p.2).map fun q => .tup [q.1, q.2]) (srcOf m1 x ++ srcOf m1 y)) m1 else .bad).bind (fun its m1 => gcI m its m1) = _
  rw [h, Res.bind1, k, Res.bind1]
  have e : twoSeq m (.tup xs) (.tup ys) = some (xs, ys) := rfl
  rw [e, Res.of_some, Res.bind1, if_pos ⟨belowL_nil hx, belowL_nil hy⟩, Res.bind1]
  have hz : W.refsL ((xs.zip ys).map fun q => .tup [q.1, q.2]) = [] := refsL_nil_iff.mpr fun w hw => by
    obtain ⟨q, hq, rfl⟩ := List.mem_map.mp hw
    have := List.of_mem_zip hq
    simp [refsL_nil_iff.mp hx _ this.1, refsL_nil_iff.mp hy _ this.2]
  rw [gcI_keep m hz]
  simp [srcOf]
@[simp] theorem it_enum (a : E) : evIt subc fieldsOf call make (.enum a) en m = ((evE subc fieldsOf call make a en m).bind fun x m1 => (Res.of (lstOf m1 x) m1).bind fun ws m1 => .ok (Walked.mk (ws.mapIdx fun i w => .tup [.int (i : Nat), w]) (srcOf m1 x)) m1).bind fun its m1 => gcI m its m1 := nr rfl
theorem it_enumL {a : E} {n : Nat} {ws : List W} (h : evE subc fieldsOf call make a en m = .ok (.ref n) m) (e : m[n]? = some (.lst ws)) (hb : W.refsL ws = []) :
    evIt subc fieldsOf call make (.enum a) en m = .ok ⟨ws.mapIdx fun i w => .tup [.int (i : Nat), w], [(n, some (.lst ws))]⟩ m := by
  have e1 : lstOf m (.ref n) = some ws := by simp [lstOf, iterOf, e]
  have hz : W.refsL (ws.mapIdx fun i w => .tup [.int (i : Nat), w]) = [] := refsL_nil_iff.mpr fun w hw => by
    obtain ⟨i, hi, rfl⟩ := List.mem_mapIdx.mp hw
    simp [refsL_nil_iff.mp hb _ (List.getElem_mem hi)]
  rw [it_enum, h, Res.bind1, e1, Res.of_some, Res.bind1, Res.bind1, gcI_keep m hz]
  have := lt_of_get e
  simp only [srcOf, e, List.filter_cons, decide_eq_true this, if_true, List.filter_nil]
theorem evS_for (t : Tg) (it : Wk) (b : Ss) (dead : List Nat) {its : Walked} {m1 : Store} (h : evIt subc fieldsOf call make it en m = .ok its m1) :
    evS subc fieldsOf call make (.for_ t it b dead) en m = forL m1 dead (stillAt its.srcs) t (evSs subc fieldsOf call make b) its.items en m1 := by
  show (evIt subc fieldsOf call make it en m).st (fun its m1 => forL m1 dead (stillAt its.srcs) t (evSs subc fieldsOf call make b) its.items en m1) = _
  rw [h]; rfl
/-- a for that goes on as long as q holds, and returns v at the first item of which it does not -/
theorem for_all {t : Tg} {it : Wk} {b : Ss} {dead : List Nat} {its : Walked} (q : W → Bool) (v : W) (hit : evIt subc fieldsOf call make it en m = .ok its m) (hs : stillAt its.srcs m) (hen : ∀ w, some w ∈ en → ∀ r ∈ w.refs, r < m.length)
    (h : ∀ w ∈ its.items, ∃ en1, bindT t w en = some en1 ∧ (q w = true → ∃ en2 e, (evSs subc fieldsOf call make b en1 m = .nx en2 (m ++ e) ∨ evSs subc fieldsOf call make b en1 m = .ct en2 (m ++ e)) ∧ wipeE en2 dead = en) ∧
      (q w = false → ∃ e, evSs subc fieldsOf call make b en1 m = .rt v (m ++ e))) :
    (its.items.all q = true → evS subc fieldsOf call make (.for_ t it b dead) en m = .nx en m) ∧ (its.items.all q = false → ∃ e, evS subc fieldsOf call make (.for_ t it b dead) en m = .rt v (m ++ e)) := by
  rw [evS_for t it b dead hit]
  have hst : stillAt its.srcs m := hs
  generalize hi : its.items = ws at h
  clear hi
  induction ws with
  | nil => exact ⟨fun _ => by simp [forL, hs], fun z => by simp at z⟩
  | cons w r ih =>
    obtain ⟨en1, e1, e2, e3⟩ := h w List.mem_cons_self
    obtain ⟨i1, i2⟩ := ih fun u hu => h u (List.mem_cons_of_mem _ hu)
    rw [forL, if_pos hst, e1, List.all_cons]
    cases hq : q w with
    | true =>
      obtain ⟨en2, e, f1, f2⟩ := e2 hq
      have hg : gcE m dead en2 (m ++ e) = (en, m) := by
        have := gcE_flat (dead := dead) (en := en2) (keepOld_app m e) (by rw [f2]; exact hen)
        rw [this, f2]; simp
      have go : (match evSs subc fieldsOf call make b en1 m with
        | .nx en' m' => forL m dead (stillAt its.srcs) t (evSs subc fieldsOf call make b) r (gcE m dead en' m').1 (gcE m dead en' m').2
        | .ct en' m' => forL m dead (stillAt its.srcs) t (evSs subc fieldsOf call make b) r (gcE m dead en' m').1 (gcE m dead en' m').2
        | .bk en m => .nx en m
        | r => r) = forL m dead (stillAt its.srcs) t (evSs subc fieldsOf call make b) r en m := by
        rcases f1 with f1 | f1 <;> simp only [f1, hg]
      simp only [Bool.true_and]
      exact ⟨fun z => go.trans (i1 z), fun z => let ⟨e, he⟩ := i2 z; ⟨e, go.trans he⟩⟩
    | false =>
      obtain ⟨e, f⟩ := e3 hq
      simp only [Bool.false_and]
      exact ⟨fun z => by simp at z, fun _ => ⟨e, by simp only [f]⟩⟩
/-- two clauses, no tests -/
theorem lc2_map {own : List Nat} {x : E} {t1 t2 : Tg} {it1 it2 : Wk} {its1 its2 : Walked} (g : W → W → W) (hit : evIt subc fieldsOf call make it1 en m = .ok its1 m) (hs : stillAt its1.srcs m) (hs2 : stillAt its2.srcs m)
    (ht : ∀ w ∈ its1.items, ∃ en1, bindT t1 w (wipeE en own) = some en1 ∧ evIt subc fieldsOf call make it2 en1 m = .ok its2 m ∧ ∀ u ∈ its2.items, ∃ en2, bindT t2 u (wipeE en1 t2.vars) = some en2 ∧ evE subc fieldsOf call make x en2 m = .ok (g w u) m)
    (hb : W.refsL (its1.items.flatMap fun w => its2.items.map (g w)) = []) (hc : (its1.items.flatMap fun w => its2.items.map (g w)).length ≤ cap) :
    evE subc fieldsOf call make (.lc own x (.cons t1 it1 .none (.cons t2 it2 .none .nil))) en m = .ok (.ref m.length) (m ++ [.lst (its1.items.flatMap fun w => its2.items.map (g w))]) := by
  show gc m (Res.calm (Res.bind (Res.bind (evIt subc fieldsOf call make it1 en m) fun its m1 => loopC (stillAt its.srcs) (fun w m => (match bindT t1 w (wipeE en own) with
    | none => .bad
    | some en => (evC subc fieldsOf call make .none en m).bind fun b m => if b = true then evG subc fieldsOf call make (.cons t2 it2 .none .nil) (fun en m => (evE subc fieldsOf call make x en m).bind fun w m => .ok [w] m) en m else .ok [] m)) its.items m1) fun ws m => allocL ws m)) = _
  rw [hit, Res.bind1, loopC_ok (g := fun w => its2.items.map (g w)) hs (fun w hw => ?_), Res.bind1, allocL_eq _ hc]
  · exact gc_new m (bel_flat hb)
  · obtain ⟨en1, e1, e2, e3⟩ := ht w hw
    simp only [e1, evC_none, Res.bind1, if_true]
    show (evIt subc fieldsOf call make it2 en1 m).bind (fun its m1 => loopC (stillAt its.srcs) (fun w m => (match bindT t2 w (wipeE en1 t2.vars) with
      | none => .bad
      | some en => (evC subc fieldsOf call make .none en m).bind fun b m => if b = true then evG subc fieldsOf call make .nil (fun en m => (evE subc fieldsOf call make x en m).bind fun w m => .ok [w] m) en m else .ok [] m)) its.items m1) = _
    rw [e2, Res.bind1, loopC_ok (g := fun u => [g w u]) hs2 (fun u hu => ?_)]
    · congr 1
      induction its2.items with
      | nil => rfl
      | cons a r ih => simp [ih]
    · obtain ⟨en2, f1, f2⟩ := e3 u hu
      simp only [f1, evC_none, Res.bind1, if_true]
      show (evE subc fieldsOf call make x en2 m).bind (fun w m => Res.ok [w] m) = _
      rw [f2]; rfl
/-- a dict of things, each told True -/
theorem dc_ok {own : List Nat} {k x : E} {t : Tg} {it : Wk} {its : Walked} (gk gv : W → W) (hit : evIt subc fieldsOf call make it en m = .ok its m) (hs : stillAt its.srcs m)
    (ht : ∀ w ∈ its.items, ∃ en1, bindT t w (wipeE en own) = some en1 ∧ evE subc fieldsOf call make k en1 m = .ok (gk w) m ∧ evE subc fieldsOf call make x en1 m = .ok (gv w) m)
    (hk : ∀ w ∈ its.items, okKey (gk w) (its.items.map fun w => (gk w, gv w))) (hc : its.items.length ≤ cap) (hb : ∀ w ∈ its.items, (gk w).refs = [] ∧ (gv w).refs = []) :
    evE subc fieldsOf call make (.dc own k x (.cons t it .none .nil)) en m = .ok (.ref m.length) (m ++ [.dct ((its.items.map fun w => (gk w, gv w)).foldl (fun d p => putK p.1 p.2 d) [])]) := by
  show gc m (Res.calm (Res.bind (Res.bind (evIt subc fieldsOf call make it en m) fun its m1 => loopC (stillAt its.srcs) (fun w m => (match bindT t w (wipeE en own) with
    | none => .bad
    | some en => (evC subc fieldsOf call make .none en m).bind fun b m => if b = true then (evE subc fieldsOf call make k en m).bind fun kw m => (evE subc fieldsOf call make x en m).bind fun w m => .ok [.tup [kw, w]] m else .ok [] m)) its.items m1) fun ws m => match pairsOf ws with
    | some kvs => if (∀ p ∈ kvs, okKey p.1 kvs) ∧ kvs.length ≤ cap then alloc (.dct (kvs.foldl (fun d p => putK p.1 p.2 d) [])) m else .bad
    | none => .bad)) = _
  rw [hit, Res.bind1, loopC_ok (g := fun w => [.tup [gk w, gv w]]) hs (fun w hw => ?_), Res.bind1]
  · have e : pairsOf (its.items.flatMap fun w => [.tup [gk w, gv w]]) = some (its.items.map fun w => (gk w, gv w)) := by
      clear ht hk hc hs hit hb
      induction its.items with
      | nil => rfl
      | cons w r ih =>
        rw [List.flatMap_cons]
        show Option.map _ (pairsOf (r.flatMap fun w => [.tup [gk w, gv w]])) = _
        rw [ih]; rfl
    rw [e]
    simp only
    rw [if_pos ⟨fun p hp => by
      obtain ⟨w, hw, rfl⟩ := List.mem_map.mp hp
      exact hk w hw, by simpa using hc⟩]
    refine gc_new m ?_
    have key : ∀ (l : List (W × W)) (d : List (W × W)), (∀ p ∈ l, p.1.refs = [] ∧ p.2.refs = []) → (∀ p ∈ d, p.1.refs = [] ∧ p.2.refs = []) → ∀ p ∈ l.foldl (fun d p => putK p.1 p.2 d) d, p.1.refs = [] ∧ p.2.refs = [] := by
      intro l
      induction l with
      | nil => intro d _ h; exact h
      | cons q r ih =>
        intro d h1 h2
        rw [List.foldl_cons]
        refine ih _ (fun p hp => h1 p (List.mem_cons_of_mem _ hp)) ?_
        have hq := h1 q List.mem_cons_self
        clear ih h1
        induction d with
        | nil => intro p hp; simp [putK] at hp; subst hp; exact hq
        | cons e d ihd =>
          intro p hp
          rw [putK] at hp
          split at hp
          · rcases List.mem_cons.mp hp with rfl | hp
            · exact ⟨(h2 e List.mem_cons_self).1, hq.2⟩
            · exact h2 p (List.mem_cons_of_mem _ hp)
          · rcases List.mem_cons.mp hp with rfl | hp
            · exact h2 e List.mem_cons_self
            · exact ihd (fun p hp => h2 p (List.mem_cons_of_mem _ hp)) p hp
    have h0 := key (its.items.map fun w => (gk w, gv w)) [] (fun p hp => by
      obtain ⟨w, hw, rfl⟩ := List.mem_map.mp hp
      exact hb w hw) (fun p hp => by cases hp)
    intro r hr
    have hr : r ∈ W.refsL (((its.items.map fun w => (gk w, gv w)).foldl (fun d p => putK p.1 p.2 d) []).map (·.1)) ++ W.refsL (((its.items.map fun w => (gk w, gv w)).foldl (fun d p => putK p.1 p.2 d) []).map (·.2)) := hr
    rcases List.mem_append.mp hr with hr | hr
    · obtain ⟨w, hw, hr⟩ := mem_refsL.mp hr
      obtain ⟨p, hp, rfl⟩ := List.mem_map.mp hw
      rw [(h0 p hp).1] at hr; cases hr
    · obtain ⟨w, hw, hr⟩ := mem_refsL.mp hr
      obtain ⟨p, hp, rfl⟩ := List.mem_map.mp hw
      rw [(h0 p hp).2] at hr; cases hr
  · obtain ⟨en1, e1, e2, e3⟩ := ht w hw
    simp only [e1, evC_none, Res.bind1, if_true, e2, e3]
end
/-- the keys of a dict that is filled from nothing -/
theorem keys_foldl : ∀ (l d : List (W × W)), ((l.map (·.1)).Nodup) → (∀ p ∈ l, p.1 ∉ d.map (·.1)) → l.foldl (fun d p => putK p.1 p.2 d) d = d ++ l
  | [], d, _, _ => by simp
  | p :: r, d, h, hd => by
    rw [List.map_cons, List.nodup_cons] at h
    have e : putK p.1 p.2 d = d ++ [p] := by
      have hp := hd p List.mem_cons_self
      clear hd h
      induction d with
      | nil => rfl
      | cons q d ih =>
        simp only [List.map_cons, List.mem_cons, not_or] at hp
        rw [putK, if_neg (fun z => hp.1 z.symm), ih hp.2]; rfl
    rw [List.foldl_cons, e, keys_foldl r _ h.2 fun q hq => by
      simp only [List.map_append, List.mem_append, List.map_cons, List.map_nil, List.mem_singleton, not_or]
      refine ⟨hd q (List.mem_cons_of_mem _ hq), fun z => h.1 ?_⟩
      rw [← z]
      exact List.mem_map.mpr ⟨q, hq, rfl⟩]
    simp
/-! turn by turn -/
noncomputable def forR (m0 : Store) (dead : List Nat) (still : Store → Prop) (t : Tg) (body : En → Store → SR) (r : List W) : SR → SR
  | .nx en m => forL m0 dead still t body r (gcE m0 dead en m).1 (gcE m0 dead en m).2
  | .ct en m => forL m0 dead still t body r (gcE m0 dead en m).1 (gcE m0 dead en m).2
  | .bk en m => .nx en m
  | x => x
section
variable {m0 : Store} {dead : List Nat} {still : Store → Prop} {t : Tg} {body : En → Store → SR} {r : List W} (en : En) (m : Store)
@[simp] theorem forR_nx : forR m0 dead still t body r (.nx en m) = forL m0 dead still t body r (gcE m0 dead en m).1 (gcE m0 dead en m).2 := nr rfl
@[simp] theorem forR_ct : forR m0 dead still t body r (.ct en m) = forL m0 dead still t body r (gcE m0 dead en m).1 (gcE m0 dead en m).2 := nr rfl
@[simp] theorem forR_bk : forR m0 dead still t body r (.bk en m) = .nx en m := nr rfl
@[simp] theorem forR_rt (w : W) : forR m0 dead still t body r (.rt w m) = .rt w m := nr rfl
@[simp] theorem forR_exc (c : String) (ws : List W) : forR m0 dead still t body r (.exc c ws m) = .exc c ws m := nr rfl
@[simp] theorem forR_ite {cc : Prop} [Decidable cc] (a b : SR) : forR m0 dead still t body r (if cc then a else b) = if cc then forR m0 dead still t body r a else forR m0 dead still t body r b := by split <;> rfl
@[simp] theorem forL_nil (h : still m) : forL m0 dead still t body [] en m = .nx en m := by simp [forL, h]
@[simp] theorem forL_cons {w : W} {en1 : En} (h : still m) (hb : bindT t w en = some en1) : forL m0 dead still t body (w :: r) en m = forR m0 dead still t body r (body en1 m) := by
  rw [forL, if_pos h, hb]
  simp only
  cases body en1 m <;> rfl
end
@[simp] theorem idx_q0 (m : Store) (q : Q) : evIdx (qW q) (.int 0) m = .ok (pW q.1) m := by simp [qW, L2.atI, L2.ixN]
@[simp] theorem idx_q1 (m : Store) (q : Q) : evIdx (qW q) (.int 1) m = .ok (pW q.2) m := by simp [qW, L2.atI, L2.ixN]
@[simp] theorem idx_p0 (m : Store) (q : Int × Int) : evIdx (pW q) (.int 0) m = .ok (.int q.1) m := by simp [pW, L2.atI, L2.ixN]
@[simp] theorem idx_p1 (m : Store) (q : Int × Int) : evIdx (pW q) (.int 1) m = .ok (.int q.2) m := by simp [pW, L2.atI, L2.ixN]
@[simp] theorem bindT_p (ts : List Tg) (p : Int × Int) (en : En) : bindT (.t ts) (pW p) en = bindTs ts [.int p.1, .int p.2] en := by simp [pW]
@[simp] theorem add_pp (m : Store) (p q : Int × Int) : evBin .add (pW p) (pW q) m = .ok (.tup [.int p.1, .int p.2, .int q.1, .int q.2]) m := by simp [pW]
/-! all names lead low -/
def enLow (n : Nat) : En → Prop
  | [] => True
  | none :: r => enLow n r
  | some w :: r => (∀ q ∈ w.refs, q < n) ∧ enLow n r
@[simp] theorem enLow_nil (n : Nat) : enLow n [] := by rw [enLow]; trivial
@[simp] theorem enLow_none (n : Nat) (r : En) : enLow n (none :: r) ↔ enLow n r := ⟨id, id⟩
@[simp] theorem enLow_some (n : Nat) (w : W) (r : En) : enLow n (some w :: r) ↔ (∀ q ∈ w.refs, q < n) ∧ enLow n r := ⟨id, id⟩
theorem enLow_iff {n : Nat} : ∀ {en : En}, enLow n en ↔ ∀ w, some w ∈ en → ∀ r ∈ w.refs, r < n
  | [] => by simp
  | none :: r => by rw [enLow_none, enLow_iff]; simp
  | some w :: r => by
    rw [enLow_some, enLow_iff]
    constructor
    · rintro ⟨h1, h2⟩ u hu
      rcases List.mem_cons.mp hu with e | hu
      · cases e; exact h1
      · exact h2 u hu
    · intro h
      exact ⟨h w List.mem_cons_self, fun u hu => h u (List.mem_cons_of_mem _ hu)⟩
/-! a list that a def fills, at the store's end -/
section
variable (m : Store)
@[simp] theorem set_new (x o : MObj) (e : Store) : (m ++ x :: e).set m.length o = m ++ o :: e := by
  rw [List.set_append_right _ _ (Nat.le_refl _)]; simp
@[simp] theorem recv_app {n : Nat} {ws : List W} (h : m[n]? = some (.lst ws)) : recvOk .append (.ref n) m := ⟨ws, h⟩
@[simp] theorem recv_ext {n : Nat} {ws : List W} (h : m[n]? = some (.lst ws)) : recvOk .extend (.ref n) m := ⟨ws, h⟩
@[simp] theorem recv_pop {n : Nat} {ws : List W} (h : m[n]? = some (.lst ws)) : recvOk .pop (.ref n) m := ⟨ws, h⟩
@[simp] theorem mt_app {n : Nat} {ws : List W} (h : m[n]? = some (.lst ws)) (hc : ws.length < 16777216) (w : W) : evMt .append (.ref n) [w] m = .ok .non (m.set n (.lst (ws ++ [w]))) := by simp [evMt, evAppend, h]; exact hc
@[simp] theorem mt_ext {n k : Nat} {ws us : List W} (h : m[n]? = some (.lst ws)) (h2 : m[k]? = some (.lst us)) (hc : ws.length + us.length ≤ 16777216) : evMt .extend (.ref n) [.ref k] m = .ok .non (m.set n (.lst (ws ++ us))) := by simp [evMt, evExtend, h, h2]; exact hc
@[simp] theorem gc_upd1 {o0 o1 : MObj} {e : Store} {w : W} (hb : o1.bel (m.length + 1)) (hw : w.refs = []) : gc (m ++ [o0]) (.ok w (m ++ o1 :: e)) = .ok w (m ++ [o1]) := by
  have := gc_mut (m := m ++ [o0]) (m1 := m ++ [o1]) e (w := w) (by simp) (fun i o hi => ?_) (by rw [hw]; simp)
  · simpa using this
  · by_cases h : i < m.length
    · rw [List.getElem?_append_left h] at hi ⊢
      exact .inl hi
    · right
      rw [List.getElem?_append_right (by omega)] at hi
      have hm := List.mem_of_getElem? hi
      rw [List.mem_singleton.mp hm]
      simpa using hb
@[simp] theorem gcE_upd1 {dead : List Nat} {en : En} {o0 o1 : MObj} {e : Store} (hb : o1.bel (m.length + 1)) (hw : enLow (m.length + 1) (wipeE en dead)) : gcE (m ++ [o0]) dead en (m ++ o1 :: e) = (wipeE en dead, m ++ [o1]) := by
  rw [gcE_flat ?_ (by simpa using enLow_iff.mp hw)]
  · rw [show m ++ o1 :: e = (m ++ [o1]) ++ e by simp, List.take_append_of_le_length (by simp), List.take_of_length_le (by simp)]
  · intro i hi
    simp at hi
    by_cases h : i < m.length
    · exact ⟨m[i], by rw [List.getElem?_append_left h, List.getElem?_eq_getElem h], .inl (by rw [List.getElem?_append_left h, List.getElem?_eq_getElem h])⟩
    · obtain rfl : i = m.length := by omega
      exact ⟨o1, by simp, .inr (by simpa using hb)⟩
@[simp] theorem gcE_keep {dead : List Nat} {en : En} (e : Store) (hw : enLow m.length (wipeE en dead)) : gcE m dead en (m ++ e) = (wipeE en dead, m) := by
  rw [gcE_flat (keepOld_app m e) (enLow_iff.mp hw)]; simp
@[simp] theorem gcE_same {dead : List Nat} {en : En} (hw : enLow m.length (wipeE en dead)) : gcE m dead en m = (wipeE en dead, m) := by
  simpa using gcE_keep m [] hw
end
end Ev

set_option Elab.async false
set_option linter.all false
set_option maxRecDepth 100000
set_option maxHeartbeats 4000000
/-! The same, the items being images. -/
namespace Ev
open PySem
open Classical
@[simp] theorem gc_new_b1 (m : Store) (x : MObj) {o : MObj} (hb : o.bel (m.length + 1)) : gc (m ++ [x]) (.ok (.ref (m.length + 1)) (m ++ [x, o])) = .ok (.ref (m.length + 1)) (m ++ [x, o]) := by
  have := gc_new (m ++ [x]) (o := o) (by simpa using hb)
  simpa using this
@[simp] theorem gc_new1_b1 (m : Store) (x y : MObj) {o : MObj} (hb : o.bel (m.length + 1)) : gc (m ++ [x]) (.ok (.ref (m.length + 2)) (m ++ [x, y, o])) = .ok (.ref (m.length + 1)) (m ++ [x, o]) := by
  have := gc_new1 (m ++ [x]) y (o := o) (by simpa using hb)
  simpa using this
@[simp] theorem gc_new_b2 (m : Store) (x y : MObj) {o : MObj} (hb : o.bel (m.length + 2)) : gc (m ++ [x, y]) (.ok (.ref (m.length + 2)) (m ++ [x, y, o])) = .ok (.ref (m.length + 2)) (m ++ [x, y, o]) := by
  have := gc_new (m ++ [x, y]) (o := o) (by simpa using hb)
  simpa using this
@[simp] theorem part_none : part none = some none := nr rfl
@[simp] theorem part_int (i : Int) : part (some (.int i)) = some (some i) := nr rfl
@[simp] theorem slc_tup (m : Store) (ws : List W) (a b : Option Int) : evSlc (.tup ws) a b m = .ok (.tup (cut ws a b)) m := nr rfl
@[simp] theorem slc_lst (m : Store) {n : Nat} {ws : List W} (h : m[n]? = some (.lst ws)) (a b : Option Int) : evSlc (.ref n) a b m = .ok (.ref m.length) (m ++ [.lst (cut ws a b)]) := by simp [evSlc, h]
theorem cut_from {α : Type} (ws : List α) (k : Nat) : cut ws (some (k : Int)) none = ws.drop k := by
  unfold cut
  rw [HT.sIx_none, HT.sIx_nat]
  by_cases h : k ≤ ws.length
  · rw [Nat.min_eq_left h, List.take_of_length_le (by simp)]
  · rw [Nat.min_eq_right (by omega), List.drop_of_length_le (Nat.le_refl _), List.drop_of_length_le (by omega), List.take_nil]
@[simp] theorem cut_1 {α : Type} (ws : List α) : cut ws (some 1) none = ws.tail := by
  rw [show (1 : Int) = ((1 : Nat) : Int) from rfl, cut_from, List.drop_one]
theorem cut_to {α : Type} (ws : List α) (k : Nat) : cut ws none (some (k : Int)) = ws.take k := by
  unfold cut
  rw [HT.sIx_nat]
  show (ws.drop 0).take _ = _
  rw [List.drop_zero]
  show ws.take (min k ws.length - 0) = _
  rw [Nat.sub_zero, ← List.take_eq_take_min]
@[simp] theorem cut_t1 {α : Type} (ws : List α) : cut ws none (some 1) = ws.take 1 := cut_to ws 1
@[simp] theorem refsL_tail {ws : List W} (h : W.refsL ws = []) : W.refsL ws.tail = [] := refsL_nil_iff.mpr fun w hw => refsL_nil_iff.mp h w (List.mem_of_mem_tail hw)
@[simp] theorem refsL_drop {ws : List W} (k : Nat) (h : W.refsL ws = []) : W.refsL (ws.drop k) = [] := refsL_nil_iff.mpr fun w hw => refsL_nil_iff.mp h w (List.mem_of_mem_drop hw)
@[simp] theorem refsL_take {ws : List W} (k : Nat) (h : W.refsL ws = []) : W.refsL (ws.take k) = [] := refsL_nil_iff.mpr fun w hw => refsL_nil_iff.mp h w (List.mem_of_mem_take hw)
theorem flatMap_map {α β γ : Type} (g : β → γ) (f : α → List β) (l : List α) : l.flatMap (fun a => (f a).map g) = (l.flatMap f).map g := by
  induction l with
  | nil => rfl
  | cons a r ih => rw [List.flatMap_cons, ih, List.flatMap_cons, List.map_append]
theorem refsL_sub {ws us : List W} (h : W.refsL ws = []) (k : ∀ w ∈ us, w ∈ ws) : W.refsL us = [] := refsL_nil_iff.mpr fun w hw => refsL_nil_iff.mp h w (k w hw)
@[simp] theorem all_newf {α : Type} (m e : Store) {f : List Bool → Bool} {l : List α} {b : α → Bool} : evAll f (.ref m.length) (m ++ .lst (l.map fun a => W.bl (b a)) :: e) = .ok (.bl (f (l.map b))) (m ++ .lst (l.map fun a => W.bl (b a)) :: e) :=
  all_lst _ (bs := l.map b) (by rw [List.map_map]; simp [Function.comp_def])
@[simp] theorem all_newff {α β : Type} (m e : Store) {f : List Bool → Bool} {l : List α} {l2 : List β} {b : α → β → Bool} : evAll f (.ref m.length) (m ++ .lst (l.flatMap fun a => l2.map fun c => W.bl (b a c)) :: e) = .ok (.bl (f (l.flatMap fun a => l2.map (b a)))) (m ++ .lst (l.flatMap fun a => l2.map fun c => W.bl (b a c)) :: e) :=
  all_lst _ (bs := l.flatMap fun a => l2.map (b a)) (by
    rw [List.map_flatMap]
    simp only [List.map_map]
    simp [Function.comp_def])
section
variable {subc : String → String → Option Bool} {fieldsOf : String → List String} {call make : Call} {en : En} {m : Store} {α β : Type}
theorem lcm {own : List Nat} {x : E} {t : Tg} {it : Wk} {srcs : List Src} (f : α → W) (l : List α) (g : α → W) (hit : evIt subc fieldsOf call make it en m = .ok ⟨l.map f, srcs⟩ m) (hs : stillAt srcs m)
    (ht : ∀ a ∈ l, ∃ en1, bindT t (f a) (wipeE en own) = some en1 ∧ evE subc fieldsOf call make x en1 m = .ok (g a) m) (hb : ∀ a ∈ l, (g a).refs = []) (hc : l.length ≤ cap) :
    evE subc fieldsOf call make (.lc own x (.cons t it .none .nil)) en m = .ok (.ref m.length) (m ++ [.lst (l.map g)]) := by
  have e : (l.map f).flatMap (fun w => match ((evE subc fieldsOf call make x ((bindT t w (wipeE en own)).getD []) m) : Res W) with | .ok v _ => [v] | _ => []) = l.map g := by
    clear hit hb hc
    induction l with
    | nil => rfl
    | cons a r ih =>
      obtain ⟨en1, e1, e2⟩ := ht a List.mem_cons_self
      rw [List.map_cons, List.flatMap_cons, ih fun b hb => ht b (List.mem_cons_of_mem _ hb), e1, Option.getD_some, e2]; rfl
  have := lc_ok (own := own) (x := x) (t := t) (it := it) (c := .none) (its := ⟨l.map f, srcs⟩) (fun w => match ((evE subc fieldsOf call make x ((bindT t w (wipeE en own)).getD []) m) : Res W) with | .ok v _ => [v] | _ => []) hit hs (fun w hw => by
    obtain ⟨a, ha, rfl⟩ := List.mem_map.mp hw
    obtain ⟨en1, e1, e2⟩ := ht a ha
    simp only [turnX, e1, evC_none, Res.bind1, if_true, e2, Option.getD_some]) (by
      rw [e]
      exact refsL_nil_iff.mpr fun w hw => by obtain ⟨a, ha, rfl⟩ := List.mem_map.mp hw; exact hb a ha) (by rw [e]; simpa using hc)
  rw [this, e]
theorem lcf {own : List Nat} {x : E} {t : Tg} {it : Wk} {c : E} {srcs : List Src} (f : α → W) (l : List α) (p : α → Bool) (g : α → W) (hit : evIt subc fieldsOf call make it en m = .ok ⟨l.map f, srcs⟩ m) (hs : stillAt srcs m)
    (ht : ∀ a ∈ l, ∃ en1, bindT t (f a) (wipeE en own) = some en1 ∧ kC (evE subc fieldsOf call make c en1 m) = .ok (p a) m ∧ (p a = true → evE subc fieldsOf call make x en1 m = .ok (g a) m)) (hb : ∀ a ∈ l, p a = true → (g a).refs = []) (hc : l.length ≤ cap) :
    evE subc fieldsOf call make (.lc own x (.cons t it (.some c) .nil)) en m = .ok (.ref m.length) (m ++ [.lst ((l.filter p).map g)]) := by
  have e : (l.map f).flatMap (fun w => match turnX subc fieldsOf call make own t (.some c) x en w m with | .ok v _ => v | _ => []) = (l.filter p).map g := by
    clear hit hb hc
    induction l with
    | nil => rfl
    | cons a r ih =>
      obtain ⟨en1, e1, e2, e3⟩ := ht a List.mem_cons_self
      rw [List.map_cons, List.flatMap_cons, ih fun b hb => ht b (List.mem_cons_of_mem _ hb), List.filter_cons]
      simp only [turnX, e1, evC_some, e2, Res.bind1]
      by_cases h : p a = true
      · simp only [h, if_true, e3 h, Res.bind1, List.map_cons]; rfl
      · simp only [h, if_false]; simp
  have := lc_ok (own := own) (x := x) (t := t) (it := it) (c := .some c) (its := ⟨l.map f, srcs⟩) (fun w => match turnX subc fieldsOf call make own t (.some c) x en w m with | .ok v _ => v | _ => []) hit hs (fun w hw => by
    obtain ⟨a, ha, rfl⟩ := List.mem_map.mp hw
    obtain ⟨en1, e1, e2, e3⟩ := ht a ha
    simp only [turnX, e1, evC_some, e2, Res.bind1]
    by_cases h : p a = true
    · simp only [h, if_true, e3 h, Res.bind1]
    · simp only [h, if_false]; simp) (by
      rw [e]
      exact refsL_nil_iff.mpr fun w hw => by
        obtain ⟨a, ha, rfl⟩ := List.mem_map.mp hw
        obtain ⟨h1, h2⟩ := List.mem_filter.mp ha
        exact hb a h1 h2) (by rw [e]; exact Nat.le_trans (by simpa using List.length_filter_le _ _) hc)
  rw [this, e]
theorem loopC_im {still : Store → Prop} {F : W → Store → Res (List W)} (hs : still m) (f : α → W) (G : α → List W) : ∀ (l : List α), (∀ a ∈ l, F (f a) m = .ok (G a) m) → loopC still F (l.map f) m = .ok (l.flatMap G) m
  | [], _ => by simp [loopC, hs]
  | a :: r, h => by
    rw [List.map_cons, loopC, if_pos hs, h a List.mem_cons_self, Res.bind1, loopC_im hs f G r fun b hb => h b (List.mem_cons_of_mem _ hb), Res.bind1, List.flatMap_cons]
theorem flatMap_one (g : α → β) (l : List α) : l.flatMap (fun a => [g a]) = l.map g := by
  induction l with
  | nil => rfl
  | cons a r ih => rw [List.flatMap_cons, ih]; rfl
theorem lc2m {own : List Nat} {x : E} {t1 t2 : Tg} {it1 it2 : Wk} {srcs1 srcs2 : List Src} (f1 : α → W) (l1 : List α) (f2 : β → W) (l2 : List β) (g : α → β → W) (hit : evIt subc fieldsOf call make it1 en m = .ok ⟨l1.map f1, srcs1⟩ m) (hs : stillAt srcs1 m) (hs2 : stillAt srcs2 m)
    (ht : ∀ a ∈ l1, ∃ en1, bindT t1 (f1 a) (wipeE en own) = some en1 ∧ evIt subc fieldsOf call make it2 en1 m = .ok ⟨l2.map f2, srcs2⟩ m ∧ ∀ b ∈ l2, ∃ en2, bindT t2 (f2 b) (wipeE en1 t2.vars) = some en2 ∧ evE subc fieldsOf call make x en2 m = .ok (g a b) m)
    (hb : ∀ a ∈ l1, ∀ b ∈ l2, (g a b).refs = []) (hc : l1.length * l2.length ≤ cap) :
    evE subc fieldsOf call make (.lc own x (.cons t1 it1 .none (.cons t2 it2 .none .nil))) en m = .ok (.ref m.length) (m ++ [.lst (l1.flatMap fun a => l2.map (g a))]) := by
  have hcount : (l1.flatMap fun a => l2.map (g a)).length = l1.length * l2.length := by
    clear hit hb hc ht
    induction l1 with
    | nil => simp
    | cons a r ih => simp only [List.flatMap_cons, List.length_append, List.length_map, List.length_cons, ih, Nat.add_mul, Nat.one_mul]; omega
  have inner : ∀ a ∈ l1, ∀ en1, bindT t1 (f1 a) (wipeE en own) = some en1 → evG subc fieldsOf call make (.cons t2 it2 .none .nil) (fun en m => (evE subc fieldsOf call make x en m).bind fun w m => .ok [w] m) en1 m = .ok (l2.map (g a)) m := by
    intro a ha en1 e1
    obtain ⟨en1', e1', e2, e3⟩ := ht a ha
    rw [e1] at e1'; cases e1'
    show (evIt subc fieldsOf call make it2 en1 m).bind (fun its m1 => loopC (stillAt its.srcs) (fun w m => (match bindT t2 w (wipeE en1 t2.vars) with
      | none => .bad
      | some en => (evC subc fieldsOf call make .none en m).bind fun b m => if b = true then evG subc fieldsOf call make .nil (fun en m => (evE subc fieldsOf call make x en m).bind fun w m => .ok [w] m) en m else .ok [] m)) its.items m1) = _
    rw [e2, Res.bind1, loopC_im hs2 f2 (fun b => [g a b]) l2 fun b hb => ?_, flatMap_one]
    obtain ⟨en2, k1, k2⟩ := e3 b hb
    simp only [k1, evC_none, Res.bind1, if_true]
    show (evE subc fieldsOf call make x en2 m).bind (fun w m => Res.ok [w] m) = _
    rw [k2]; rfl
  show gc m (Res.calm (Res.bind (Res.bind (evIt subc fieldsOf call make it1 en m) fun its m1 => loopC (stillAt its.srcs) (fun w m => (match bindT t1 w (wipeE en own) with
    | none => .bad
    | some en => (evC subc fieldsOf call make .none en m).bind fun b m => if b = true then evG subc fieldsOf call make (.cons t2 it2 .none .nil) (fun en m => (evE subc fieldsOf call make x en m).bind fun w m => .ok [w] m) en m else .ok [] m)) its.items m1) fun ws m => allocL ws m)) = _
  rw [hit, Res.bind1, loopC_im hs f1 (fun a => l2.map (g a)) l1 fun a ha => ?_, Res.bind1, allocL_eq _ (by rw [hcount]; exact hc)]
  rotate_left
  · obtain ⟨en1, k1, _⟩ := ht a ha
    simp only [k1, evC_none, Res.bind1, if_true]
    exact inner a ha en1 k1
  refine gc_new m (bel_flat (refsL_nil_iff.mpr fun w hw => ?_))
  obtain ⟨a, ha, hw⟩ := List.mem_flatMap.mp hw
  obtain ⟨b, hb', rfl⟩ := List.mem_map.mp hw
  exact hb a ha b hb'
/-- a for that goes on as long as q holds, and returns v at the first item of which it does not -/
theorem form {t : Tg} {it : Wk} {b : Ss} {dead : List Nat} {srcs : List Src} (f : α → W) (l : List α) (q : α → Bool) (v : W) (hit : evIt subc fieldsOf call make it en m = .ok ⟨l.map f, srcs⟩ m) (hs : stillAt srcs m) (hen : enLow m.length en)
    (h : ∀ a ∈ l, ∃ en1 en2 e e', bindT t (f a) en = some en1 ∧ wipeE en2 dead = en ∧ evSs subc fieldsOf call make b en1 m = if q a = true then .nx en2 (m ++ e) else .rt v (m ++ e')) :
    (l.all q = true → evS subc fieldsOf call make (.for_ t it b dead) en m = .nx en m) ∧ (l.all q = false → ∃ e, evS subc fieldsOf call make (.for_ t it b dead) en m = .rt v (m ++ e)) := by
  rw [evS_for t it b dead hit]
  simp only
  clear hit
  induction l with
  | nil => exact ⟨fun _ => by simp [forL, hs], fun z => by simp at z⟩
  | cons a r ih =>
    obtain ⟨en1, en2, e, e', e1, f2, e3⟩ := h a List.mem_cons_self
    obtain ⟨i1, i2⟩ := ih fun u hu => h u (List.mem_cons_of_mem _ hu)
    rw [List.map_cons, forL_cons en m hs e1, List.all_cons, e3]
    cases hq : q a with
    | true =>
      have hg : gcE m dead en2 (m ++ e) = (en, m) := by
        have := gcE_keep m (dead := dead) (en := en2) e (by rw [f2]; exact hen)
        rw [this, f2]
      simp only [Bool.true_and, if_true, forR_nx, hg]
      exact ⟨i1, i2⟩
    | false =>
      simp only [Bool.false_and, Bool.false_eq_true, if_false, forR_rt]
      exact ⟨fun z => by simp at z, fun _ => ⟨e', rfl⟩⟩
theorem form_use {G : SR → Prop} {t : Tg} {it : Wk} {b : Ss} {dead : List Nat} {srcs : List Src} (f : α → W) (l : List α) (q : α → Bool) (v : W) (hit : evIt subc fieldsOf call make it en m = .ok ⟨l.map f, srcs⟩ m) (hs : stillAt srcs m) (hen : enLow m.length en)
    (h : ∀ a ∈ l, ∃ en1 en2 e e', bindT t (f a) en = some en1 ∧ wipeE en2 dead = en ∧ evSs subc fieldsOf call make b en1 m = if q a = true then .nx en2 (m ++ e) else .rt v (m ++ e'))
    (h1 : l.all q = true → G (.nx en m)) (h2 : l.all q = false → ∀ e, G (.rt v (m ++ e))) : G (evS subc fieldsOf call make (.for_ t it b dead) en m) := by
  obtain ⟨f1, f2⟩ := form (b := b) (dead := dead) f l q v hit hs hen h
  cases hq : l.all q with
  | true => rw [f1 hq]; exact h1 hq
  | false => obtain ⟨e, he⟩ := f2 hq; rw [he]; exact h2 hq e
/-- a for that fills the list at the store's end -/
theorem forA {t : Tg} {it : Wk} {b : Ss} {dead : List Nat} {srcs : List Src} {o : List W} (f : α → W) (l : List α) (g : α → List W) (hit : evIt subc fieldsOf call make it en (m ++ [.lst o]) = .ok ⟨l.map f, srcs⟩ (m ++ [.lst o])) (hs : ∀ o, stillAt srcs (m ++ [.lst o])) (hen : enLow (m.length + 1) en)
    (h : ∀ a ∈ l, ∃ en1, bindT t (f a) en = some en1 ∧ ∀ acc : List W, W.refsL acc = [] → acc.length ≤ o.length + (l.flatMap g).length → ∃ en2 e, (evSs subc fieldsOf call make b en1 (m ++ [.lst acc]) = .nx en2 (m ++ .lst (acc ++ g a) :: e) ∨ evSs subc fieldsOf call make b en1 (m ++ [.lst acc]) = .ct en2 (m ++ .lst (acc ++ g a) :: e)) ∧ wipeE en2 dead = en)
    (hb : W.refsL o = []) (hg : ∀ a ∈ l, W.refsL (g a) = []) :
    evS subc fieldsOf call make (.for_ t it b dead) en (m ++ [.lst o]) = .nx en (m ++ [.lst (o ++ l.flatMap g)]) := by
  rw [evS_for t it b dead hit]
  simp only
  clear hit
  have key : ∀ (r : List α) (acc : List W), (∀ a ∈ r, a ∈ l) → W.refsL acc = [] → acc.length + (r.flatMap g).length ≤ o.length + (l.flatMap g).length → forL (m ++ [.lst o]) dead (stillAt srcs) t (evSs subc fieldsOf call make b) (r.map f) en (m ++ [.lst acc]) = .nx en (m ++ [.lst (acc ++ r.flatMap g)]) := by
    intro r
    induction r with
    | nil => intro acc _ _ _; simp [hs acc]
    | cons a r ih =>
      intro acc hl ha hn
      obtain ⟨en1, e1, e2⟩ := h a (hl a List.mem_cons_self)
      obtain ⟨en2, e, f1, f2⟩ := e2 acc ha (by omega)
      have hga := hg a (hl a List.mem_cons_self)
      have hG : gcE (m ++ [.lst o]) dead en2 (m ++ .lst (acc ++ g a) :: e) = (en, m ++ [.lst (acc ++ g a)]) := by
        have := gcE_upd1 m (dead := dead) (en := en2) (o0 := .lst o) (o1 := .lst (acc ++ g a)) (e := e) (bel_flat (by simp [ha, hga])) (by rw [f2]; exact hen)
        rw [this, f2]
      have ih' := ih (acc ++ g a) (fun b hb => hl b (List.mem_cons_of_mem _ hb)) (by simp [ha, hga]) (by
        simp only [List.flatMap_cons, List.length_append] at hn ⊢
        omega)
      rw [List.map_cons, forL_cons en _ (hs acc) e1, List.flatMap_cons, ← List.append_assoc, ← ih']
      rcases f1 with f1 | f1 <;> rw [f1] <;> simp only [forR_nx, forR_ct, hG]
  exact key l o (fun _ h => h) hb (Nat.le_refl _)
/-- a dict of things -/
theorem dcm {own : List Nat} {k x : E} {t : Tg} {it : Wk} {srcs : List Src} (f : α → W) (l : List α) (gk gv : α → W) (hit : evIt subc fieldsOf call make it en m = .ok ⟨l.map f, srcs⟩ m) (hs : stillAt srcs m)
    (ht : ∀ a ∈ l, ∃ en1, bindT t (f a) (wipeE en own) = some en1 ∧ evE subc fieldsOf call make k en1 m = .ok (gk a) m ∧ evE subc fieldsOf call make x en1 m = .ok (gv a) m)
    (hk : ∀ a ∈ l, okKey (gk a) (l.map fun a => (gk a, gv a))) (hc : l.length ≤ cap) (hb : ∀ a ∈ l, (gk a).refs = [] ∧ (gv a).refs = []) (hn : (l.map gk).Nodup) :
    evE subc fieldsOf call make (.dc own k x (.cons t it .none .nil)) en m = .ok (.ref m.length) (m ++ [.dct (l.map fun a => (gk a, gv a))]) := by
  show gc m (Res.calm (Res.bind (Res.bind (evIt subc fieldsOf call make it en m) fun its m1 => loopC (stillAt its.srcs) (fun w m => (match bindT t w (wipeE en own) with
    | none => .bad
    | some en => (evC subc fieldsOf call make .none en m).bind fun b m => if b = true then (evE subc fieldsOf call make k en m).bind fun kw m => (evE subc fieldsOf call make x en m).bind fun w m => .ok [.tup [kw, w]] m else .ok [] m)) its.items m1) fun ws m => match pairsOf ws with
    | some kvs => if (∀ p ∈ kvs, okKey p.1 kvs) ∧ kvs.length ≤ cap then alloc (.dct (kvs.foldl (fun d p => putK p.1 p.2 d) [])) m else .bad
    | none => .bad)) = _
  rw [hit, Res.bind1, loopC_im hs f (fun a => [.tup [gk a, gv a]]) l fun a ha => ?_, flatMap_one, Res.bind1]
  rotate_left
  · obtain ⟨en1, k1, k2, k3⟩ := ht a ha
    simp only [k1, evC_none, Res.bind1, if_true, k2, k3]
  have e : ∀ r : List α, pairsOf (r.map fun a => .tup [gk a, gv a]) = some (r.map fun a => (gk a, gv a)) := by
    intro r
    induction r with
    | nil => rfl
    | cons a r ih => rw [List.map_cons, pairsOf, ih]; rfl
  rw [e]
  simp only
  have hk2 : ∀ p ∈ l.map (fun a => (gk a, gv a)), okKey p.1 (l.map fun a => (gk a, gv a)) := fun p hp => by
    obtain ⟨a, ha, rfl⟩ := List.mem_map.mp hp
    exact hk a ha
  rw [if_pos ⟨hk2, by simpa using hc⟩, keys_foldl _ _ (by rw [List.map_map]; exact hn) (fun p _ => by simp)]
  refine gc_new m fun r hr => ?_
  have hr : r ∈ W.refsL ((l.map fun a => (gk a, gv a)).map fun p : W × W => p.1) ++ W.refsL ((l.map fun a => (gk a, gv a)).map fun p : W × W => p.2) := hr
  rw [List.map_map, List.map_map] at hr
  rcases List.mem_append.mp hr with hr | hr
  · obtain ⟨w, hw, hr⟩ := mem_refsL.mp hr
    obtain ⟨a, ha, rfl⟩ := List.mem_map.mp hw
    rw [show (((fun p : W × W => p.1) ∘ fun a => (gk a, gv a)) a).refs = [] from (hb a ha).1] at hr; cases hr
  · obtain ⟨w, hw, hr⟩ := mem_refsL.mp hr
    obtain ⟨a, ha, rfl⟩ := List.mem_map.mp hw
    rw [show (((fun p : W × W => p.2) ∘ fun a => (gk a, gv a)) a).refs = [] from (hb a ha).2] at hr; cases hr
end
end Ev

set_option Elab.async false
set_option linter.all false
set_option maxRecDepth 100000
set_option maxHeartbeats 4000000
/-! A turn that gives a name a new object. -/
namespace Ev
open PySem
open Classical
theorem enLow_app {n : Nat} : ∀ {a b : En}, enLow n (a ++ b) ↔ enLow n a ∧ enLow n b
  | [], b => by simp
  | none :: a, b => by rw [List.cons_append, enLow_none, enLow_none, enLow_app]
  | some w :: a, b => by rw [List.cons_append, enLow_some, enLow_some, enLow_app, and_assoc]
theorem low_filter {n : Nat} {en : En} (h : enLow n en) : (W.refsL (en.filterMap id)).filter (fun r => decide (n ≤ r)) = [] := by
  rw [List.filter_eq_nil_iff]
  intro r hr
  obtain ⟨w, hw, hr⟩ := mem_refsL.mp hr
  obtain ⟨o, ho, e⟩ := List.mem_filterMap.mp hw
  simp only [id] at e
  subst e
  have := enLow_iff.mp h w ho r hr
  simp; omega
mutual
theorem W.ren_congr_low {f g : Nat → Nat} : ∀ {w : W}, (∀ r ∈ w.refs, f r = g r) → w.ren f = w.ren g
  | .non, _ => by simp [W.ren]
  | .bl _, _ => by simp [W.ren]
  | .int _, _ => by simp [W.ren]
  | .str _, _ => by simp [W.ren]
  | .ref k, h => by simp [W.ren, h k (by simp)]
  | .tup ws, h => by rw [W.ren, W.ren, W.renL_congr_low (by simpa using h)]
  | .obj c ws, h => by rw [W.ren, W.ren, W.renL_congr_low (by simpa using h)]
  | .exc c ws, h => by rw [W.ren, W.ren, W.renL_congr_low (by simpa using h)]
theorem W.renL_congr_low {f g : Nat → Nat} : ∀ {ws : List W}, (∀ r ∈ W.refsL ws, f r = g r) → W.renL f ws = W.renL g ws
  | [], _ => by simp [W.renL]
  | w :: r, h => by rw [W.renL, W.renL, W.ren_congr_low (fun q hq => h q (by simp [hq])), W.renL_congr_low (fun q hq => h q (by simp [hq]))]
end
theorem ren_rn {n k : Nat} : ∀ {w : W}, (∀ r ∈ w.refs, r < n) → w.ren (rn n [n + k]) = w := by
  intro w h
  have e : w.ren (rn n [n + k]) = w.ren (rn n []) := by
    refine W.ren_congr_low fun r hr => ?_
    have := h r hr
    simp [rn, this]
  rw [e, ren_low h]
theorem gcE_one {m0 e : Store} {dead : List Nat} {en : En} {k j : Nat} {o : MObj} (he : e[k]? = some o) (hb : o.bel m0.length) (hj : (wipeE en dead)[j]? = some (some (.ref (m0.length + k)))) (hlow : enLow m0.length ((wipeE en dead).set j none)) :
    gcE m0 dead en (m0 ++ e) = ((wipeE en dead).set j (some (.ref m0.length)), m0 ++ [o]) := by
  have hjl : j < (wipeE en dead).length := (List.getElem?_eq_some_iff.mp hj).1
  have hs : wipeE en dead = (wipeE en dead).take j ++ some (.ref (m0.length + k)) :: (wipeE en dead).drop (j + 1) := by
    conv => lhs; rw [← List.take_append_drop j (wipeE en dead)]
    congr 1
    rw [List.drop_eq_getElem_cons hjl]
    congr 1
    rw [List.getElem?_eq_getElem hjl] at hj
    exact Option.some.inj hj
  have hset : ∀ x, (wipeE en dead).set j x = (wipeE en dead).take j ++ x :: (wipeE en dead).drop (j + 1) := fun x => by
    rw [List.set_eq_take_append_cons_drop, if_pos hjl]
  obtain ⟨A, B, hs, hset⟩ : ∃ A B, wipeE en dead = A ++ some (.ref (m0.length + k)) :: B ∧ ∀ x, (wipeE en dead).set j x = A ++ x :: B := ⟨_, _, hs, hset⟩
  rw [hset] at hlow ⊢
  unfold gcE
  rw [hs]
  obtain ⟨hA, hB⟩ := enLow_app.mp hlow
  rw [enLow_none] at hB
  have hn : news m0.length ((A ++ some (.ref (m0.length + k)) :: B).filterMap id) = [m0.length + k] := by
    unfold news
    rw [List.filterMap_append, refsL_append, List.filter_append, low_filter hA]
    simp only [List.filterMap_cons, id, refsL_cons, refs_ref, List.nil_append, List.filter_cons, List.singleton_append]
    rw [low_filter hB]
    simp [ddN]
  rw [hn]
  have hg : (m0 ++ e)[m0.length + k]? = some o := by rw [List.getElem?_append_right (by omega)]; simpa using he
  rw [if_pos ⟨keepOld_app m0 e, fun r hr => by rw [List.mem_singleton.mp hr]; exact ⟨o, hg, hb⟩⟩]
  have hmap : ∀ l : En, enLow m0.length l → l.map (fun o => o.map fun w => w.ren (rn m0.length [m0.length + k])) = l := by
    intro l hl
    conv => rhs; rw [← List.map_id l]
    refine List.map_congr_left fun x hx => ?_
    cases x with
    | none => rfl
    | some w => simp only [Option.map_some, id, ren_rn (enLow_iff.mp hl w hx)]
  rw [List.map_append, List.map_cons, hmap A hA, hmap B hB]
  simp only [List.take_left', List.filterMap_cons, hg, List.filterMap_nil, Option.map_some, W.ren, rn, Nat.not_lt.mpr (Nat.le_add_right _ _), if_false, List.idxOf_cons_self, Nat.add_zero]
theorem eqD_new2 (m : Store) {xs ys : List W} (h : W.piL xs = true) (k : W.piL ys = true) (hd : W.depL xs ≤ 63) (kd : W.depL ys ≤ 63) : eqD (m ++ [.lst xs, .lst ys]) (.ref m.length) (.ref (m.length + 1)) = some (decide (xs = ys)) :=
  eqD_lst (by simp) (by simp) h k hd kd
theorem depL_ints {α : Type} (f : α → Int) (l : List α) : W.depL (l.map fun a => .int (f a)) ≤ 63 := Nat.le_trans (depL_map (fun a => W.int (f a)) l (n := 0) (by simp)) (by decide)
end Ev

set_option Elab.async false
set_option linter.all false
set_option maxRecDepth 100000
set_option maxHeartbeats 4000000
/-! Sets of tuples of any depth, of ints: what a search meets. -/
namespace Ev
open PySem PySem.Spec PyProof.Rows L2
open Classical
/-- a key, at its address -/
structure Ky (h : Heap) (x : W) (b : Addr) : Prop where
  lies : Lies h x (.ref b)
  pi : x.pi = true
  dep : x.dep ≤ 8
noncomputable abbrev hk (w : World) (x : W) : Int := x.nk.hash w
theorem Ky.inj {h : Heap} {x y : W} {b : Addr} (k : Ky h x b) (l : Ky h y b) : x = y := k.lies.inj l.lies
theorem Ky.seq {h : Heap} {x : W} {b : Addr} (k : Ky h x b) : ∃ o us n, h.get? b = some o ∧ o.cls = .type "tuple" ∧ o.data = .seq us n := by
  have := k.lies
  cases x with
  | tup ws =>
    rw [Lies] at this
    obtain ⟨c, its, e, ⟨o, ho, hc, n, hd⟩, _⟩ := this
    cases e
    exact ⟨o, its, n, ho, hc, hd⟩
  | int i => rw [Lies] at this; obtain ⟨t, e⟩ := this; cases e
  | str i => rw [Lies] at this; obtain ⟨t, e⟩ := this; cases e
  | _ => simp [Lies] at this
theorem Ky.keep {h h' : Heap} {x : W} {b : Addr} (k : Ky h x b) (e : ∀ c o, h.get? c = some o → o.cls = .type "tuple" → h'.get? c = some o) : Ky h' x b := ⟨k.lies.keep e, k.pi, k.dep⟩
section
variable {P : Program} {w : World} {A : Around} {E : Value → Shared → Prop} {s : Shared}
mutual
theorem valued : ∀ {x : W} {v : Value} {n : Nat} {Q : Bool → Shared → Prop}, x.pi = true → Lies s.heap x v → x.dep ≤ n → Q true s → wpAny (model P w) A (hashByValue n v) Q E s
  | .int i, v, n, Q, _, hl, _, hq => by
    rw [Lies] at hl
    obtain ⟨t, rfl⟩ := hl
    cases n <;> exact wpAny_pure hq
  | .tup ws, v, n, Q, hp, hl, hd, hq => by
    rw [Lies] at hl
    obtain ⟨a, its, rfl, ⟨o, ho, hc, k, he⟩, ll⟩ := hl
    rw [W.dep] at hd
    rw [W.pi] at hp
    obtain ⟨n, rfl⟩ : ∃ j, n = j + 1 := ⟨n - 1, by omega⟩
    unfold hashByValue
    refine wpAny_bind (wpAny_specialOf (T := "tuple") ⟨o, ho, hc⟩ F.slot_tuple_hash.lookup ?_)
    show wpAny _ _ (seqItems? (.ref a) >>= _) _ _ s
    refine wpAny_bind (wpAny_seqItems ho he (wpAny_bind ?_))
    show wpAny _ _ (forIn its _ _) _ _ s
    rw [← Array.forIn_toList]
    refine wpAny_forIn_list _ (fun rest r s' => r.1 = none ∧ s' = s ∧ ∀ v ∈ rest, v ∈ its.toList) _ ?_ ?_ _ _ ⟨rfl, rfl, fun _ h => h⟩
    · rintro u rest r s' ⟨hr, es, hall⟩
      rw [es]
      refine wpAny_bind (valuedL hp ll (by omega) u (hall u List.mem_cons_self) ?_)
      simp only [Bool.not_true, Bool.false_eq_true, if_false]
      exact wpAny_pure ⟨rfl, rfl, fun v hv => hall v (List.mem_cons_of_mem _ hv)⟩
    · rintro ⟨r1, r2⟩ s' ⟨hr, rfl, _⟩
      obtain rfl : r1 = none := hr
      exact wpAny_pure hq
  | .non, _, _, _, hp, _, _, _ => by simp [W.pi] at hp
  | .bl _, _, _, _, hp, _, _, _ => by simp [W.pi] at hp
  | .str _, _, _, _, hp, _, _, _ => by simp [W.pi] at hp
  | .ref _, _, _, _, hp, _, _, _ => by simp [W.pi] at hp
  | .obj _ _, _, _, _, hp, _, _, _ => by simp [W.pi] at hp
  | .exc _ _, _, _, _, hp, _, _, _ => by simp [W.pi] at hp
theorem valuedL : ∀ {ws : List W} {us : List Value} {n : Nat} {Q : Bool → Shared → Prop}, W.piL ws = true → LiesL s.heap ws us → W.depL ws ≤ n → ∀ u ∈ us, Q true s → wpAny (model P w) A (hashByValue n u) Q E s
  | [], us, n, Q, _, ll, _, u, hu, _ => by rw [LiesL] at ll; subst ll; cases hu
  | x :: ws, us, n, Q, hp, ll, hd, u, hu, hq => by
    rw [LiesL] at ll
    obtain ⟨v, r, rfl, l1, l2⟩ := ll
    rw [W.piL, Bool.and_eq_true] at hp
    rw [W.depL] at hd
    rcases List.mem_cons.mp hu with rfl | hu
    · exact valued hp.1 l1 (by omega) hq
    · exact valuedL hp.2 l2 (by omega) u hu hq
end
mutual
theorem classless : ∀ {x : W} {v : Value} {n : Nat} {Q : Bool → Shared → Prop}, x.pi = true → Lies s.heap x v → x.dep ≤ n → Q false s → wpAny (model P w) A (ofAClassStatement n v) Q E s
  | .int i, v, n, Q, _, hl, _, hq => by
    rw [Lies] at hl
    obtain ⟨t, rfl⟩ := hl
    cases n <;> exact wpAny_pure hq
  | .tup ws, v, n, Q, hp, hl, hd, hq => by
    rw [Lies] at hl
    obtain ⟨a, its, rfl, ⟨o, ho, hc, k, he⟩, ll⟩ := hl
    rw [W.dep] at hd
    rw [W.pi] at hp
    obtain ⟨n, rfl⟩ : ∃ j, n = j + 1 := ⟨n - 1, by omega⟩
    unfold ofAClassStatement
    refine wpAny_bind (wpAny_typeOf (T := "tuple") ⟨o, ho, hc⟩ ?_)
    dsimp only
    have e : (("tuple" : String) == "tuple") = true := by decide
    simp only [e, if_true]
    first
      | (refine wpAny_bind (wpAny_pure ?_); simp only [Bool.not_true, Bool.false_eq_true, if_false])
      | simp only [Bool.not_true, Bool.false_eq_true, if_false]
    show wpAny _ _ (seqItems? (.ref a) >>= _) _ _ s
    refine wpAny_bind (wpAny_seqItems ho he ?_)
    dsimp only
    refine wpAny_bind ?_
    show wpAny _ _ (forIn its _ _) _ _ s
    rw [← Array.forIn_toList]
    refine wpAny_forIn_list _ (fun rest r s' => r.1 = none ∧ s' = s ∧ ∀ v ∈ rest, v ∈ its.toList) _ ?_ ?_ _ _ ⟨rfl, rfl, fun _ h => h⟩
    · rintro u rest r s' ⟨hr, es, hall⟩
      rw [es]
      refine wpAny_bind (classlessL hp ll (by omega) u (hall u List.mem_cons_self) ?_)
      simp only [Bool.false_eq_true, if_false]
      exact wpAny_pure ⟨rfl, rfl, fun v hv => hall v (List.mem_cons_of_mem _ hv)⟩
    · rintro ⟨r1, r2⟩ s' ⟨hr, rfl, _⟩
      obtain rfl : r1 = none := hr
      exact wpAny_pure hq
  | .non, _, _, _, hp, _, _, _ => by simp [W.pi] at hp
  | .bl _, _, _, _, hp, _, _, _ => by simp [W.pi] at hp
  | .str _, _, _, _, hp, _, _, _ => by simp [W.pi] at hp
  | .ref _, _, _, _, hp, _, _, _ => by simp [W.pi] at hp
  | .obj _ _, _, _, _, hp, _, _, _ => by simp [W.pi] at hp
  | .exc _ _, _, _, _, hp, _, _, _ => by simp [W.pi] at hp
theorem classlessL : ∀ {ws : List W} {us : List Value} {n : Nat} {Q : Bool → Shared → Prop}, W.piL ws = true → LiesL s.heap ws us → W.depL ws ≤ n → ∀ u ∈ us, Q false s → wpAny (model P w) A (ofAClassStatement n u) Q E s
  | [], us, n, Q, _, ll, _, u, hu, _ => by rw [LiesL] at ll; subst ll; cases hu
  | x :: ws, us, n, Q, hp, ll, hd, u, hu, hq => by
    rw [LiesL] at ll
    obtain ⟨v, r, rfl, l1, l2⟩ := ll
    rw [W.piL, Bool.and_eq_true] at hp
    rw [W.depL] at hd
    rcases List.mem_cons.mp hu with rfl | hu
    · exact classless hp.1 l1 (by omega) hq
    · exact classlessL hp.2 l2 (by omega) u hu hq
end
theorem Ky.quiet {x : W} {b : Addr} {Q : Bool → Shared → Prop} (k : Ky s.heap x b) (hq : Q true s) : wpAny (model P w) A (eqIsQuiet 8 (.ref b)) Q E s := quiet_key _ _ 8 s k.lies.key (by rw [nk_depth]; exact k.dep) A E Q hq
theorem Ky.same {x y : W} {b c : Addr} {Q : Bool → Shared → Prop} (k : Ky s.heap x b) (l : Ky s.heap y c) (hu : A.units + 8 < cLine) (hq : Q (decide (x = y)) s) : wpAny (model P w) A (eqBool (.ref b) (.ref c)) Q E s :=
  lies_eq k.lies.plain l.lies.plain k.lies l.lies (by have := k.dep; omega) _ _ _ _ hq
theorem Ky.hashed {x : W} {b : Addr} {Q : Int → Shared → Prop} (k : Ky s.heap x b) (hu : A.units + 8 < cLine) (hq : ∀ n, s.toks ≤ n → Q (hk w x) { s with toks := n }) : wpAny (model P w) A (PySem.pyHash (.ref b)) Q E s :=
  pyHash_key _ _ _ _ _ k.lies.key (by rw [nk_depth]; have := k.dep; omega) (hq _ (Nat.le_add_right _ _))
/-- among keys a search shows nothing -/
theorem unseen {x : W} {b : Addr} {Q : Bool → Shared → Prop} (k : Ky s.heap x b) {ys : List Value} (hy : ∀ y ∈ ys, ∃ u c, y = Value.ref c ∧ Ky s.heap u c) (hq : Q false s) : wpAny (model P w) A (searchCouldBeSeen (.ref b) ys) Q E s := by
  unfold searchCouldBeSeen
  refine wpAny_bind (wpAny_forIn_list _ (fun rest r s' => r.1 = none ∧ s' = s ∧ ∀ y ∈ rest, y ∈ ys) _ ?_ ?_ _ _ ⟨rfl, rfl, fun _ h => h⟩)
  · rintro v rest r s' ⟨hr, rfl, hall⟩
    obtain ⟨u, c, rfl, l⟩ := hy v (hall v List.mem_cons_self)
    dsimp only
    by_cases hv : (b == c || (carriedByValue (.ref b) && carriedByValue (.ref c))) = true
    · exact wp_if_pos hv (wpAny_pure ⟨rfl, rfl, fun y hy' => hall y (List.mem_cons_of_mem _ hy')⟩)
    · refine wp_if_neg hv (wpAny_bind (k.quiet ?_))
      simp only [Bool.not_true, Bool.false_eq_true, if_false]
      refine wpAny_bind (l.quiet ?_)
      simp only [Bool.not_true, Bool.false_eq_true, if_false]
      refine wpAny_bind (classless k.pi k.lies k.dep ?_)
      simp only [Bool.false_eq_true, if_false]
      refine wpAny_bind (classless l.pi l.lies l.dep ?_)
      simp only [Bool.false_eq_true, if_false]
      exact wpAny_pure ⟨rfl, rfl, fun y hy' => hall y (List.mem_cons_of_mem _ hy')⟩
  · rintro ⟨r1, r2⟩ s' ⟨hr, rfl, _⟩
    obtain rfl : r1 = none := hr
    exact wpAny_pure hq
end
end Ev

set_option Elab.async false
set_option linter.all false
set_option maxRecDepth 100000
set_option maxHeartbeats 4000000
/-! Sets of tuples of any depth, of ints: search, add. -/
namespace Ev
open PySem PySem.Spec PyProof.Rows L2
open Classical
abbrev Mem : Type := Addr × W
noncomputable def ent (w : World) (p : Mem) : Int × Value := (hk w p.2, .ref p.1)
noncomputable abbrev hks (w : World) (L : List Mem) : List Int := L.map fun p => hk w p.2
/-- the set at a holds the keys of L -/
structure NS (w : World) (h : Heap) (a : Addr) (L : List Mem) (es : Array (Int × Value)) (ep : Nat) (t : SetTable) : Prop where
  ob : ∃ o, h.get? a = some o ∧ o.ExactSet ∧ o.data = .set es ep t
  rows : es.toList = L.map (ent w)
  tab : TabOk t (hks w L)
  nd : (L.map (·.2)).Nodup
  key : ∀ p ∈ L, Ky h p.2 p.1
  plain : t.plain = true
  led : w.params.followText "set-order" = true ∨ t.led = true
  room : L.length * 5 < t.mask * 3
  few : L.length ≤ 76
section
variable {P : Program} {w : World} {A : Around} {E : Value → Shared → Prop} {s : Shared} {a : Addr} {L : List Mem} {es : Array (Int × Value)} {ep : Nat} {t : SetTable}
theorem size_of (hr : es.toList = L.map (ent w)) : es.size = L.length := by rw [← Array.length_toList, hr, List.length_map]
theorem ent_at (hr : es.toList = L.map (ent w)) {i : Nat} {p : Mem} (h : L[i]? = some p) : es[i]? = some (ent w p) := by
  rw [← Array.getElem?_toList, hr, List.getElem?_map, h]; rfl
theorem fits_of (T : TabOk t (hks w L)) (hr : es.toList = L.map (ent w)) (hl : L.length ≤ t.mask) : t.fits es.size = true := by
  have h1 := T.sz
  have h2 := size_of hr
  rw [List.length_map] at h1
  unfold SetTable.fits SetTable.fill
  rw [T.dm, Bool.and_eq_true, beq_iff_eq, decide_eq_true_eq]
  exact ⟨by omega, by show t.place.size + 0 ≤ t.mask; omega⟩
theorem NS.fits (R : NS w s.heap a L es ep t) : t.fits es.size = true := fits_of R.tab R.rows (by have := R.room; omega)
theorem no_dummy (m : Nat) : ∀ (n : Nat) (p : SetTable.Probe), p.dummy = none → (nth m p n).dummy = none
  | 0, _, h => h
  | n + 1, p, h => no_dummy m n (adv m p) (by unfold adv; split <;> exact h)
/-- where a probe for x starts -/
noncomputable abbrev pr0 (t : SetTable) (w : World) (x : W) : SetTable.Probe := runAt t.mask (SetTable.bits (hk w x) % (t.mask + 1)) (SetTable.bits (hk w x))
theorem look_from (R : NS w s.heap a L es ep t) {x : W} {b : Addr} (hx : Ky s.heap x b) (hu : A.units + 8 < cLine) {N : Nat} (hN1 : N < 10 * SetTable.turns t.mask) (hN2 : way t.mask (hk w x) N ∉ t.place.toList)
    (hN3 : ∀ c, c < N → way t.mask (hk w x) c ∈ t.place.toList) {Q : SetFound → Shared → Prop} (yes : x ∈ L.map (·.2) → Q (.there none) s) (no : x ∉ L.map (·.2) → Q (.free (way t.mask (hk w x) N) false) s) :
    ∀ (left fuel c : Nat) (sd : Option SetTable.Probe), N - c = left → c ≤ N → left < fuel → sd.getD (t.probeStart (hk w x)) = nth t.mask (pr0 t w x) c →
      (∀ (i : Nat) (p : Mem), L[i]? = some p → p.2 = x → ∃ c2, c ≤ c2 ∧ c2 < N ∧ t.place.toList[i]? = some (way t.mask (hk w x) c2)) →
      wpAny (model P w) A (setSearchFrom a (.ref b) (hk w x) true fuel sd) Q E s := by
  intro left
  induction left using Nat.strongRecOn with
  | _ left ih =>
    intro fuel c sd hl hc hf hsd pend
    obtain ⟨fuel, rfl⟩ : ∃ f, fuel = f + 1 := ⟨fuel - 1, by omega⟩
    obtain ⟨o, ho, hex, hd⟩ := R.ob
    have odd : ¬ t.gaveWay = true := by unfold SetTable.gaveWay; rw [mask_odd R.tab.mok]; decide
    have along : ∀ q, nth t.mask (nth t.mask (pr0 t w x) c) q = nth t.mask (pr0 t w x) (c + q) := fun q => (nth_add t.mask c _ q).symm
    have spot : ∀ q, (nth t.mask (nth t.mask (pr0 t w x) c) q).j = way t.mask (hk w x) (c + q) := fun q => congrArg SetTable.Probe.j (along q)
    have hash : ∀ (i : Nat) (p : Mem), L[i]? = some p → (fun i => (es[i]?.map (·.1)).getD 0) i = hk w p.2 := fun i p hp => by
      show (es[i]?.map (·.1)).getD 0 = _
      rw [ent_at R.rows hp]; rfl
    have spec := go_spec t R.tab.ris R.tab.dm (fun i => (es[i]?.map (·.1)).getD 0) (hk w x) (10 * SetTable.turns t.mask) (N - c) (nth t.mask (pr0 t w x) c) (no_dummy _ _ _ rfl) (by omega)
      (fun q hq => by rw [spot]; exact hN3 (c + q) (by omega)) (by rw [spot, show c + (N - c) = N by omega]; exact hN2)
    rw [setSearchFrom_succ]
    refine wpAny_bind (wpAny_setState_of ho hd R.fits ?_)
    dsimp only
    refine wp_if_neg odd ?_
    try refine wpAny_bind (wpAny_pure ?_)
    rcases spec with ⟨q, i, hq, hi, hh, clear, e⟩ | ⟨clear, e⟩
    · have e2 : t.probe (fun i => (es[i]?.map (·.1)).getD 0) (hk w x) (sd.getD (t.probeStart (hk w x))) = some (.candidate (way t.mask (hk w x) (c + q)) i (nth t.mask (pr0 t w x) (c + (q + 1)))) := by
        rw [hsd, ← spot, ← along]; exact e
      rw [spot] at hi
      rw [e2]
      dsimp only
      have hiL : i < L.length := by
        have h1 := (List.getElem?_eq_some_iff.mp hi).1
        have h2 := R.tab.sz
        rw [List.length_map] at h2
        rw [Array.length_toList] at h1
        omega
      obtain ⟨p, hp⟩ : ∃ p, L[i]? = some p := ⟨_, List.getElem?_eq_getElem hiL⟩
      have hpL := List.mem_of_getElem? hp
      have live : t.slot (way t.mask (hk w x) (c + q)) = .live i := slot_live R.tab.ris hi
      have go : wpAny (model P w) A (searchRest a (.ref b) (hk w x) true fuel es t (way t.mask (hk w x) (c + q)) i (nth t.mask (pr0 t w x) (c + (q + 1)))) Q E s := by
        unfold searchRest
        rw [ent_at R.rows hp]
        dsimp only [ent]
        refine wpAny_bind (wpAny_holding ((R.key p hpL).same hx hu (wpAny_bind (wpAny_setState_of ho hd R.fits ?_))))
        dsimp only
        by_cases eq : p.2 = x
        · exact wp_if_pos (by simp [eq]) (wpAny_pure (yes (List.mem_map.mpr ⟨p, hpL, eq⟩)))
        · refine wp_if_neg (by simp [eq]) ?_
          try refine wpAny_bind (wpAny_pure ?_)
          rw [sameMem]
          dsimp only
          simp only [if_true, live, ent_at R.rows hp, ent]
          refine wpAny_bind (wpAny_isSame_ref_self (wpAny_bind (wpAny_pure ?_)))
          simp only [if_true]
          refine wp_if_neg (by simp [eq]) (ih (N - (c + (q + 1))) (by omega) fuel (c + (q + 1)) _ rfl (by omega) (by omega) rfl fun i2 p2 h2 e3 => ?_)
          obtain ⟨c2, g1, g2, g3⟩ := pend i2 p2 h2 e3
          refine ⟨c2, ?_, g2, g3⟩
          rcases Nat.lt_trichotomy c2 (c + q) with lt | same | gt
          · exact absurd ((hash i2 p2 h2).trans (by rw [e3])) (clear (c2 - c) i2 (by omega) (by rw [spot, show c + (c2 - c) = c2 by omega]; exact g3))
          · subst same
            have := slot_live R.tab.ris g3
            rw [live] at this
            injection this with this
            subst this
            rw [hp] at h2
            cases h2
            exact absurd e3 eq
          · omega
      by_cases led : t.led = true
      · refine wp_if_neg (by simp [led]) ?_
        try refine wpAny_bind (wpAny_pure ?_)
        exact go
      · refine wp_if_pos (by simp [led]) (wpAny_bind (unseen hx (fun y hy => ?_) ?_))
        · obtain ⟨f, hf1, rfl⟩ := List.mem_map.mp hy
          have hf2 : f ∈ es.toList := by
            have : f ∈ es ∧ f.1 = hk w x := by simpa using hf1
            simpa using this.1
          rw [R.rows] at hf2
          obtain ⟨r, hr, rfl⟩ := List.mem_map.mp hf2
          exact ⟨r.2, r.1, rfl, R.key r hr⟩
        · refine wp_if_neg (by decide) ?_
          try refine wpAny_bind (wpAny_pure ?_)
          exact go
    · have e2 : t.probe (fun i => (es[i]?.map (·.1)).getD 0) (hk w x) (sd.getD (t.probeStart (hk w x))) = some (.empty (way t.mask (hk w x) N) none) := by
        have := spot (N - c)
        rw [show c + (N - c) = N by omega] at this
        rw [hsd, ← this]; exact e
      rw [e2]
      dsimp only
      refine wpAny_pure (no fun hm => ?_)
      obtain ⟨p, hp, e3⟩ := List.mem_map.mp hm
      obtain ⟨i, hi, e4⟩ := List.getElem_of_mem hp
      have h2 : L[i]? = some p := by rw [List.getElem?_eq_getElem hi, e4]
      obtain ⟨c2, g1, g2, g3⟩ := pend i p h2 e3
      exact clear (c2 - c) i (by omega) (by rw [spot, show c + (c2 - c) = c2 by omega]; exact g3) ((hash i p h2).trans (by rw [e3]))
theorem look (R : NS w s.heap a L es ep t) {x : W} {b : Addr} (hx : Ky s.heap x b) (hu : A.units + 8 < cLine) {Q : SetFound → Shared → Prop} (yes : x ∈ L.map (·.2) → Q (.there none) s)
    (no : ∀ N, x ∉ L.map (·.2) → way t.mask (hk w x) N ∉ t.place.toList → (∀ c, c < N → way t.mask (hk w x) c ∈ t.place.toList) → Q (.free (way t.mask (hk w x) N) false) s) :
    wpAny (model P w) A (setSearch a (.ref b) (hk w x) true) Q E s := by
  obtain ⟨N, h1, h2, h3⟩ := R.tab.first (by rw [List.length_map]; have := R.room; omega) (hk w x)
  have small : 10 * SetTable.turns t.mask ≤ 1420 := by
    unfold SetTable.turns
    rcases R.tab.mok with e | e | e <;> omega
  unfold setSearch
  refine look_from R hx hu h1 h2 h3 yes (fun z => no N z h2 h3) N 100000 0 none rfl (Nat.zero_le _) (by omega) rfl fun i p hp e => ?_
  have g1 : (hks w L)[i]? = some (hk w x) := by rw [List.getElem?_map, hp, ← e]; rfl
  have g2 : i < t.place.toList.length := by
    have := (List.getElem?_eq_some_iff.mp hp).1
    have := R.tab.sz
    rw [List.length_map] at this
    rw [Array.length_toList]
    omega
  have g3 := List.getElem?_eq_getElem g2
  obtain ⟨c, hc, e2⟩ := R.tab.before h2 g1 g3
  exact ⟨c, Nat.zero_le _, hc, by rw [g3, e2]⟩
/-- keys stay while the set is stored -/
theorem Ky.stored {h h' : Heap} {x : W} {b : Addr} {o : Obj} (k : Ky h x b) (ho : h.get? a = some o) (hc : o.ExactSet) (sb : Heap.SameBut a h h') : Ky h' x b := k.keep fun c u e ht => by
  rw [sb.2 c fun z => by
    subst z
    rw [ho] at e
    cases e
    rw [hc.1] at ht
    exact absurd ht (by decide), e]
theorem perm_pick {α : Type} (L : List α) : (List.range L.length).filterMap (fun i => L[i]?) = L := by
  apply List.ext_getElem?
  intro i
  have key : ∀ n, n ≤ L.length → (List.range n).filterMap (fun i => L[i]?) = L.take n := by
    intro n
    induction n with
    | zero => intro _; rfl
    | succ n ih =>
      intro hn
      have e : L[n]? = some L[n] := List.getElem?_eq_getElem hn
      rw [List.range_succ, List.filterMap_append, ih (by omega), List.take_succ, e]
      simp [e]
  rw [key _ (Nat.le_refl _), List.take_length]
theorem rows_order {ord : Array Nat} (hr : es.toList = L.map (ent w)) (hp : ord.toList.Perm (List.range L.length)) : ∃ L2 : List Mem, (ord.filterMap (es[·]?)).toList = L2.map (ent w) ∧ L2.Perm L ∧ hks w L2 = ord.toList.map fun i => (es.map (·.1)).getD i 0 := by
  have hin : ∀ i ∈ ord.toList, i < L.length := fun i hi => List.mem_range.mp (hp.mem_iff.mp hi)
  refine ⟨ord.toList.filterMap fun i => L[i]?, ?_, ?_, ?_⟩
  · have e : ∀ l : List Nat, l.filterMap (es[·]?) = (l.filterMap fun i => L[i]?).map (ent w) := fun l => by
      rw [List.map_filterMap]
      congr 1
      funext i
      rw [← Array.getElem?_toList, hr, List.getElem?_map]
    rw [← e, ← Array.toList_filterMap]
  · have := hp.filterMap fun i => L[i]?
    rw [perm_pick] at this
    exact this
  · clear hp
    generalize ord.toList = l at hin
    induction l with
    | nil => rfl
    | cons i r ih =>
      have hi := hin i List.mem_cons_self
      have e : L[i]? = some L[i] := List.getElem?_eq_getElem hi
      have e2 : (es.map (·.1)).getD i 0 = hk w L[i].2 := by
        have : (es.map (·.1))[i]? = some (hk w L[i].2) := by rw [Array.getElem?_map, ent_at hr e]; rfl
        simp [Array.getD_eq_getD_getElem?, this]
      rw [List.filterMap_cons_some e, List.map_cons, ← ih fun j hj => hin j (List.mem_cons_of_mem _ hj), e2]
      rfl
/-- laid anew -/
theorem relaid {o : Obj} (ho : s.heap.get? a = some o) (hex : o.ExactSet) (hd : o.data = .set es ep t) (hr : es.toList = L.map (ent w)) (T : TabOk t (hks w L)) (hm : L.length ≤ t.mask) (nd : (L.map (·.2)).Nodup) (key : ∀ p ∈ L, Ky s.heap p.2 p.1) (pl : t.plain = true)
    (led : w.params.followText "set-order" = true ∨ t.led = true) (few : L.length ≤ 76) {want M : Nat} (h1 : SetTable.sizeAbove want - 1 = M) (h2 : MaskOk M) (h3 : SetTable.sizeAbove want ≤ 128) (h4 : L.length * 5 < M * 3) {Q : Unit → Shared → Prop}
    (hq : ∀ h' L' es' ep' t', Heap.SameBut a s.heap h' → NS w h' a L' es' ep' t' → L'.Perm L → Q () { s with heap := h' }) : wpAny (model P w) A (setRelay a want) Q E s := by
  have hz := size_of hr
  obtain ⟨t2, ord, e, hp, T2, em, el, ep2, _⟩ := relaid_ok t (hs := es.map (·.1)) (wanted := want) h1 h2 (by rw [Array.size_map, hz]; omega)
  rw [Array.size_map, hz] at hp
  obtain ⟨L2, r1, r2, r3⟩ := rows_order (es := es) hr hp
  rw [← r3] at T2
  have hz2 : (ord.filterMap (es[·]?)).size = es.size := by rw [size_of r1, r2.length_eq, hz]
  rw [setRelay_eq]
  refine wpAny_bind (wpAny_setState_of ho hd (fits_of T hr hm) ?_)
  dsimp only
  refine wp_if_neg (by rw [sizeLine_eq]; omega) ?_
  try refine wpAny_bind (wpAny_pure ?_)
  rw [e]
  dsimp only
  refine wpAny_bind (wp_if_neg (by rw [hz2]; simp) ?_)
  try refine wpAny_bind (wpAny_pure ?_)
  refine wpAny_pure ?_
  dsimp only
  refine wpAny_storeSet_of ho hd ?_ (by rw [hz2, hz, sizeLine_eq]; omega)
  have sb : Heap.SameBut a s.heap (s.heap.update a (Obj.putSet (ord.filterMap (es[·]?)) t2)) := Heap.SameBut.update ..
  exact hq _ L2 (ord.filterMap (es[·]?)) (ep + 1) t2 sb ⟨⟨_, store_at ho hd, ⟨hex.1, hex.2.1, hex.2.2⟩, rfl⟩, r1, T2, (r2.map (·.2)).nodup_iff.mpr nd, fun p hp => (key p (r2.mem_iff.mp hp)).stored ho hex sb, by rw [ep2]; exact pl, by rw [el]; exact led, by rw [r2.length_eq, em]; exact h4, by rw [r2.length_eq]; exact few⟩ r2
end
end Ev

set_option Elab.async false
set_option linter.all false
set_option maxRecDepth 100000
set_option maxHeartbeats 4000000
/-! Sets of tuples of any depth, of ints: made from a list, a tuple. -/
namespace Ev
open PySem PySem.Spec PyProof.Rows L2
open Classical
section
variable {P : Program} {w : World} {A : Around} {E : Value → Shared → Prop} {s : Shared} {a : Addr} {L : List Mem} {es : Array (Int × Value)} {ep : Nat} {t : SetTable}
theorem put_in (R : NS w s.heap a L es ep t) {x : W} {b : Addr} (hx : Ky s.heap x b) (hu : A.units + 8 < cLine) (few : x ∉ L.map (·.2) → L.length + 1 ≤ 76) {Q : Bool → Shared → Prop}
    (hq : ∀ r h' L' es' ep' t', Heap.SameBut a s.heap h' → NS w h' a L' es' ep' t' → (x ∈ L.map (·.2) → L' = L) → (x ∉ L.map (·.2) → L'.Perm ((b, x) :: L)) → Q r { s with heap := h' }) :
    wpAny (model P w) A (setAddHashed a (.ref b) (hk w x)) Q E s := by
  obtain ⟨o, ho, hex, hd⟩ := R.ob
  have hz := size_of R.rows
  have room := R.room
  unfold setAddHashed
  refine wpAny_holding ?_
  rw [show (100000 : Nat) = 99999 + 1 from rfl, setAddHashedIn_succ]
  refine wpAny_bind (wpAny_setState_of ho hd R.fits ?_)
  dsimp only
  refine wp_if_neg (by simp [byScan, Value.scannable]) ?_
  try refine wpAny_bind (wpAny_pure ?_)
  refine wpAny_bind (look R hx hu (fun hm => ?_) fun N hm h2 h3 => ?_)
  · exact wpAny_pure (hq false s.heap L es ep t (Heap.SameBut.refl a s.heap) R (fun _ => rfl) fun z => absurd hm z)
  · have few := few hm
    dsimp only
    refine wpAny_bind (wpAny_setState_of ho hd R.fits ?_)
    dsimp only
    obtain ⟨q1, q2, q3, q4, q5, q6, q7, q8, q9⟩ := R.tab.put h2 h3
    have pl : (t.put (way t.mask (hk w x) N)).1.plain = true := by rw [q6]; exact R.plain
    generalize t.put (way t.mask (hk w x) N) = pt at q1 q3 q4 q5 q6 q7 q8 q9 pl ⊢
    obtain ⟨t1, p⟩ := pt
    dsimp only at q1 q3 q4 q5 q6 q7 q8 q9 pl ⊢
    subst q1
    first
      | (refine wpAny_bind (wp_if_pos pl (valued hx.pi hx.lies hx.dep ?_)))
      | refine wp_if_pos pl (wpAny_bind (valued hx.pi hx.lies hx.dep ?_))
    simp only [if_true]
    generalize SetTable.below t.place (way t.mask (hk w x) N) = p at q2 q3 ⊢
    obtain ⟨L1, hL1⟩ : ∃ L1, L1 = L.take p ++ (b, x) :: L.drop p := ⟨_, rfl⟩
    have pm : L1.Perm ((b, x) :: L) := by rw [hL1]; exact put_perm L p (b, x)
    have hlen : L1.length = L.length + 1 := pm.length_eq
    have rows : (SetTable.insertAt es p (hk w x, Value.ref b)).toList = L1.map (ent w) := by
      rw [SetTable.toList_insertAt, R.rows, hL1, List.map_append, List.map_cons, List.map_take, List.map_drop]; rfl
    have T : TabOk t1 (hks w L1) := by
      have e : hks w L1 = (hks w L).take p ++ hk w x :: (hks w L).drop p := by
        rw [hL1]
        show List.map _ _ = _
        rw [List.map_append, List.map_cons, List.map_take, List.map_drop]
      rw [e]; exact q3
    have nd : (L1.map (·.2)).Nodup := (pm.map (·.2)).nodup_iff.mpr (by rw [List.map_cons]; exact List.nodup_cons.mpr ⟨hm, R.nd⟩)
    have hz1 := size_of rows
    generalize SetTable.insertAt es p (hk w x, Value.ref b) = es1 at rows hz1 ⊢
    clear hL1 q2 q3
    refine wpAny_bind (wpAny_storeSet_of ho hd ?_ (by rw [hz1, hlen, sizeLine_eq]; omega))
    have sb : Heap.SameBut a s.heap (s.heap.update a (Obj.putSet es1 t1)) := Heap.SameBut.update ..
    have ho1 := store_at (es' := es1) (t' := t1) ho hd
    generalize s.heap.update a (Obj.putSet es1 t1) = g at sb ho1 ⊢
    have key : ∀ p ∈ L1, Ky g p.2 p.1 := fun p hp => by
      rcases List.mem_cons.mp (pm.mem_iff.mp hp) with e | hp
      · rw [e]; exact hx.stored ho hex sb
      · exact (R.key p hp).stored ho hex sb
    have led : w.params.followText "set-order" = true ∨ t1.led = true := by rw [q5]; exact R.led
    have ex1 : Obj.ExactSet _ := ⟨hex.1, hex.2.1, hex.2.2⟩
    by_cases full : t1.tooFull = true
    · have hf : (L.length + 1) * 5 ≥ t1.mask * 3 := by
        have h := full
        unfold SetTable.tooFull at h
        rw [decide_eq_true_eq, q9, List.length_map] at h
        exact h
      first
        | (refine wpAny_bind (wp_if_pos (by simp [full]) ?_))
        | (refine wp_if_pos (by simp [full]) (wpAny_bind ?_))
      rw [hz]
      have small : L1.length ≤ t1.mask := by
        rcases R.tab.mok with e | e | e <;> rw [q4, e] at hf <;> rw [e] at room <;> rw [hlen, q4, e] <;> omega
      have grow : ∀ M, SetTable.sizeAbove (SetTable.grown (L.length + 1)) - 1 = M → MaskOk M → SetTable.sizeAbove (SetTable.grown (L.length + 1)) ≤ 128 → (L.length + 1) * 5 < M * 3 →
          wpAny (model P w) A (setRelay a (SetTable.grown (L.length + 1))) (fun _ s' => wpAny (model P w) A (pure true) Q E s') E { s with heap := g } := fun M g1 g2 g3 g4 =>
        relaid (s := { s with heap := g }) ho1 ⟨hex.1, hex.2.1, hex.2.2⟩ rfl rows T small nd key pl led (by omega) g1 g2 g3 (by rw [hlen]; exact g4) fun g' L2 es2 ep2 t2 sb2 R2 pm2 => wpAny_pure (hq true g' L2 es2 ep2 t2 (sb.trans sb2) R2 (fun z => absurd z hm) fun _ => pm2.trans pm)
      have two : L.length = 4 ∨ L.length = 18 := by
        rcases R.tab.mok with e | e | e <;> rw [q4, e] at hf <;> rw [e] at room <;> omega
      rcases two with e | e
      · exact grow 31 (by rw [e, size_20]) (.inr (.inl rfl)) (by rw [e, size_20]; decide) (by omega)
      · exact grow 127 (by rw [e, size_76]) (.inr (.inr rfl)) (by rw [e, size_76]; decide) (by omega)
    · have hf : ¬ (L.length + 1) * 5 ≥ t1.mask * 3 := by
        have h := full
        unfold SetTable.tooFull at h
        rw [decide_eq_true_eq, q9, List.length_map] at h
        exact h
      first
        | refine wp_if_neg (by simp [full]) ?_
        | refine wpAny_bind (wp_if_neg (by simp [full]) (wpAny_pure ?_))
      exact wpAny_pure (hq true g L1 es1 (ep + 1) t1 sb ⟨⟨_, ho1, ⟨hex.1, hex.2.1, hex.2.2⟩, rfl⟩, rows, T, nd, key, pl, led, by rw [hlen]; omega, by omega⟩ (fun z => absurd z hm) fun _ => pm)
/-- what it has of the first i items -/
structure Has (ks : List Mem) (i : Nat) (L : List Mem) : Prop where
  sub : ∀ p ∈ L, p ∈ ks.take i
  all : ∀ p ∈ ks.take i, p.2 ∈ L.map (·.2)
theorem NS.moved {h h' : Heap} (R : NS w h a L es ep t) (ha : ∀ o, h.get? a = some o → h'.get? a = some o) (hk : ∀ p ∈ L, Ky h' p.2 p.1) : NS w h' a L es ep t := by
  obtain ⟨o, ho, r⟩ := R.ob
  exact ⟨⟨o, ha o ho, r⟩, R.rows, R.tab, R.nd, hk, R.plain, R.led, R.room, R.few⟩
theorem nodup_sub : ∀ {l D : List W}, l.Nodup → (∀ x ∈ l, x ∈ D) → l.length ≤ D.length
  | [], _, _, _ => Nat.zero_le _
  | x :: l, D, hn, hs => by
    obtain ⟨h1, h2⟩ := List.nodup_cons.mp hn
    have hx := hs x List.mem_cons_self
    have := nodup_sub (D := D.erase x) h2 fun y hy => (List.mem_erase_of_ne fun e => h1 (by rw [← e]; exact hy)).mpr (hs y (List.mem_cons_of_mem _ hy))
    rw [List.length_erase_of_mem hx] at this
    have := List.length_pos_of_mem hx
    rw [List.length_cons]
    omega
/-- the update's loop -/
theorem update_loop {I : Addr} {fp wr : List Addr} {G : Array GenState → Array GenState → Prop} {n : Nat} {Pv : Nat → Value → Prop} {St : Nat → Shared → Prop} {R : Result → Shared → Prop}
    (Wk : WalksS P w A.in1 I fp wr G n Pv St) (S : Addr) (hSf : S ∉ fp) (ks : List Mem) (hn : n = ks.length) {D : List W} (hD : D.length ≤ 75) (hDk : ∀ p ∈ ks, p.2 ∈ D) (hval : ∀ i v, Pv i v → ∃ p, ks[i]? = some p ∧ v = .ref p.1)
    (h0 : Heap) (hk0 : ∀ p ∈ ks, Ky h0 p.2 p.1) (hS0 : h0.get? S = none) (hw0 : ∀ b ∈ wr, h0.get? b = none) (hu : A.in1.units + 8 < cLine) :
    ∀ (left i : Nat) (s : Shared), n - i = left → i ≤ n → St i s → (∀ b o, h0.get? b = some o → s.heap.get? b = some o) → (∃ L es ep t, NS w s.heap S L es ep t ∧ Has ks i L) →
      (∀ s' L es ep t, Moved (S :: wr) G s s' → NS w s'.heap S L es ep t → Has ks n L → (∀ b o, h0.get? b = some o → s'.heap.get? b = some o) → R (.ok (.ret .none)) s') →
      codeAny (model P w) A (.builtin "set.update.loop" ⟨[.ref S, .ref I], []⟩) R s := by
  have hSw : S ∉ wr := fun h => hSf (Wk.sub _ h)
  have wide : ∀ b ∈ wr, b ∈ S :: wr := fun b hb => List.mem_cons_of_mem _ hb
  have stay : ∀ {s s' : Shared}, Moved wr G s s' → (∀ b o, h0.get? b = some o → s.heap.get? b = some o) → ∀ b o, h0.get? b = some o → s'.heap.get? b = some o := fun mv old b o e =>
    mv.heap b o (fun hb => by rw [hw0 b hb] at e; cases e) (old b o e)
  have kyAt : ∀ {h : Heap}, (∀ b o, h0.get? b = some o → h.get? b = some o) → ∀ p ∈ ks, Ky h p.2 p.1 := fun old p hp => (hk0 p hp).keep fun c o e _ => old c o e
  intro left
  induction left with
  | zero =>
    intro i s hl hi hst old ⟨L, es, ep, t, hS, g⟩ hR
    obtain rfl : i = n := by omega
    refine codeAny_builtin F.entry_set_update_loop ?_
    rw [Around.under_plainId F.plain_set_update_loop _]
    show wpAny _ A.in1 (pyNext (.ref I) >>= _) _ _ s
    refine wpAny_bind (Wk.done s _ _ hst fun s' mv => ?_)
    have old2 := stay mv old
    exact wpAny_pure (hR s' L es ep t (mv.mono wide) (hS.moved (fun o e => mv.heap S o hSw e) fun p hp => kyAt old2 p (List.mem_of_mem_take (g.sub p hp))) g old2)
  | succ left ih =>
    intro i s hl hi hst old ⟨L, es, ep, t, hS, g⟩ hR
    have hlt : i < n := by omega
    refine codeAny_builtin F.entry_set_update_loop ?_
    rw [Around.under_plainId F.plain_set_update_loop _]
    show wpAny _ A.in1 (pyNext (.ref I) >>= _) _ _ s
    refine wpAny_bind (Wk.item i s _ _ hlt hst fun v s' hP hst' mv => ?_)
    obtain ⟨p, hp, rfl⟩ := hval i v hP
    have hpk := List.mem_of_getElem? hp
    have old2 := stay mv old
    have hS' : NS w s'.heap S L es ep t := hS.moved (fun o e => mv.heap S o hSw e) fun q hq => kyAt old2 q (List.mem_of_mem_take (g.sub q hq))
    have hx := kyAt old2 p hpk
    have few : p.2 ∉ L.map (·.2) → L.length + 1 ≤ 76 := fun _ => by
      have := nodup_sub (D := D) hS.nd fun x hx => by
        obtain ⟨q, hq, rfl⟩ := List.mem_map.mp hx
        exact hDk q (List.mem_of_mem_take (g.sub q hq))
      rw [List.length_map] at this
      omega
    show wpAny _ A.in1 (holding [Value.ref p.1] (setAdd S (.ref p.1)) >>= _) _ _ s'
    refine wpAny_bind (wpAny_holding ?_)
    unfold setAdd
    refine wpAny_holding (wpAny_bind (hx.hashed hu fun tk htk => ?_))
    refine put_in (s := { s' with toks := tk }) hS' hx hu few fun r g2 L' es' ep' t' sb hS2 c1 c2 => ?_
    have tk1 : ks.take (i + 1) = ks.take i ++ [p] := by rw [List.take_succ, hp]; rfl
    have g' : Has ks (i + 1) L' := by
      rcases Classical.em (p.2 ∈ L.map (·.2)) with c | c
      · rw [c1 c]
        refine ⟨fun q hq => by rw [tk1]; exact List.mem_append_left _ (g.sub q hq), fun q hq => ?_⟩
        rw [tk1] at hq
        rcases List.mem_append.mp hq with z | z
        · exact g.all q z
        · rw [List.mem_singleton.mp z]; exact c
      · have pm := c2 c
        refine ⟨fun q hq => ?_, fun q hq => ?_⟩
        · rw [tk1]
          rcases List.mem_cons.mp (pm.mem_iff.mp hq) with e | z
          · rw [e]; exact List.mem_append_right _ (List.mem_singleton.mpr rfl)
          · exact List.mem_append_left _ (g.sub q z)
        · rw [(pm.map (·.2)).mem_iff, List.map_cons]
          rw [tk1] at hq
          rcases List.mem_append.mp hq with z | z
          · exact List.mem_cons_of_mem _ (g.all q z)
          · rw [List.mem_singleton.mp z]; exact List.mem_cons_self
    have old3 : ∀ b o, h0.get? b = some o → g2.get? b = some o := fun b o e => (sb.2 b (fun z => by rw [z, hS0] at e; cases e)).trans (old2 b o e)
    refine wpAny_pure ⟨plainId_quiet F.plain_set_update_loop _, ih (i + 1) _ (by omega) hlt (Wk.frame _ s' _ _ hst' htk fun b hb o e => ?_) old3 ⟨L', es', ep', t', hS2, g'⟩ fun s'' L2 es2 ep2 t2 mv2 hS3 g3 old4 => ?_⟩
    · rw [sb.2 b (fun h : b = S => hSf (by rw [← h]; exact hb))]; exact e
    · refine hR s'' L2 es2 ep2 t2 (Moved.trans Wk.gtrans ((mv.mono wide).then_heap htk fun b o hb e => ?_) mv2) hS3 g3 old4
      rw [sb.2 b (fun h : b = S => hb (by rw [h]; exact List.mem_cons_self))]; exact e
end
end Ev

set_option Elab.async false
set_option linter.all false
set_option maxRecDepth 100000
set_option maxHeartbeats 4000000
/-! set(x), x a list or a tuple. -/
namespace Ev
open PySem PySem.Spec PyProof.Rows L2
open Classical
theorem sub_tuple_set : isSubtype (.type "tuple") (.type "set") = pure false := by rw [isSubtype_type]; kernel_rfl
theorem sub_tuple_frozenset : isSubtype (.type "tuple") (.type "frozenset") = pure false := by rw [isSubtype_type]; kernel_rfl
abbrev newSet (w : World) : Obj := { cls := .type "set", dict := none, data := .set #[] 0 (.fresh 0 0 (!w.params.followText "set-order")) }
section
variable {P : Program} {w : World} {A : Around} {E : Value → Shared → Prop} {s : Shared}
/-- what a walk over the items leads to -/
def LoopsTo (P : Program) (w : World) (A : Around) (s : Shared) (items : Array Value) (Post : Heap → Prop) : Prop :=
  ∀ {A' : Around} {I : Addr} {fp wr : List Addr} {G : Array GenState → Array GenState → Prop} {St : Nat → Shared → Prop} {R : Result → Shared → Prop} (Wk : WalksS P w A'.in1 I fp wr G items.size (fun i v => items[i]? = some v) St) (s1 : Shared),
    A'.units ≤ A.units + 2 → s.heap.objs.size ∉ fp → St 0 s1 → (∀ b ∈ wr, s.heap.get? b = none) → s1.heap.get? s.heap.objs.size = some (newSet w) → (∀ b o, s.heap.get? b = some o → s1.heap.get? b = some o) →
    (∀ s', Moved (s.heap.objs.size :: wr) G s1 s' → Post s'.heap → (∀ b o, s.heap.get? b = some o → s'.heap.get? b = some o) → R (.ok (.ret .none)) s') →
    codeAny (model P w) A' (.builtin "set.update.loop" ⟨[.ref s.heap.objs.size, .ref I], []⟩) R s1
set_option maxRecDepth 100000 in
set_option maxHeartbeats 6400000 in
theorem call_set {T : String} {l : Addr} {items : Array Value} {o : Obj} {n : Nat} {Post : Heap → Prop} {Q : Value → Shared → Prop} (hh : A.handled = none) (ho : s.heap.get? l = some o) (hc : o.cls = .type T) (hT : T = "list" ∨ T = "tuple") (hd : o.data = .seq items n)
    (loop : LoopsTo P w A s items Post) (h : ∀ (h' : Heap) (tk : Nat), Post h' → (∀ b o, s.heap.get? b = some o → h'.get? b = some o) → Q (.ref s.heap.objs.size) { s with heap := h', toks := tk }) :
    wpAny (model P w) A (call (.type "set") [.ref l]) Q E s := by
  obtain ⟨c, tl, hmro⟩ := F.called_set.mro
  have hmade := F.called_set.made
  have hsub := F.called_set.sub
  refine wpAny_call (codeAny_of_tree ?_)
  show wpAny _ _ (callAny (.type "set") _) _ _ _
  refine wpAny_pure ⟨Code.quiet_builtin _ (by decide +kernel), codeAny_builtin F.entry_type_call ?_⟩
  rw [Around.under_plain (weight_type_call_type "set" [.ref l] []) rfl]
  have h1 := F.called_set.notType
  have h2 := F.called_set.canCreate
  have hct := F.typeCall_set_1 (.ref l)
  repeat (any_goals (first | assumption | wp_step))
  refine codeAny_mono (code_set_led1 (.ref l) (E := E) (Q₁ := fun obj s₁ => obj = .ref s.heap.objs.size ∧ s₁ = { s with heap := s.heap.push (newSet w) }) ⟨rfl, rfl⟩) fun r s₁ hr => ?_
  cases r with
  | error e => exact hr
  | ok fl =>
    cases fl with
    | ret obj =>
      obtain ⟨rfl, rfl⟩ := hr
      have hS : (s.heap.push (newSet w)).get? s.heap.objs.size = some (newSet w) := Heap.get?_push_size _ rfl
      have hTs : Shared.TypeIs { s with heap := s.heap.push (newSet w) } (.ref s.heap.objs.size) "set" := ⟨_, hS, rfl⟩
      have hli := F.called_set.init.lookup
      have hbi := F.called_set.init.bind (.ref s.heap.objs.size)
      repeat (any_goals (first | assumption | wp_step))
      refine codeAny_mono (codeAny_call_builtin (R := wants (fun r s₂ => r = .none ∧ ∃ h' tk, s₂ = { s with heap := h', toks := tk } ∧ Post h' ∧ ∀ b o, s.heap.get? b = some o → h'.get? b = some o) E) F.called_set.init.plain F.entry_set_init (check_set_init_1 hTs ?_)) fun r₂ s₂ hr₂ => ?_
      · obtain ⟨ocls, odict, odata, oslots⟩ := o
        simp only at hc hd
        subst hc; subst hd
        have hol := ho
        have hlS : l < s.heap.objs.size := Heap.lt_size hol
        have hh3 : A.in1.in1.in1.handled = none := by simp [hh]
        have hneI : l ≠ (s.heap.push (newSet w)).objs.size := by rw [Heap.size_push]; exact Nat.ne_of_lt (Nat.lt_succ_of_lt hlS)
        have hSf : s.heap.objs.size ∉ [(s.heap.push (newSet w)).objs.size, l] := by
          rw [Heap.size_push]
          simp only [List.mem_cons, List.not_mem_nil, or_false, not_or]
          exact ⟨Nat.ne_of_lt (Nat.lt_succ_self _), Nat.ne_of_gt hlS⟩
        have hw0 : ∀ b ∈ [(s.heap.push (newSet w)).objs.size], s.heap.get? b = none := fun b hb => by
          rw [List.mem_singleton.mp hb, Heap.size_push]
          cases q : s.heap.get? (s.heap.objs.size + 1) with
          | none => rfl
          | some o => exact absurd (Heap.lt_size q) (Nat.not_lt.mpr (Nat.le_succ _))
        have fin : ∀ {G : Array GenState → Array GenState → Prop} (s' : Shared) (s1 : Shared) (wr : List Addr), s'.gens = s.gens → s'.drawn = s.drawn → s'.os = s.os → Post s'.heap → (∀ b o, s.heap.get? b = some o → s'.heap.get? b = some o) → ∃ h' tk, s' = { s with heap := h', toks := tk } ∧ Post h' ∧ ∀ b o, s.heap.get? b = some o → h'.get? b = some o := by
          intro G s' s1 wr eg ed eo hp hk
          obtain ⟨h', g', d', tk', os'⟩ := s'
          simp only at eg ed eo
          subst eg; subst ed; subst eo
          exact ⟨h', tk', rfl, hp, hk⟩
        rcases hT with rfl | rfl
        · have hol' : (s.heap.push (newSet w)).get? l = some { cls := .type "list", dict := odict, data := .seq items n, slots := oslots } := Heap.get?_push_of_some _ hol
          have hsls := F.sub_list_set
          have hslf := F.sub_list_frozenset
          have hne : (Value.type "list" == Value.type "dict") = false := by decide
          have hl1 : (s.heap.push (newSet w)).IsList l items := ⟨_, hol', rfl, n, rfl⟩
          unfold Builtin.«set.__init__» noKeywords Builtin.Frozenset.updateFrom
          generalize hPI : pyIter = PI
          wp_walk
          subst hPI
          refine wpAny_pyIter_list hl1 (wpAny_bind (wpAny_runValue ?_))
          refine loop ((Walks.list hh3 _ l hneI items).toS) _ (Nat.le_refl _) hSf ⟨⟨_, Heap.get?_push_size _ rfl, rfl, rfl⟩, (hl1.push _)⟩ hw0 (Heap.get?_push_of_some _ hS) (fun b o e => Heap.get?_push_of_some _ (Heap.get?_push_of_some _ e)) fun s' mv hp hk => ?_
          exact wpAny_pure (wpAny_pure ⟨rfl, fin (G := fun _ _ => True) s' s' [] mv.gens mv.drawn mv.os hp hk⟩)
        · have hol' : (s.heap.push (newSet w)).get? l = some { cls := .type "tuple", dict := odict, data := .seq items n, slots := oslots } := Heap.get?_push_of_some _ hol
          have hsls := sub_tuple_set
          have hslf := sub_tuple_frozenset
          have hne : (Value.type "tuple" == Value.type "dict") = false := by decide
          have hl1 : (s.heap.push (newSet w)).IsTuple l items := ⟨_, hol', rfl, n, rfl⟩
          unfold Builtin.«set.__init__» noKeywords Builtin.Frozenset.updateFrom
          generalize hPI : pyIter = PI
          wp_walk
          subst hPI
          refine wpAny_pyIter_tuple hl1 (wpAny_bind (wpAny_runValue ?_))
          refine loop ((Walks.tuple hh3 _ l hneI items).toS) _ (Nat.le_refl _) hSf ⟨⟨_, Heap.get?_push_size _ rfl, rfl, rfl⟩, (hl1.push _)⟩ hw0 (Heap.get?_push_of_some _ hS) (fun b o e => Heap.get?_push_of_some _ (Heap.get?_push_of_some _ e)) fun s' mv hp hk => ?_
          exact wpAny_pure (wpAny_pure ⟨rfl, fin (G := fun _ _ => True) s' s' [] mv.gens mv.drawn mv.os hp hk⟩)
      · cases r₂ with
        | error e => exact hr₂
        | ok fl₂ =>
          cases fl₂ with
          | ret r =>
            obtain ⟨rfl, h', tk, rfl, hp, hk⟩ := hr₂
            repeat (any_goals (first | assumption | wp_step))
            exact h _ _ hp hk
          | _ => exact hr₂.elim
    | _ => exact hr.elim
end
end Ev

set_option Elab.async false
set_option linter.all false
set_option maxRecDepth 100000
set_option maxHeartbeats 4000000
/-! len(set(x)), sorted(set(x)). -/
namespace Ev
open PySem PySem.Spec PyProof.Rows L2
open Classical
/-! counting -/
theorem dedup_nodup : ∀ l : List W, (dedup l).Nodup
  | [] => List.nodup_nil
  | x :: r => by
    rw [dedup]
    exact List.nodup_cons.mpr ⟨fun h => by simpa using (List.mem_filter.mp h).2, (dedup_nodup r).filter _⟩
theorem nodup_len {l k : List W} (h1 : l.Nodup) (h2 : k.Nodup) (h : ∀ x, x ∈ l ↔ x ∈ k) : l.length = k.length :=
  Nat.le_antisymm (nodup_sub h1 fun x hx => (h x).mp hx) (nodup_sub h2 fun x hx => (h x).mpr hx)
theorem met_nodup (val : Nat → Int) : ∀ n, (firstMet val n).Nodup
  | 0 => List.nodup_nil
  | n + 1 => by
    rw [firstMet_succ]
    unfold step_dedup
    split
    · exact met_nodup val n
    · rename_i h
      refine List.nodup_append.mpr ⟨met_nodup val n, by simp, fun x hx y hy e => ?_⟩
      rw [List.mem_singleton] at hy
      refine h (List.any_eq_true.mpr ⟨x, hx, by rw [e, hy]; simp⟩)
theorem met_mem (ns : List Int) (k : Int) : k ∈ firstMet (fun i => ns.getD i 0) ns.length ↔ k ∈ ns := by
  have h := firstMet_any (fun i => ns.getD i 0) ns.length k
  have e : (List.range ns.length).map (fun i => ns.getD i 0) = ns := by
    apply List.ext_getElem
    · simp
    · intro i h1 h2
      simp at h1
      simp [List.getD_eq_getElem?_getD, h1]
  rw [e] at h
  have c : ∀ l : List Int, l.any (· == k) = true ↔ k ∈ l := fun l => by
    rw [List.any_eq_true]
    exact ⟨fun ⟨x, hx, e⟩ => by rw [← eq_of_beq e]; exact hx, fun hk => ⟨k, hk, by simp⟩⟩
  rw [← c, ← c, h]
theorem met_len (ns : List Int) : (firstMet (fun i => ns.getD i 0) ns.length).length = (dedup (ns.map W.int)).length := by
  have := nodup_len (l := (firstMet (fun i => ns.getD i 0) ns.length).map W.int) (k := dedup (ns.map W.int)) (List.pairwise_map.mpr (List.Pairwise.imp (fun {a b} h e => h (by simpa using e)) (met_nodup _ _))) (dedup_nodup _) fun x => by
    rw [mem_dedup, List.mem_map, List.mem_map]
    exact ⟨fun ⟨i, h, e⟩ => ⟨i, (met_mem ns i).mp h, e⟩, fun ⟨i, h, e⟩ => ⟨i, (met_mem ns i).mpr h, e⟩⟩
  rw [List.length_map] at this
  exact this
theorem perm_of_map {α β : Type} (f : α → β) : ∀ {out : List β} {L : List α}, out.Perm (L.map f) → ∃ L' : List α, out = L'.map f ∧ L'.Perm L
  | [], L, h => by
    have := h.symm.eq_nil
    rw [List.map_eq_nil_iff] at this
    subst this
    exact ⟨[], rfl, .refl _⟩
  | u :: r, L, h => by
    obtain ⟨p, hp, e⟩ := List.mem_map.mp (h.mem_iff.mp List.mem_cons_self)
    have h2 : L.Perm (p :: L.erase p) := List.perm_cons_erase hp
    have h3 := h.trans (h2.map f)
    rw [List.map_cons, e] at h3
    obtain ⟨L', e1, e2⟩ := perm_of_map f (h3.cons_inv)
    exact ⟨p :: L', by rw [List.map_cons, e, e1], (e2.cons p).trans h2.symm⟩
section
variable {P : Program} {w : World} {A : Around} {E : Value → Shared → Prop} {s : Shared}
theorem none_at (s : Shared) : s.heap.get? s.heap.objs.size = none := by
  cases q : s.heap.get? s.heap.objs.size with
  | none => rfl
  | some o => exact absurd (Heap.lt_size q) (Nat.lt_irrefl _)
theorem ns_fresh {h : Heap} {a : Addr} (ho : h.get? a = some (newSet w)) : NS w h a [] #[] 0 (.fresh 0 0 (!w.params.followText "set-order")) where
  ob := ⟨_, ho, ⟨rfl, rfl, rfl⟩, rfl⟩
  rows := rfl
  tab := ⟨List.Pairwise.nil, rfl, rfl, .inl rfl, fun x hx => (by cases hx), fun i h j hi => (by simp at hi)⟩
  nd := List.nodup_nil
  key := fun p hp => (by cases hp)
  plain := rfl
  led := by
    show _ ∨ (!w.params.followText "set-order") = true
    cases w.params.followText "set-order" <;> simp
  room := by show 0 * 5 < 7 * 3; decide
  few := by show 0 ≤ 76; decide
theorem loop_keys (ks : List Mem) {items : Array Value} (hit : items.toList = ks.map fun p => Value.ref p.1) (hk0 : ∀ p ∈ ks, Ky s.heap p.2 p.1) {D : List W} (hD : D.length ≤ 75) (hDk : ∀ p ∈ ks, p.2 ∈ D) (hu : A.units + 11 < cLine) :
    LoopsTo P w A s items (fun h' => ∃ L es ep t, NS w h' s.heap.objs.size L es ep t ∧ Has ks ks.length L) := by
  intro A' I fp wr G St R Wk s1 hA hSf hst hw hS old fin
  have hz : items.size = ks.length := by rw [← Array.length_toList, hit, List.length_map]
  refine update_loop Wk _ hSf ks hz hD hDk (fun i v hv => ?_) s.heap hk0 (none_at s) hw (by rw [Around.in1_units]; omega) (items.size - 0) 0 s1 rfl (Nat.zero_le _) hst old ⟨[], #[], 0, _, ns_fresh hS, ⟨fun p hp => (by cases hp), fun p hp => (by simp at hp)⟩⟩
    fun s' L es ep t mv hS' g' old' => fin s' mv ⟨L, es, ep, t, hS', by rw [hz] at g'; exact g'⟩ old'
  have q : items.toList[i]? = some v := by rw [Array.getElem?_toList]; exact hv
  rw [hit, List.getElem?_map] at q
  cases h : ks[i]? with
  | none => rw [h] at q; cases q
  | some p => rw [h] at q; exact ⟨p, rfl, (Option.some.inj q).symm⟩
theorem loop_ints {ns : List Int} {items : Array Value} (hit : IntsAre items.toList ns) (hb : items.size + 1 < scanBound) :
    LoopsTo P w A s items (fun h' => h'.SetOf (intKind P w) s.heap.objs.size (fun k' => (firstMet (fun i => ns.getD i 0) items.size).any (· == k')) (firstMet (fun i => ns.getD i 0) items.size).length) := by
  intro A' I fp wr G St R Wk s1 hA hSf hst hw hS old fin
  refine codeAny_set_update_loopS Wk _ hSf (fun i => ns.getD i 0) (fun i v hv => IntsAre.int_at hit i v (by rw [Array.getElem?_toList]; exact hv)) hb (items.size - 0) 0 s1 rfl (Nat.zero_le _) hst
    (SetOf_congr ((setObjOf_fresh (knd := intKind P w) (!w.params.followText "set-order")).setOf hS (by unfold scanBound; omega)) (fun _ => rfl) rfl) fun s' mv hS' => fin s' mv hS' fun b o e => mv.heap b o (fun hb => ?_) (old b o e)
  rcases List.mem_cons.mp hb with rfl | hb
  · rw [none_at] at e; cases e
  · rw [hw b hb] at e; cases e
theorem ks_of {h : Heap} : ∀ {ws : List W} {us : List Value}, LiesL h ws us → (∀ x ∈ ws, x.isT = true ∧ x.pi = true ∧ x.dep ≤ 8) → ∃ ks : List Mem, us = ks.map (fun p => Value.ref p.1) ∧ ws = ks.map (·.2) ∧ ∀ p ∈ ks, Ky h p.2 p.1
  | [], us, l, _ => by rw [LiesL] at l; subst l; exact ⟨[], rfl, rfl, fun p hp => (by cases hp)⟩
  | x :: ws, us, l, hx => by
    rw [LiesL] at l
    obtain ⟨u, r, rfl, l1, l2⟩ := l
    obtain ⟨ks, e1, e2, e3⟩ := ks_of l2 fun y hy => hx y (List.mem_cons_of_mem _ hy)
    obtain ⟨t1, t2, t3⟩ := hx x List.mem_cons_self
    have : ∃ b, u = .ref b := by
      cases x with
      | tup ws => rw [Lies] at l1; obtain ⟨b, _, e, _⟩ := l1; exact ⟨b, e⟩
      | _ => simp [W.isT] at t1
    obtain ⟨b, rfl⟩ := this
    refine ⟨(b, x) :: ks, by rw [e1]; rfl, by rw [e2]; rfl, fun p hp => ?_⟩
    rcases List.mem_cons.mp hp with rfl | hp
    · exact ⟨l1, t2, t3⟩
    · exact e3 p hp
theorem lies_ks {h : Heap} : ∀ {L : List Mem}, (∀ p ∈ L, Ky h p.2 p.1) → LiesL h (L.map (·.2)) (L.map fun p => Value.ref p.1)
  | [], _ => by simp [LiesL]
  | p :: L, hp => by
    rw [List.map_cons, List.map_cons, LiesL]
    exact ⟨_, _, rfl, (hp p List.mem_cons_self).lies, lies_ks fun q hq => hp q (List.mem_cons_of_mem _ hq)⟩
end
end Ev

set_option Elab.async false
set_option linter.all false
set_option maxRecDepth 100000
set_option maxHeartbeats 4000000
/-! What is asked of sets holds. -/
namespace Ev
open PySem PySem.Spec PyProof.Rows L2
open Classical
section
variable {C : Cf} {X : Cx}
theorem ints_rel {ρ : List Addr} {H : Hp} : ∀ {ws : List W} {vs : List V}, RWs C ρ H ws vs → (∀ x ∈ ws, ∃ i, x = .int i) → ∃ ns : List Int, ws = ns.map W.int ∧ vs = ns.map V.int
  | [], vs, q, _ => ⟨[], rfl, q.nil_iff⟩
  | x :: ws, vs, q, h => by
    obtain ⟨v, r, rfl, hv, hr⟩ := q.cons_iff
    obtain ⟨ns, e1, e2⟩ := ints_rel hr fun y hy => h y (List.mem_cons_of_mem _ hy)
    obtain ⟨i, rfl⟩ := h x List.mem_cons_self
    exact ⟨i :: ns, by rw [e1]; rfl, by rw [hv.int_iff, e2]; rfl⟩
theorem pe_len (hu : X.A.units + 66 < cLine) {a : Expr} {ta : TE} {p p2 q pos : Pos} (hc : X.calm = true) (hg : Gl X "len") (hm : X.mg "len" = none) (hg2 : Gl X "set") (hm2 : X.mg "set" = none) (ha : PE X a ta)
    (na : starEach [a] X.env = (false, eval a X.env) :: starEach [] X.env) : PE X (.Call (.Name "len" p) [.Call (.Name "set" p2) [a] [] q] [] pos) (fun σ H Q => ta σ H fun x H1 => r1 C (fun w m => evLenset w m) x H1 Q) := by
  refine ⟨fun pins s σ H Q I h => ?_⟩
  refine Call_ (ld_blt I hg hm PySem.boot_len ?_)
  refine PyProof.Rows.callWith_builtin1 (PyProof.Rows.args_cons ?_ rfl) rfl rfl
  refine Call_ (ld_blt I hg2 hm2 PyProof.Rows.boot_set ?_)
  refine PyProof.Rows.callWith_type1 (PyProof.Rows.args_cons (L2.thn (ha.run pins s σ H _ I h) fun v s1 ⟨x, H1, I1, rv, q1⟩ => PyProof.Rows.args_nil ?_) na) na rfl
  obtain ⟨σ', Wx, ρ, m, w0, R, qa, Pq⟩ := q1
  unfold evLenset at Pq
  cases e : iterOf m w0 with
  | none => simp only [seqOf, e, Res.of, Res.bind] at Pq; exact Pq.elim
  | some ws =>
    simp only [seqOf, e, Res.of, Res.bind] at Pq
    split at Pq
    · rename_i c
      obtain ⟨a', vs, rfl, qv, hs⟩ := seq_of X.K R qa e
      obtain rfl : v = .ref a' := rv
      obtain ⟨ns, rfl, rfl⟩ := ints_rel qv c.1
      have hl := c.2
      rw [List.length_map] at hl
      have fin : ∀ {T : String} {its : List Value} {o : Obj} {n : Nat}, Vals (ns.map V.int) its → s1.heap.get? a' = some o → o.cls = .type T → (T = "list" ∨ T = "tuple") → o.data = .seq its.toArray n →
          wpAny (model X.prog X.w) X.A (call (.type "set") [.ref a']) (fun v s' => wpAny (model X.prog X.w) X.A (call (.builtin "len") [v]) (EP X pins σ Q) X.xe s') X.xe s1 := by
        intro T its o n rs ho ht hT hd
        have hz : its.toArray.size = ns.length := by rw [List.size_toArray, ← rs.length, List.length_map]
        refine call_set (I1.ok.hd hc) ho ht hT hd (@loop_ints X.prog X.w X.A s1 ns its.toArray (by simpa using rs.ints) (by rw [hz]; unfold scanBound; omega)) fun h' tk hS hk => ?_
        rw [hz, met_len] at hS
        obtain ⟨o2, es, ep, t, ho2, hex, hd2, _, _, _, hf, hn⟩ := hS
        have I2 : Inv X pins σ H1 { s1 with heap := h', toks := tk } := I1.kept fun b o e => hk b o e
        have hlen := len_dedup (ns.map W.int)
        rw [List.length_map] at hlen
        exact call_len_set ho2 hex hd2 hf (by rw [hn] <;> omega) ⟨.int (dedup (ns.map W.int)).length, H1, I2.tok _, ⟨_, by rw [hn]⟩, Pq.here R RW.int⟩
      rcases hs with ⟨_, ha⟩ | hs
      · obtain ⟨its, rs, ⟨o, ho, ht, n, hd⟩, hz⟩ := I1.tuple (SqT.of ha)
        refine L2.thn (fin rs ho ht (.inr rfl) hd) fun v s' h => PyProof.Rows.args_nil h
      · obtain ⟨its, rs, ⟨o, n, ho, ht, _, hd⟩, hz⟩ := I1.list hs
        refine L2.thn (fin rs ho ht (.inl rfl) hd) fun v s' h => PyProof.Rows.args_nil h
    · exact Pq.elim
theorem pe_sort (hu : X.A.units + 66 < cLine) {a : Expr} {ta : TE} {p p2 q pos : Pos} (hc : X.calm = true) (hg : Gl X "sorted") (hm : X.mg "sorted" = none) (hg2 : Gl X "set") (hm2 : X.mg "set" = none) (ha : PE X a ta)
    (na : starEach [a] X.env = (false, eval a X.env) :: starEach [] X.env) : PE X (.Call (.Name "sorted" p) [.Call (.Name "set" p2) [a] [] q] [] pos) (fun σ H Q => ta σ H fun x H1 => r1 C (fun w m => evSortset w m) x H1 Q) := by
  refine ⟨fun pins s σ H Q I h => ?_⟩
  refine Call_ (ld_blt I hg hm boot_sorted ?_)
  refine PyProof.Rows.callWith_builtin1 (PyProof.Rows.args_cons ?_ rfl) rfl rfl
  refine Call_ (ld_blt I hg2 hm2 PyProof.Rows.boot_set ?_)
  refine PyProof.Rows.callWith_type1 (PyProof.Rows.args_cons (L2.thn (ha.run pins s σ H _ I h) fun v s1 ⟨x, H1, I1, rv, q1⟩ => PyProof.Rows.args_nil ?_) na) na rfl
  obtain ⟨σ', Wx, ρ, m, w0, R, qa, Pq⟩ := q1
  unfold evSortset at Pq
  cases e : iterOf m w0 with
  | none => simp only [seqOf, e, Res.of, Res.bind] at Pq; exact Pq.elim
  | some ws =>
    simp only [seqOf, e, Res.of, Res.bind] at Pq
    split at Pq
    · rename_i c
      obtain ⟨⟨c, hT⟩, h4, h75⟩ := c
      obtain ⟨a', vs, rfl, qv, hs⟩ := seq_of X.K R qa e
      obtain rfl : v = .ref a' := rv
      have pl : ∀ w ∈ ws, w.plain = true := fun w hw => (c.1 w hw).1
      have fin : ∀ {T : String} {its : List Value} {o : Obj} {n : Nat}, Vals vs its → s1.heap.get? a' = some o → o.cls = .type T → (T = "list" ∨ T = "tuple") → o.data = .seq its.toArray n →
          wpAny (model X.prog X.w) X.A (call (.type "set") [.ref a']) (fun v s' => wpAny (model X.prog X.w) X.A (call (.builtin "sorted") [v]) (EP X pins σ Q) X.xe s') X.xe s1 := by
        intro T its o n rs ho ht hTT hd
        have lies := liesL_of I1 (plainL_of pl) qv rs
        obtain ⟨ks, e1, e2, hk0⟩ := ks_of lies fun x hx => ⟨(hT x hx).1, (hT x hx).2, (c.1 x hx).2.1⟩
        have hDk : ∀ p ∈ ks, p.2 ∈ dedup ws := fun p hp => mem_dedup.mpr (by rw [e2]; exact List.mem_map.mpr ⟨p, hp, rfl⟩)
        refine call_set (I1.ok.hd hc) ho ht hTT hd (@loop_keys X.prog X.w X.A s1 ks its.toArray (by simpa using e1) hk0 (dedup ws) h75 hDk (by omega)) fun h' tk ⟨L, es, ep, t, hS, g⟩ hk => ?_
        have sub : ∀ p ∈ L, p ∈ ks := fun p hp => List.mem_of_mem_take (g.sub p hp)
        have pmem : ∀ x, x ∈ L.map (·.2) ↔ x ∈ dedup ws := fun x => by
          rw [mem_dedup, e2]
          constructor
          · intro hx
            obtain ⟨p, hp, rfl⟩ := List.mem_map.mp hx
            exact List.mem_map.mpr ⟨p, sub p hp, rfl⟩
          · intro hx
            obtain ⟨p, hp, rfl⟩ := List.mem_map.mp hx
            exact g.all p (by rw [List.take_length]; exact hp)
        have pL : (L.map (·.2)).Perm (dedup ws) := (List.perm_ext_iff_of_nodup hS.nd (dedup_nodup ws)).mpr pmem
        have cd : comparable (dedup ws) := ⟨fun x hx => c.1 x (mem_dedup.mp hx), fun x hx y hy => c.2 x (mem_dedup.mp hx) y (mem_dedup.mp hy)⟩
        have cL : comparable (L.map (·.2)) := comp_perm pL cd
        have hz := size_of hS.rows
        have few := hS.few
        refine sorted_gen (s := { s1 with heap := h', toks := tk }) (src := its) (ws := L.map (·.2)) cL (by omega) (fun A' E' Q' hA hq => ?_) fun s' d out lo keep hd2 hg hos hzo hmo hno => ?_
        · obtain ⟨o2, ho2, hex, hd3⟩ := hS.ob
          refine collect_set (by rw [hA]; exact I1.ok.hd hc) ⟨o2, ho2, hex.1, hd3⟩ (NS.fits (s := { s1 with heap := h', toks := tk }) hS) (by rw [hz]; unfold scanBound; omega) hS.tab.ris hS.led fun s' out k z g1 o1 pm => ?_
          rw [hS.rows, List.map_map] at pm
          obtain ⟨L', f1, f2⟩ := perm_of_map (fun p : Mem => Value.ref p.1) (show out.Perm (L.map fun p => Value.ref p.1) from pm)
          refine hq out s' ⟨k, z, g1, o1, ⟨L'.map (·.2), f2.map _, ?_⟩, by rw [f1, List.length_map, f2.length_eq, sizeLine_eq]; omega, fun u hu => ?_⟩
          · rw [f1]
            exact lies_ks fun p hp => (hS.key p (f2.mem_iff.mp hp)).keep fun b o e _ => k b o e
          · rw [f1] at hu
            obtain ⟨p, hp, rfl⟩ := List.mem_map.mp hu
            rw [e1]
            exact List.mem_map.mpr ⟨p, sub p (f2.mem_iff.mp hp), rfl⟩
        · have keep1 : ∀ b o, s1.heap.get? b = some o → s'.heap.get? b = some o := fun b o e => keep b o (hk b o e)
          obtain ⟨vs', j1, j2⟩ := out_vals I1 qv rs pl keep1 lo hmo
          have sz : s1.heap.objs.size ≤ d := by
            refine Nat.le_trans (Nat.le_of_not_lt fun hlt => ?_) hd2
            obtain ⟨o2, ho2, _⟩ := hS.ob
            exact absurd (Heap.lt_size ho2) (Nat.not_lt.mpr (Nat.le_of_lt hlt))
          rw [sortW_perm_eq pL cd] at j2
          exact ⟨.ref d, _, inv_newlist I1 keep1 sz hg hos j1 hzo hno, rfl, PR.lst R j2 (I1.hok.fresh sz) Pq⟩
      rcases hs with ⟨_, ha⟩ | hs
      · obtain ⟨its, rs, ⟨o, ho, ht, n, hd⟩, hz⟩ := I1.tuple (SqT.of ha)
        refine L2.thn (fin rs ho ht (.inr rfl) hd) fun v s' h => PyProof.Rows.args_nil h
      · obtain ⟨its, rs, ⟨o, n, ho, ht, _, hd⟩, hz⟩ := I1.list hs
        refine L2.thn (fin rs ho ht (.inl rfl) hd) fun v s' h => PyProof.Rows.args_nil h
    · exact Pq.elim
end
theorem setOk (C : Cf) : SetOk C where
  len := fun {X P call E0} G {p p2 pos pos2 a fa} hg hg2 hs ha => by
    have hm : ∀ x ∈ biNames, X.mg x = none := G.bi
    refine PE_imp (pe_len (C := C) G.hu G.calm hg (hm _ (by decide)) hg2 (hm _ (by decide)) ha (star_of hs)) fun σ H Q ⟨ρ, en, m, E, R, P⟩ => ?_
    have P1 := PR.gc R P
    rw [Res.bind_assoc] at P1
    exact ⟨ρ, en, m, E, R, PR.then (rel := RW C) P1 fun v H1 ρ1 w m1 x R1 q P2 => ⟨σ, wx E0, ρ1, m1, w, R1, q, P2⟩⟩
  sort := fun {X P call E0} G {p p2 pos pos2 a fa} hg hg2 hs ha => by
    have hm : ∀ x ∈ biNames, X.mg x = none := G.bi
    refine PE_imp (pe_sort (C := C) G.hu G.calm hg (hm _ (by decide)) hg2 (hm _ (by decide)) ha (star_of hs)) fun σ H Q ⟨ρ, en, m, E, R, P⟩ => ?_
    have P1 := PR.gc R P
    rw [Res.bind_assoc] at P1
    exact ⟨ρ, en, m, E, R, PR.then (rel := RW C) P1 fun v H1 ρ1 w m1 x R1 q P2 => ⟨σ, wx E0, ρ1, m1, w, R1, q, P2⟩⟩
end Ev

set_option Elab.async false
set_option linter.all false
set_option maxRecDepth 1000000
set_option maxHeartbeats 4000000
namespace K74
open PySem L2 Ev
/-! the defs -/
def d_is_between : Def := ⟨["thing", "low", "high"], 3,
  (.cons (.rt (.and (.isi (.var 0) .int) (.and (.una .not (.isi (.var 0) .bool)) (.chn .le (.var 1) (.var 0) .le (.var 2))))) .nil), false⟩
def n_is_between : List Str := ["thing", "low", "high"]
def d_is_rising_pair : Def := ⟨["many", "thing"], 3,
  (.cons (.ite (.or (.una .not (.isi (.var 1) .tuple)) (.or (.cmp .ne (.bi .len (.cons (.var 1) .nil)) (.int 2)) (.una .not (.bi .all (.cons (.lc [2] (.call "is_between" (.cons (.var 2) (.cons (.int 0) (.cons (.bin .sub (.var 0) (.int 1)) .nil)))) (.cons (.v 2) (.of (.var 1)) .none .nil)) .nil))))) (.cons (.rt (.bl false)) .nil) .nil) (.cons (.rt (.cmp .lt (.idx (.var 1) (.int 0)) (.idx (.var 1) (.int 1)))) .nil)), false⟩
def n_is_rising_pair : List Str := ["many", "thing", "item"]
def d_is_quartet : Def := ⟨["many", "thing"], 3,
  (.cons (.ite (.or (.una .not (.isi (.var 1) .tuple)) (.or (.cmp .ne (.bi .len (.cons (.var 1) .nil)) (.int 2)) (.una .not (.bi .all (.cons (.lc [2] (.call "is_rising_pair" (.cons (.var 0) (.cons (.var 2) .nil))) (.cons (.v 2) (.of (.var 1)) .none .nil)) .nil))))) (.cons (.rt (.bl false)) .nil) .nil) (.cons (.rt (.and (.cmp .lt (.idx (.idx (.var 1) (.int 0)) (.int 0)) (.idx (.idx (.var 1) (.int 1)) (.int 0))) (.cmp .eq (.bi .lenset (.cons (.bin .add (.idx (.var 1) (.int 0)) (.idx (.var 1) (.int 1))) .nil)) (.int 4)))) .nil)), false⟩
def n_is_quartet : List Str := ["many", "thing", "pair"]
def d_need_many_valleys : Def := ⟨["many"], 1,
  (.cons (.ite (.una .not (.call "is_between" (.cons (.var 0) (.cons (.int 1) (.cons (.int 12) .nil))))) (.cons (.rse "BadMany" .nil) .nil) .nil) .nil), false⟩
def n_need_many_valleys : List Str := ["many"]
def d_quartet_told : Def := ⟨["one", "other", "third", "fourth"], 4,
  (.cons (.rt (.bi .tuple (.cons (.bi .sorted (.cons (.lst (.cons (.bi .tuple (.cons (.bi .sorted (.cons (.lst (.cons (.var 0) (.cons (.var 1) .nil))) .nil)) .nil)) (.cons (.bi .tuple (.cons (.bi .sorted (.cons (.lst (.cons (.var 2) (.cons (.var 3) .nil))) .nil)) .nil)) .nil))) .nil)) .nil))) .nil), false⟩
def n_quartet_told : List Str := ["one", "other", "third", "fourth"]
def d_namings : Def := ⟨["quartet"], 10,
  (.cons (.asg (.t [(.v 1), (.v 2)]) (.idx (.var 0) (.int 0))) (.cons (.asg (.t [(.v 3), (.v 4)]) (.idx (.var 0) (.int 1))) (.cons (.asg (.v 5) (.lst .nil)) (.cons (.for_ (.t [(.v 6), (.v 7), (.v 8), (.v 9)]) (.of (.tup (.cons (.tup (.cons (.var 1) (.cons (.var 2) (.cons (.var 3) (.cons (.var 4) .nil))))) (.cons (.tup (.cons (.var 3) (.cons (.var 4) (.cons (.var 1) (.cons (.var 2) .nil))))) .nil)))) (.cons (.ex (.meth (.var 5) .extend (.cons (.lst (.cons (.tup (.cons (.var 6) (.cons (.var 7) (.cons (.var 8) (.cons (.var 9) .nil))))) (.cons (.tup (.cons (.var 7) (.cons (.var 6) (.cons (.var 8) (.cons (.var 9) .nil))))) .nil))) .nil))) (.cons (.ex (.meth (.var 5) .extend (.cons (.lst (.cons (.tup (.cons (.var 6) (.cons (.var 7) (.cons (.var 9) (.cons (.var 8) .nil))))) (.cons (.tup (.cons (.var 7) (.cons (.var 6) (.cons (.var 9) (.cons (.var 8) .nil))))) .nil))) .nil))) .nil)) [6, 7, 8, 9]) (.cons (.rt (.var 5)) .nil))))), false⟩
def n_namings : List Str := ["quartet", "one", "other", "third", "fourth", "found", "first", "second", "beyond", "last"]
def d_keeps_rules : Def := ⟨["known", "naming", "fifth"], 8,
  (.cons (.asg (.t [(.v 3), (.v 4), (.v 5), (.v 6)]) (.var 1)) (.cons (.asg (.v 7) (.cmp .inn (.call "quartet_told" (.cons (.var 3) (.cons (.var 4) (.cons (.var 5) (.cons (.var 2) .nil))))) (.var 0))) (.cons (.ite (.and (.var 7) (.cmp .nin (.call "quartet_told" (.cons (.var 3) (.cons (.var 4) (.cons (.var 6) (.cons (.var 2) .nil))))) (.var 0))) (.cons (.rt (.bl false)) .nil) .nil) (.cons (.rt (.or (.var 7) (.cmp .inn (.call "quartet_told" (.cons (.var 3) (.cons (.var 2) (.cons (.var 5) (.cons (.var 6) .nil))))) (.var 0)))) .nil)))), false⟩
def n_keeps_rules : List Str := ["known", "naming", "fifth", "one", "other", "third", "fourth", "near"]
def d_is_alone : Def := ⟨["known", "quartet"], 6,
  (.cons (.asg (.t [(.v 2), (.v 3)]) (.idx (.var 1) (.int 0))) (.cons (.asg (.t [(.v 4), (.v 5)]) (.idx (.var 1) (.int 1))) (.cons (.rt (.and (.cmp .nin (.call "quartet_told" (.cons (.var 2) (.cons (.var 4) (.cons (.var 3) (.cons (.var 5) .nil))))) (.var 0)) (.cmp .nin (.call "quartet_told" (.cons (.var 2) (.cons (.var 5) (.cons (.var 3) (.cons (.var 4) .nil))))) (.var 0)))) .nil))), false⟩
def n_is_alone : List Str := ["known", "quartet", "one", "other", "third", "fourth"]
def d_are_quartets_of : Def := ⟨["many", "thing"], 10,
  (.cons (.ite (.or (.una .not (.isi (.var 1) .tuple)) (.una .not (.bi .all (.cons (.lc [3] (.call "is_quartet" (.cons (.var 0) (.cons (.var 3) .nil))) (.cons (.v 3) (.of (.var 1)) .none .nil)) .nil)))) (.cons (.rt (.bl false)) .nil) .nil) (.cons (.ite (.una .not (.bi .all (.cons (.lc [5, 6] (.cmp .lt (.var 5) (.var 6)) (.cons (.t [(.v 5), (.v 6)]) (.zip (.var 1) (.slc (.var 1) (.some (.int 1)) .none)) .none .nil)) .nil))) (.cons (.rt (.bl false)) .nil) .nil) (.cons (.asg (.v 2) (.dc [3] (.var 3) (.bl true) (.cons (.v 3) (.of (.var 1)) .none .nil))) (.cons (.for_ (.v 3) (.of (.var 1)) (.cons (.asg (.v 4) (.lc [7] (.var 7) (.cons (.v 7) (.rng (.cons (.var 0) .nil)) (.some (.cmp .nin (.var 7) (.bin .add (.idx (.var 3) (.int 0)) (.idx (.var 3) (.int 1))))) .nil))) (.cons (.ite (.una .not (.call "is_alone" (.cons (.var 2) (.cons (.var 3) .nil)))) (.cons (.rt (.bl false)) .nil) .nil) (.cons (.ite (.una .not (.bi .all (.cons (.lc [8, 9] (.call "keeps_rules" (.cons (.var 2) (.cons (.var 8) (.cons (.var 9) .nil)))) (.cons (.v 8) (.of (.call "namings" (.cons (.var 3) .nil))) .none (.cons (.v 9) (.of (.var 4)) .none .nil))) .nil))) (.cons (.rt (.bl false)) .nil) .nil) .nil))) [3, 4]) (.cons (.rt (.bl true)) .nil))))), false⟩
def n_are_quartets_of : List Str := ["many", "thing", "known", "quartet", "others", "one", "other", "valley", "naming", "fifth"]
def d_are_quartets : Def := ⟨["many", "thing"], 2,
  (.cons (.ex (.call "need_many_valleys" (.cons (.var 0) .nil))) (.cons (.rt (.call "are_quartets_of" (.cons (.var 0) (.cons (.var 1) .nil)))) .nil)), true⟩
def n_are_quartets : List Str := ["many", "thing"]
def d__law_begun : Def := ⟨["_law_script"], 4,
  (.cons (.asg (.v 1) (.lc [3] (.bi .abs (.cons (.var 3) .nil)) (.cons (.v 3) (.of (.var 0)) .none .nil))) (.cons (.asg (.v 2) (.lc [3] (.bin .sub (.var 3) (.bin .pow (.int 10) (.int 18))) (.cons (.v 3) (.of (.var 1)) (.some (.cmp .ge (.var 3) (.bin .pow (.int 10) (.int 18)))) .nil))) (.cons (.rt (.dct (.cons (.str "large") (.var 2) (.cons (.str "cells") (.var 1) (.cons (.str "left") (.int 0) (.cons (.str "turn") (.int 0) .nil)))))) .nil))), false⟩
def n__law_begun : List Str := ["_law_script", "_law_cells_here", "_law_large", "_law_cell"]
def d__law_draw : Def := ⟨["_law_state", "_law_size_here"], 6,
  (.cons (.whl (.and (.cmp .eq (.idx (.var 0) (.str "left")) (.int 0)) (.cmp .ne (.idx (.var 0) (.str "large")) (.lst .nil))) (.cons (.aset (.var 0) (.str "left") (.meth (.idx (.var 0) (.str "large")) .pop (.cons (.int 0) .nil))) .nil) []) (.cons (.ite (.cmp .gt (.idx (.var 0) (.str "left")) (.int 0)) (.cons (.asg (.v 2) (.bin .mod (.bi .int (.cons (.idx (.var 0) (.str "left")) .nil)) (.var 1))) (.cons (.aset (.var 0) (.str "left") (.bin .div (.idx (.var 0) (.str "left")) (.var 1))) (.cons (.rt (.var 2)) .nil))) .nil) (.cons (.asg (.v 3) (.bin .add (.idx (.var 0) (.str "turn")) (.int 1))) (.cons (.aset (.var 0) (.str "turn") (.var 3)) (.cons (.asg (.v 4) (.ite (.cmp .ne (.idx (.var 0) (.str "cells")) (.lst .nil)) (.idx (.idx (.var 0) (.str "cells")) (.bin .mod (.bi .int (.cons (.var 3) .nil)) (.bi .len (.cons (.idx (.var 0) (.str "cells")) .nil)))) (.int 0))) (.cons (.asg (.v 5) (.bin .mod (.bi .int (.cons (.bin .pow (.bin .add (.bin .add (.bin .mod (.bi .int (.cons (.var 4) .nil)) (.int 2147483563)) (.bin .mul (.int 40692) (.var 3))) (.int 24681)) (.int 3)) .nil)) (.int 2147483629))) (.cons (.rt (.bin .mod (.bi .int (.cons (.bin .div (.bin .mod (.bi .int (.cons (.bin .pow (.bin .add (.var 5) (.bin .mul (.int 104917) (.var 3))) (.int 5)) .nil)) (.int 2147483579)) (.int 29)) .nil)) (.var 1))) .nil))))))), false⟩
def n__law_draw : List Str := ["_law_state", "_law_size_here", "_law_found", "_law_turn", "_law_cell", "_law_mixed_here"]
def d__law_pick : Def := ⟨["_law_state", "_law_several"], 2,
  (.cons (.rt (.idx (.var 1) (.call "_law_draw" (.cons (.var 0) (.cons (.bi .len (.cons (.var 1) .nil)) .nil))))) .nil), false⟩
def n__law_pick : List Str := ["_law_state", "_law_several"]
def d__law_mixed : Def := ⟨["_law_state", "_law_several"], 4,
  (.cons (.asg (.t [(.v 2), (.v 3)]) (.tup (.cons (.bi .list (.cons (.var 1) .nil)) (.cons (.lst .nil) .nil)))) (.cons (.whl (.cmp .ne (.var 2) (.lst .nil)) (.cons (.ex (.meth (.var 3) .append (.cons (.meth (.var 2) .pop (.cons (.call "_law_draw" (.cons (.var 0) (.cons (.bi .len (.cons (.var 2) .nil)) .nil))) .nil)) .nil))) .nil) []) (.cons (.rt (.var 3)) .nil))), false⟩
def n__law_mixed : List Str := ["_law_state", "_law_several", "_law_left", "_law_found"]
def d__law_is_whole : Def := ⟨["_law_item"], 1,
  (.cons (.rt (.and (.isi (.var 0) .int) (.una .not (.isi (.var 0) .bool)))) .nil), false⟩
def n__law_is_whole : List Str := ["_law_item"]
def d__law_is_below : Def := ⟨["_law_item", "_law_size_here"], 2,
  (.cons (.rt (.and (.call "_law_is_whole" (.cons (.var 0) .nil)) (.chn .le (.int 0) (.var 0) .lt (.var 1)))) .nil), false⟩
def n__law_is_below : List Str := ["_law_item", "_law_size_here"]
def d__law_pairs : Def := ⟨["_law_several"], 5,
  (.cons (.asg (.v 1) (.lst .nil)) (.cons (.for_ (.t [(.v 2), (.v 3)]) (.enum (.var 0)) (.cons (.ex (.meth (.var 1) .extend (.cons (.lc [4] (.tup (.cons (.var 3) (.cons (.var 4) .nil))) (.cons (.v 4) (.of (.slc (.var 0) (.some (.bin .add (.var 2) (.int 1))) .none)) .none .nil)) .nil))) .nil) [2, 3]) (.cons (.rt (.var 1)) .nil))), false⟩
def n__law_pairs : List Str := ["_law_several", "_law_found", "_law_spot", "_law_one", "_law_other"]
def d__law_parted : Def := ⟨["_law_some", "_law_one", "_law_other"], 7,
  (.cons (.for_ (.v 3) (.of (.var 0)) (.cons (.asg (.t [(.v 4), (.v 5)]) (.tup (.cons (.lc [6] (.cmp .inn (.var 6) (.var 3)) (.cons (.v 6) (.of (.var 1)) .none .nil)) (.cons (.lc [6] (.cmp .inn (.var 6) (.var 3)) (.cons (.v 6) (.of (.var 2)) .none .nil)) .nil)))) (.cons (.ite (.or (.and (.cmp .nin (.bl false) (.var 4)) (.cmp .nin (.bl true) (.var 5))) (.and (.cmp .nin (.bl true) (.var 4)) (.cmp .nin (.bl false) (.var 5)))) (.cons (.rt (.bl true)) .nil) .nil) .nil)) [3, 4, 5]) (.cons (.rt (.bl false)) .nil)), false⟩
def n__law_parted : List Str := ["_law_some", "_law_one", "_law_other", "_law_lot", "_law_here", "_law_there", "_law_item"]
def d__law_four : Def := ⟨["_law_one", "_law_other", "_law_third", "_law_fourth"], 4,
  (.cons (.rt (.bi .tuple (.cons (.bi .sorted (.cons (.lst (.cons (.tup (.cons (.bi .min (.cons (.var 0) (.cons (.var 1) .nil))) (.cons (.bi .max (.cons (.var 0) (.cons (.var 1) .nil))) .nil))) (.cons (.tup (.cons (.bi .min (.cons (.var 2) (.cons (.var 3) .nil))) (.cons (.bi .max (.cons (.var 2) (.cons (.var 3) .nil))) .nil))) .nil))) .nil)) .nil))) .nil), false⟩
def n__law_four : List Str := ["_law_one", "_law_other", "_law_third", "_law_fourth"]
def d__law_quartets : Def := ⟨["_law_many"], 6,
  (.cons (.asg (.v 1) (.lst .nil)) (.cons (.for_ (.t [(.v 2), (.v 3)]) (.of (.call "_law_pairs" (.cons (.bi .lrange (.cons (.var 0) .nil)) .nil))) (.cons (.for_ (.t [(.v 4), (.v 5)]) (.of (.call "_law_pairs" (.cons (.bi .lrange (.cons (.var 0) .nil)) .nil))) (.cons (.ite (.and (.cmp .lt (.var 2) (.var 4)) (.and (.cmp .ne (.var 3) (.var 4)) (.cmp .ne (.var 3) (.var 5)))) (.cons (.ex (.meth (.var 1) .append (.cons (.tup (.cons (.tup (.cons (.var 2) (.cons (.var 3) .nil))) (.cons (.tup (.cons (.var 4) (.cons (.var 5) .nil))) .nil))) .nil))) .nil) .nil) .nil) [4, 5]) .nil) [2, 3, 4, 5]) (.cons (.rt (.bi .sorted (.cons (.var 1) .nil))) .nil))), false⟩
def n__law_quartets : List Str := ["_law_many", "_law_found", "_law_one", "_law_other", "_law_third", "_law_fourth"]
def d__law_quartets_of : Def := ⟨["_law_many", "_law_some"], 3,
  (.cons (.rt (.lc [2] (.var 2) (.cons (.v 2) (.of (.call "_law_quartets" (.cons (.var 0) .nil))) (.some (.call "_law_parted" (.cons (.var 1) (.cons (.idx (.var 2) (.int 0)) (.cons (.idx (.var 2) (.int 1)) .nil))))) .nil))) .nil), false⟩
def n__law_quartets_of : List Str := ["_law_many", "_law_some", "_law_each"]
def d__law_is_quartet : Def := ⟨["_law_many", "_law_item"], 4,
  (.cons (.ite (.or (.una .not (.isi (.var 1) .tuple)) (.cmp .ne (.bi .len (.cons (.var 1) .nil)) (.int 2))) (.cons (.rt (.bl false)) .nil) .nil) (.cons (.for_ (.v 2) (.of (.var 1)) (.cons (.ite (.or (.una .not (.isi (.var 2) .tuple)) (.cmp .ne (.bi .len (.cons (.var 2) .nil)) (.int 2))) (.cons (.rt (.bl false)) .nil) .nil) (.cons (.ite (.or (.cmp .ne (.lc [3] (.int 1) (.cons (.v 3) (.of (.var 2)) (.some (.una .not (.call "_law_is_below" (.cons (.var 3) (.cons (.var 0) .nil))))) .nil)) (.lst .nil)) (.cmp .ge (.idx (.var 2) (.int 0)) (.idx (.var 2) (.int 1)))) (.cons (.rt (.bl false)) .nil) .nil) .nil)) [2]) (.cons (.rt (.and (.cmp .lt (.idx (.idx (.var 1) (.int 0)) (.int 0)) (.idx (.idx (.var 1) (.int 1)) (.int 0))) (.cmp .eq (.bi .lenset (.cons (.bin .add (.idx (.var 1) (.int 0)) (.idx (.var 1) (.int 1))) .nil)) (.int 4)))) .nil))), false⟩
def n__law_is_quartet : List Str := ["_law_many", "_law_item", "_law_pair", "_law_each"]
def d__law_fifths : Def := ⟨["_law_many", "_law_item"], 3,
  (.cons (.rt (.lc [2] (.var 2) (.cons (.v 2) (.rng (.cons (.var 0) .nil)) (.some (.and (.cmp .nin (.var 2) (.idx (.var 1) (.int 0))) (.cmp .nin (.var 2) (.idx (.var 1) (.int 1))))) .nil))) .nil), false⟩
def n__law_fifths : List Str := ["_law_many", "_law_item", "_law_each"]
def d__law_ways_told : Def := ⟨["_law_item"], 6,
  (.cons (.asg (.v 1) (.lst .nil)) (.cons (.for_ (.t [(.v 2), (.v 3)]) (.of (.lst (.cons (.tup (.cons (.idx (.var 0) (.int 0)) (.cons (.idx (.var 0) (.int 1)) .nil))) (.cons (.tup (.cons (.idx (.var 0) (.int 1)) (.cons (.idx (.var 0) (.int 0)) .nil))) .nil)))) (.cons (.for_ (.t [(.v 4), (.v 5)]) (.of (.lst (.cons (.tup (.cons (.idx (.var 2) (.int 0)) (.cons (.idx (.var 2) (.int 1)) .nil))) (.cons (.tup (.cons (.idx (.var 2) (.int 1)) (.cons (.idx (.var 2) (.int 0)) .nil))) .nil)))) (.cons (.asg (.v 1) (.bin .add (.var 1) (.lst (.cons (.tup (.cons (.var 4) (.cons (.var 5) (.cons (.idx (.var 3) (.int 0)) (.cons (.idx (.var 3) (.int 1)) .nil))))) (.cons (.tup (.cons (.var 4) (.cons (.var 5) (.cons (.idx (.var 3) (.int 1)) (.cons (.idx (.var 3) (.int 0)) .nil))))) .nil))))) .nil) [4, 5]) .nil) [2, 3, 4, 5]) (.cons (.rt (.var 1)) .nil))), false⟩
def n__law_ways_told : List Str := ["_law_item", "_law_found", "_law_here", "_law_there", "_law_one", "_law_other"]
def d__law_first_rule : Def := ⟨["_law_several"], 6,
  (.cons (.for_ (.v 1) (.of (.var 0)) (.cons (.asg (.t [(.v 2), (.v 3), (.v 4), (.v 5)]) (.bin .add (.idx (.var 1) (.int 0)) (.idx (.var 1) (.int 1)))) (.cons (.ite (.or (.cmp .inn (.call "_law_four" (.cons (.var 2) (.cons (.var 4) (.cons (.var 3) (.cons (.var 5) .nil))))) (.var 0)) (.cmp .inn (.call "_law_four" (.cons (.var 2) (.cons (.var 5) (.cons (.var 3) (.cons (.var 4) .nil))))) (.var 0))) (.cons (.rt (.bl false)) .nil) .nil) .nil)) [1, 2, 3, 4, 5]) (.cons (.rt (.bl true)) .nil)), false⟩
def n__law_first_rule : List Str := ["_law_several", "_law_item", "_law_one", "_law_other", "_law_third", "_law_fourth"]
def d__law_second_rule : Def := ⟨["_law_many", "_law_several"], 9,
  (.cons (.for_ (.v 2) (.of (.var 1)) (.cons (.for_ (.t [(.v 3), (.v 4), (.v 5), (.v 6)]) (.of (.call "_law_ways_told" (.cons (.var 2) .nil))) (.cons (.for_ (.v 7) (.of (.call "_law_fifths" (.cons (.var 0) (.cons (.var 2) .nil)))) (.cons (.asg (.v 8) (.cmp .inn (.call "_law_four" (.cons (.var 3) (.cons (.var 4) (.cons (.var 5) (.cons (.var 7) .nil))))) (.var 1))) (.cons (.ite (.and (.var 8) (.cmp .nin (.call "_law_four" (.cons (.var 3) (.cons (.var 4) (.cons (.var 6) (.cons (.var 7) .nil))))) (.var 1))) (.cons (.rt (.bl false)) .nil) .nil) .nil)) [7, 8]) .nil) [3, 4, 5, 6, 7, 8]) .nil) [2, 3, 4, 5, 6, 7, 8]) (.cons (.rt (.bl true)) .nil)), false⟩
def n__law_second_rule : List Str := ["_law_many", "_law_several", "_law_item", "_law_one", "_law_other", "_law_third", "_law_fourth", "_law_fifth", "_law_near"]
def d__law_third_rule : Def := ⟨["_law_many", "_law_several"], 9,
  (.cons (.for_ (.v 2) (.of (.var 1)) (.cons (.for_ (.t [(.v 3), (.v 4), (.v 5), (.v 6)]) (.of (.call "_law_ways_told" (.cons (.var 2) .nil))) (.cons (.for_ (.v 7) (.of (.call "_law_fifths" (.cons (.var 0) (.cons (.var 2) .nil)))) (.cons (.asg (.v 8) (.cmp .inn (.call "_law_four" (.cons (.var 3) (.cons (.var 4) (.cons (.var 5) (.cons (.var 7) .nil))))) (.var 1))) (.cons (.ite (.and (.una .not (.var 8)) (.cmp .nin (.call "_law_four" (.cons (.var 3) (.cons (.var 7) (.cons (.var 5) (.cons (.var 6) .nil))))) (.var 1))) (.cons (.rt (.bl false)) .nil) .nil) .nil)) [7, 8]) .nil) [3, 4, 5, 6, 7, 8]) .nil) [2, 3, 4, 5, 6, 7, 8]) (.cons (.rt (.bl true)) .nil)), false⟩
def n__law_third_rule : List Str := ["_law_many", "_law_several", "_law_item", "_law_one", "_law_other", "_law_third", "_law_fourth", "_law_fifth", "_law_near"]
def d__law_are_quartets : Def := ⟨["_law_many", "_law_thing"], 3,
  (.cons (.ite (.or (.una .not (.isi (.var 1) .tuple)) (.cmp .ne (.lc [2] (.int 1) (.cons (.v 2) (.of (.var 1)) (.some (.una .not (.call "_law_is_quartet" (.cons (.var 0) (.cons (.var 2) .nil))))) .nil)) (.lst .nil))) (.cons (.rt (.bl false)) .nil) .nil) (.cons (.ite (.or (.cmp .ne (.bi .list (.cons (.var 1) .nil)) (.bi .sortset (.cons (.var 1) .nil))) (.una .not (.call "_law_first_rule" (.cons (.var 1) .nil)))) (.cons (.rt (.bl false)) .nil) .nil) (.cons (.rt (.and (.call "_law_second_rule" (.cons (.var 0) (.cons (.var 1) .nil))) (.call "_law_third_rule" (.cons (.var 0) (.cons (.var 1) .nil))))) .nil))), false⟩
def n__law_are_quartets : List Str := ["_law_many", "_law_thing", "_law_item"]
def d__law_grown_lots : Def := ⟨["_law_state", "_law_many"], 8,
  (.cons (.asg (.v 2) (.lc [6] (.tup (.cons (.var 6) .nil)) (.cons (.v 6) (.rng (.cons (.int 1) (.cons (.var 1) .nil))) .none .nil))) (.cons (.asg (.v 3) (.lc [7] (.var 7) (.cons (.v 7) (.of (.var 2)) (.some (.cmp .eq (.call "_law_draw" (.cons (.var 0) (.cons (.int 2) .nil))) (.int 0))) .nil))) (.cons (.whl (.cmp .gt (.bi .len (.cons (.var 2) .nil)) (.int 1)) (.cons (.asg (.v 4) (.meth (.var 2) .pop (.cons (.call "_law_draw" (.cons (.var 0) (.cons (.bi .len (.cons (.var 2) .nil)) .nil))) .nil))) (.cons (.asg (.v 5) (.meth (.var 2) .pop (.cons (.call "_law_draw" (.cons (.var 0) (.cons (.bi .len (.cons (.var 2) .nil)) .nil))) .nil))) (.cons (.ex (.meth (.var 2) .append (.cons (.bi .tuple (.cons (.bi .sorted (.cons (.bin .add (.var 4) (.var 5)) .nil)) .nil)) .nil))) (.cons (.ite (.cmp .gt (.call "_law_draw" (.cons (.var 0) (.cons (.int 4) .nil))) (.int 0)) (.cons (.ex (.meth (.var 3) .append (.cons (.idx (.var 2) (.una .neg (.int 1))) .nil))) .nil) .nil) .nil)))) [4, 5]) (.cons (.rt (.bi .tuple (.cons (.bi .sorted (.cons (.var 3) .nil)) .nil))) .nil)))), false⟩
def n__law_grown_lots : List Str := ["_law_state", "_law_many", "_law_groups", "_law_found", "_law_one", "_law_other", "_law_item", "_law_lot"]
def d__law_is_truth : Def := ⟨["_law_found", "_law_due"], 2,
  (.cons (.rt (.ite (.var 1) (.cmp .is (.var 0) (.bl true)) (.cmp .is (.var 0) (.bl false)))) .nil), false⟩
def n__law_is_truth : List Str := ["_law_found", "_law_due"]
def d__law_bad_quartet : Def := ⟨["_law_state", "_law_many"], 3,
  (.cons (.asg (.v 2) (.lst (.cons .non (.cons (.int 5) (.cons (.tup .nil) (.cons (.str "0123") (.cons (.tup (.cons (.tup (.cons (.int 0) (.cons (.int 1) .nil))) (.cons (.tup (.cons (.int 2) (.cons (.var 1) .nil))) .nil))) (.cons (.tup (.cons (.tup (.cons (.int 0) (.cons (.int 1) .nil))) (.cons (.tup (.cons (.int 1) (.cons (.int 2) .nil))) .nil))) (.cons (.tup (.cons (.tup (.cons (.int 1) (.cons (.int 0) .nil))) (.cons (.tup (.cons (.int 2) (.cons (.int 3) .nil))) .nil))) (.cons (.tup (.cons (.tup (.cons (.int 0) (.cons (.int 1) .nil))) (.cons (.tup (.cons (.int 3) (.cons (.int 2) .nil))) .nil))) (.cons (.dct .nil) .nil))))))))))) (.cons (.asg (.v 2) (.bin .add (.var 2) (.lst (.cons (.tup (.cons (.tup (.cons (.int 2) (.cons (.int 3) .nil))) (.cons (.tup (.cons (.int 0) (.cons (.int 1) .nil))) .nil))) (.cons (.lst (.cons (.tup (.cons (.int 0) (.cons (.int 1) .nil))) (.cons (.tup (.cons (.int 2) (.cons (.int 3) .nil))) .nil))) (.cons (.tup (.cons (.lst (.cons (.int 0) (.cons (.int 1) .nil))) (.cons (.tup (.cons (.int 2) (.cons (.int 3) .nil))) .nil))) (.cons (.tup (.cons (.tup (.cons (.int 0) (.cons (.int 1) .nil))) (.cons (.tup (.cons (.int 2) (.cons (.int 3) .nil))) (.cons (.tup (.cons (.int 4) (.cons (.int 5) .nil))) .nil)))) (.cons (.tup (.cons (.tup (.cons (.int 0) (.cons (.int 1) (.cons (.int 2) .nil)))) (.cons (.tup (.cons (.int 3) .nil)) .nil))) .nil)))))))) (.cons (.asg (.v 2) (.bin .add (.var 2) (.lst (.cons (.tup (.cons (.tup (.cons (.bl false) (.cons (.int 1) .nil))) (.cons (.tup (.cons (.int 2) (.cons (.int 3) .nil))) .nil))) (.cons (.tup (.cons (.tup (.cons (.int 0) (.cons (.bl true) .nil))) (.cons (.tup (.cons (.int 2) (.cons (.int 3) .nil))) .nil))) (.cons (.tup (.cons (.tup (.cons (.int 0) (.cons (.int 1) .nil))) (.cons (.tup (.cons (.int 2) (.cons .non .nil))) .nil))) (.cons (.tup (.cons (.tup (.cons (.una .neg (.int 1)) (.cons (.int 0) .nil))) (.cons (.tup (.cons (.int 1) (.cons (.int 2) .nil))) .nil))) (.cons (.tup (.cons (.int 0) (.cons (.int 1) (.cons (.int 2) (.cons (.int 3) .nil))))) .nil)))))))) (.cons (.asg (.v 2) (.bin .add (.var 2) (.lst (.cons (.tup (.cons (.tup (.cons (.int 0) (.cons (.lst (.cons (.int 1) .nil)) .nil))) (.cons (.tup (.cons (.int 2) (.cons (.int 3) .nil))) .nil))) (.cons (.tup (.cons (.tup (.cons (.int 0) (.cons (.int 1) .nil))) (.cons (.tup (.cons (.dct .nil) (.cons (.int 3) .nil))) .nil))) (.cons (.tup (.cons (.tup (.cons (.int 0) (.cons (.int 1) .nil))) (.cons (.tup (.cons (.int 2) (.cons (.tup (.cons (.int 3) .nil)) .nil))) .nil))) .nil)))))) (.cons (.rt (.call "_law_pick" (.cons (.var 0) (.cons (.bin .add (.var 2) (.lst (.cons (.tup (.cons (.tup (.cons (.int 0) (.cons (.int 0) .nil))) (.cons (.tup (.cons (.int 1) (.cons (.int 2) .nil))) .nil))) (.cons (.tup (.cons (.tup (.cons (.int 0) (.cons (.int 1) .nil))) .nil)) .nil)))) .nil)))) .nil))))), false⟩
def n__law_bad_quartet : List Str := ["_law_state", "_law_many", "_law_bad"]
def d__law_bent_lot : Def := ⟨["_law_state", "_law_many", "_law_several"], 10,
  (.cons (.asg (.t [(.v 3), (.v 4)]) (.tup (.cons (.call "_law_draw" (.cons (.var 0) (.cons (.int 8) .nil))) (.cons (.bi .list (.cons (.var 2) .nil)) .nil)))) (.cons (.ite (.cmp .eq (.var 3) (.int 0)) (.cons (.asg (.v 5) (.lst (.cons .non (.cons (.var 4) (.cons (.dct .nil) (.cons (.str "0123") (.cons (.bin .add (.var 2) (.tup (.cons .non .nil))) (.cons (.int 5) (.cons (.bl true) (.cons (.bin .add (.var 2) (.slc (.var 2) .none (.some (.int 1)))) .nil)))))))))) (.cons (.rt (.call "_law_pick" (.cons (.var 0) (.cons (.bin .add (.var 5) (.lst (.cons (.tup (.cons (.var 2) .nil)) (.cons (.tup (.cons (.tup (.cons (.int 0) (.cons (.int 1) .nil))) (.cons (.tup (.cons (.int 2) (.cons (.int 3) .nil))) .nil))) .nil)))) .nil)))) .nil)) .nil) (.cons (.asg (.v 6) (.call "_law_quartets_of" (.cons (.var 1) (.cons (.call "_law_grown_lots" (.cons (.var 0) (.cons (.var 1) .nil))) .nil)))) (.cons (.ite (.cmp .eq (.var 3) (.int 1)) (.cons (.rt (.bi .tuple (.cons (.lc [8] (.var 8) (.cons (.v 8) (.of (.var 2)) (.some (.cmp .inn (.var 8) (.var 6))) .nil)) .nil))) .nil) .nil) (.cons (.ite (.cmp .eq (.var 3) (.int 2)) (.cons (.rt (.bi .tuple (.cons (.bi .sortset (.cons (.bin .add (.var 4) (.var 6)) .nil)) .nil))) .nil) .nil) (.cons (.ite (.cmp .eq (.var 3) (.int 3)) (.cons (.rt (.bi .tuple (.cons (.call "_law_mixed" (.cons (.var 0) (.cons (.var 4) .nil))) .nil))) .nil) .nil) (.cons (.ite (.and (.cmp .eq (.var 3) (.int 4)) (.cmp .ne (.var 4) (.lst .nil))) (.cons (.aset (.var 4) (.call "_law_draw" (.cons (.var 0) (.cons (.bi .len (.cons (.var 4) .nil)) .nil))) (.call "_law_bad_quartet" (.cons (.var 0) (.cons (.var 1) .nil)))) (.cons (.rt (.bi .tuple (.cons (.var 4) .nil))) .nil)) .nil) (.cons (.for_ (.v 7) (.rng (.cons (.bin .add (.int 1) (.call "_law_draw" (.cons (.var 0) (.cons (.int 2) .nil)))) .nil)) (.cons (.asg (.v 8) (.call "_law_pick" (.cons (.var 0) (.cons (.call "_law_quartets" (.cons (.var 1) .nil)) .nil)))) (.cons (.asg (.v 4) (.ite (.cmp .inn (.var 8) (.var 4)) (.lc [9] (.var 9) (.cons (.v 9) (.of (.var 4)) (.some (.cmp .ne (.var 9) (.var 8))) .nil)) (.bin .add (.var 4) (.lst (.cons (.var 8) .nil))))) .nil)) [7, 8]) (.cons (.rt (.bi .tuple (.cons (.bi .sorted (.cons (.var 4) .nil)) .nil))) .nil))))))))), false⟩
def n__law_bent_lot : List Str := ["_law_state", "_law_many", "_law_several", "_law_fashion", "_law_found", "_law_bad", "_law_other", "_law_lap", "_law_each", "_law_item"]
def d_law : Def := ⟨["_law_script"], 10,
  (.cons (.asg (.v 1) (.call "_law_begun" (.cons (.var 0) .nil))) (.cons (.asg (.v 2) (.bin .add (.int 4) (.call "_law_draw" (.cons (.var 1) (.cons (.int 4) .nil))))) (.cons (.asg (.v 3) (.bi .tuple (.cons (.call "_law_quartets_of" (.cons (.var 2) (.cons (.call "_law_grown_lots" (.cons (.var 1) (.cons (.var 2) .nil))) .nil))) .nil))) (.cons (.ite (.cmp .isn (.callk "are_quartets" (.cons (.var 2) (.cons (.var 3) .nil))) (.bl true)) (.cons (.rt (.bl false)) .nil) .nil) (.cons (.for_ (.v 4) (.rng (.cons (.int 5) .nil)) (.cons (.asg (.v 5) (.call "_law_bent_lot" (.cons (.var 1) (.cons (.var 2) (.cons (.var 3) .nil))))) (.cons (.ite (.una .not (.call "_law_is_truth" (.cons (.call "are_quartets" (.cons (.var 2) (.cons (.var 5) .nil))) (.cons (.call "_law_are_quartets" (.cons (.var 2) (.cons (.var 5) .nil))) .nil)))) (.cons (.rt (.bl false)) .nil) .nil) .nil)) [4, 5]) (.cons (.asg (.v 6) (.bi .tuple (.cons (.bi .sorted (.cons (.lc [9] (.var 9) (.cons (.v 9) (.of (.var 3)) (.some (.cmp .gt (.call "_law_draw" (.cons (.var 1) (.cons (.int 3) .nil))) (.int 0))) .nil)) .nil)) .nil))) (.cons (.ite (.and (.call "_law_first_rule" (.cons (.var 6) .nil)) (.and (.call "_law_third_rule" (.cons (.var 2) (.cons (.var 6) .nil))) (.una .not (.call "_law_second_rule" (.cons (.var 2) (.cons (.var 6) .nil)))))) (.cons (.rt (.bl false)) .nil) .nil) (.cons (.asg (.v 7) (.call "_law_pick" (.cons (.var 1) (.cons (.lst (.cons (.int 1) (.cons (.int 2) (.cons (.int 3) (.cons (.bin .sub (.var 2) (.int 1)) (.cons (.bin .add (.var 2) (.int 1)) (.cons (.int 12) .nil))))))) .nil)))) (.cons (.ite (.una .not (.call "_law_is_truth" (.cons (.call "are_quartets" (.cons (.var 7) (.cons (.var 3) .nil))) (.cons (.call "_law_are_quartets" (.cons (.var 7) (.cons (.var 3) .nil))) .nil)))) (.cons (.rt (.bl false)) .nil) .nil) (.cons (.asg (.v 8) (.call "_law_pick" (.cons (.var 1) (.cons (.lst (.cons (.int 0) (.cons (.int 13) (.cons (.una .neg (.int 1)) (.cons .non (.cons (.bl true) (.cons (.str "5") (.cons (.tup (.cons (.int 5) .nil)) (.cons (.lst (.cons (.int 5) .nil)) .nil))))))))) .nil)))) (.cons (.rt (.isi (.caught "FoundError" (.call "are_quartets" (.cons (.var 8) (.cons (.var 3) .nil)))) (.cls "BadMany"))) .nil))))))))))), false⟩
def n_law : List Str := ["_law_script", "_law_state", "_law_many", "_law_several", "_law_lap", "_law_bent", "_law_rare", "_law_wide", "_law_bad", "_law_each"]

def top (i : Nat) : Stmt := PySem.Challenge.pw_oncefound_k74_lots_of_quartets_judged.main.body.getD i (.Pass ⟨0, 0, 0, 0⟩)
def rows : List Row := [⟨"is_between", d_is_between, n_is_between, false, top 4⟩, ⟨"is_rising_pair", d_is_rising_pair, n_is_rising_pair, false, top 6⟩, ⟨"is_quartet", d_is_quartet, n_is_quartet, false, top 7⟩, ⟨"need_many_valleys", d_need_many_valleys, n_need_many_valleys, false, top 8⟩, ⟨"quartet_told", d_quartet_told, n_quartet_told, false, top 9⟩, ⟨"namings", d_namings, n_namings, false, top 10⟩, ⟨"keeps_rules", d_keeps_rules, n_keeps_rules, false, top 11⟩, ⟨"is_alone", d_is_alone, n_is_alone, false, top 12⟩, ⟨"are_quartets_of", d_are_quartets_of, n_are_quartets_of, false, top 13⟩, ⟨"are_quartets", d_are_quartets, n_are_quartets, false, top 14⟩, ⟨"_law_begun", d__law_begun, n__law_begun, false, top 16⟩, ⟨"_law_draw", d__law_draw, n__law_draw, false, top 17⟩, ⟨"_law_pick", d__law_pick, n__law_pick, false, top 18⟩, ⟨"_law_mixed", d__law_mixed, n__law_mixed, false, top 19⟩, ⟨"_law_is_whole", d__law_is_whole, n__law_is_whole, false, top 21⟩, ⟨"_law_is_below", d__law_is_below, n__law_is_below, false, top 22⟩, ⟨"_law_pairs", d__law_pairs, n__law_pairs, false, top 23⟩, ⟨"_law_parted", d__law_parted, n__law_parted, false, top 24⟩, ⟨"_law_four", d__law_four, n__law_four, false, top 25⟩, ⟨"_law_quartets", d__law_quartets, n__law_quartets, false, top 26⟩, ⟨"_law_quartets_of", d__law_quartets_of, n__law_quartets_of, false, top 27⟩, ⟨"_law_is_quartet", d__law_is_quartet, n__law_is_quartet, false, top 28⟩, ⟨"_law_fifths", d__law_fifths, n__law_fifths, false, top 29⟩, ⟨"_law_ways_told", d__law_ways_told, n__law_ways_told, false, top 30⟩, ⟨"_law_first_rule", d__law_first_rule, n__law_first_rule, false, top 31⟩, ⟨"_law_second_rule", d__law_second_rule, n__law_second_rule, false, top 32⟩, ⟨"_law_third_rule", d__law_third_rule, n__law_third_rule, false, top 33⟩, ⟨"_law_are_quartets", d__law_are_quartets, n__law_are_quartets, false, top 34⟩, ⟨"_law_grown_lots", d__law_grown_lots, n__law_grown_lots, false, top 35⟩, ⟨"_law_is_truth", d__law_is_truth, n__law_is_truth, false, top 36⟩, ⟨"_law_bad_quartet", d__law_bad_quartet, n__law_bad_quartet, false, top 37⟩, ⟨"_law_bent_lot", d__law_bent_lot, n__law_bent_lot, false, top 38⟩, ⟨"law", d_law, n_law, true, top 39⟩]
def ct : He.DefD := ⟨("_law_caught", none), "_law_caught", "_law_caught", defArgs (top 20), defBody (top 20), defScope (top 20), [], []⟩
def law : Law := { rows := rows, subs := [("BadMany", "BadMany", true), ("BadMany", "FoundError", true)], exs := ["BadMany"], cls := ["BadMany", "FoundError"], lams := ["law"], ct := ct, cy := "_law_caught_here", cn := "error" }
abbrev prog : Prog := law.prog
theorem r_is_between : RowOk prog ⟨"is_between", d_is_between, n_is_between, false, top 4⟩ :=
  ⟨⟨rfl, rfl, rfl, by decide +kernel, rfl, by decide +kernel, by decide +kernel⟩, rfl, by decide +kernel, fun kV doc pm an cdv ct us hl => match us, hl with | [_, _, _], _ => rfl, fun z => by cases z⟩
theorem r_is_rising_pair : RowOk prog ⟨"is_rising_pair", d_is_rising_pair, n_is_rising_pair, false, top 6⟩ :=
  ⟨⟨rfl, rfl, rfl, by decide +kernel, rfl, by decide +kernel, by decide +kernel⟩, rfl, by decide +kernel, fun kV doc pm an cdv ct us hl => match us, hl with | [_, _], _ => rfl, fun z => by cases z⟩
theorem r_is_quartet : RowOk prog ⟨"is_quartet", d_is_quartet, n_is_quartet, false, top 7⟩ :=
  ⟨⟨rfl, rfl, rfl, by decide +kernel, rfl, by decide +kernel, by decide +kernel⟩, rfl, by decide +kernel, fun kV doc pm an cdv ct us hl => match us, hl with | [_, _], _ => rfl, fun z => by cases z⟩
theorem r_need_many_valleys : RowOk prog ⟨"need_many_valleys", d_need_many_valleys, n_need_many_valleys, false, top 8⟩ :=
  ⟨⟨rfl, rfl, rfl, by decide +kernel, rfl, by decide +kernel, by decide +kernel⟩, rfl, by decide +kernel, fun kV doc pm an cdv ct us hl => match us, hl with | [_], _ => rfl, fun z => by cases z⟩
theorem r_quartet_told : RowOk prog ⟨"quartet_told", d_quartet_told, n_quartet_told, false, top 9⟩ :=
  ⟨⟨rfl, rfl, rfl, by decide +kernel, rfl, by decide +kernel, by decide +kernel⟩, rfl, by decide +kernel, fun kV doc pm an cdv ct us hl => match us, hl with | [_, _, _, _], _ => rfl, fun z => by cases z⟩
theorem r_namings : RowOk prog ⟨"namings", d_namings, n_namings, false, top 10⟩ :=
  ⟨⟨rfl, rfl, rfl, by decide +kernel, rfl, by decide +kernel, by decide +kernel⟩, rfl, by decide +kernel, fun kV doc pm an cdv ct us hl => match us, hl with | [_], _ => rfl, fun z => by cases z⟩
theorem r_keeps_rules : RowOk prog ⟨"keeps_rules", d_keeps_rules, n_keeps_rules, false, top 11⟩ :=
  ⟨⟨rfl, rfl, rfl, by decide +kernel, rfl, by decide +kernel, by decide +kernel⟩, rfl, by decide +kernel, fun kV doc pm an cdv ct us hl => match us, hl with | [_, _, _], _ => rfl, fun z => by cases z⟩
theorem r_is_alone : RowOk prog ⟨"is_alone", d_is_alone, n_is_alone, false, top 12⟩ :=
  ⟨⟨rfl, rfl, rfl, by decide +kernel, rfl, by decide +kernel, by decide +kernel⟩, rfl, by decide +kernel, fun kV doc pm an cdv ct us hl => match us, hl with | [_, _], _ => rfl, fun z => by cases z⟩
theorem r_are_quartets_of : RowOk prog ⟨"are_quartets_of", d_are_quartets_of, n_are_quartets_of, false, top 13⟩ :=
  ⟨⟨rfl, rfl, rfl, by decide +kernel, rfl, by decide +kernel, by decide +kernel⟩, rfl, by decide +kernel, fun kV doc pm an cdv ct us hl => match us, hl with | [_, _], _ => rfl, fun z => by cases z⟩
theorem r_are_quartets : RowOk prog ⟨"are_quartets", d_are_quartets, n_are_quartets, false, top 14⟩ :=
  ⟨⟨rfl, rfl, rfl, by decide +kernel, rfl, by decide +kernel, by decide +kernel⟩, rfl, by decide +kernel, fun kV doc pm an cdv ct us hl => match us, hl with | [_, _], _ => rfl, (fun _ => ⟨by decide, fun kV doc pm an cdv ct ws hl => match ws, hl with | [_, _], _ => rfl⟩)⟩
theorem r__law_begun : RowOk prog ⟨"_law_begun", d__law_begun, n__law_begun, false, top 16⟩ :=
  ⟨⟨rfl, rfl, rfl, by decide +kernel, rfl, by decide +kernel, by decide +kernel⟩, rfl, by decide +kernel, fun kV doc pm an cdv ct us hl => match us, hl with | [_], _ => rfl, fun z => by cases z⟩
theorem r__law_draw : RowOk prog ⟨"_law_draw", d__law_draw, n__law_draw, false, top 17⟩ :=
  ⟨⟨rfl, rfl, rfl, by decide +kernel, rfl, by decide +kernel, by decide +kernel⟩, rfl, by decide +kernel, fun kV doc pm an cdv ct us hl => match us, hl with | [_, _], _ => rfl, fun z => by cases z⟩
theorem r__law_pick : RowOk prog ⟨"_law_pick", d__law_pick, n__law_pick, false, top 18⟩ :=
  ⟨⟨rfl, rfl, rfl, by decide +kernel, rfl, by decide +kernel, by decide +kernel⟩, rfl, by decide +kernel, fun kV doc pm an cdv ct us hl => match us, hl with | [_, _], _ => rfl, fun z => by cases z⟩
theorem r__law_mixed : RowOk prog ⟨"_law_mixed", d__law_mixed, n__law_mixed, false, top 19⟩ :=
  ⟨⟨rfl, rfl, rfl, by decide +kernel, rfl, by decide +kernel, by decide +kernel⟩, rfl, by decide +kernel, fun kV doc pm an cdv ct us hl => match us, hl with | [_, _], _ => rfl, fun z => by cases z⟩
theorem r__law_is_whole : RowOk prog ⟨"_law_is_whole", d__law_is_whole, n__law_is_whole, false, top 21⟩ :=
  ⟨⟨rfl, rfl, rfl, by decide +kernel, rfl, by decide +kernel, by decide +kernel⟩, rfl, by decide +kernel, fun kV doc pm an cdv ct us hl => match us, hl with | [_], _ => rfl, fun z => by cases z⟩
theorem r__law_is_below : RowOk prog ⟨"_law_is_below", d__law_is_below, n__law_is_below, false, top 22⟩ :=
  ⟨⟨rfl, rfl, rfl, by decide +kernel, rfl, by decide +kernel, by decide +kernel⟩, rfl, by decide +kernel, fun kV doc pm an cdv ct us hl => match us, hl with | [_, _], _ => rfl, fun z => by cases z⟩
theorem r__law_pairs : RowOk prog ⟨"_law_pairs", d__law_pairs, n__law_pairs, false, top 23⟩ :=
  ⟨⟨rfl, rfl, rfl, by decide +kernel, rfl, by decide +kernel, by decide +kernel⟩, rfl, by decide +kernel, fun kV doc pm an cdv ct us hl => match us, hl with | [_], _ => rfl, fun z => by cases z⟩
theorem r__law_parted : RowOk prog ⟨"_law_parted", d__law_parted, n__law_parted, false, top 24⟩ :=
  ⟨⟨rfl, rfl, rfl, by decide +kernel, rfl, by decide +kernel, by decide +kernel⟩, rfl, by decide +kernel, fun kV doc pm an cdv ct us hl => match us, hl with | [_, _, _], _ => rfl, fun z => by cases z⟩
theorem r__law_four : RowOk prog ⟨"_law_four", d__law_four, n__law_four, false, top 25⟩ :=
  ⟨⟨rfl, rfl, rfl, by decide +kernel, rfl, by decide +kernel, by decide +kernel⟩, rfl, by decide +kernel, fun kV doc pm an cdv ct us hl => match us, hl with | [_, _, _, _], _ => rfl, fun z => by cases z⟩
theorem r__law_quartets : RowOk prog ⟨"_law_quartets", d__law_quartets, n__law_quartets, false, top 26⟩ :=
  ⟨⟨rfl, rfl, rfl, by decide +kernel, rfl, by decide +kernel, by decide +kernel⟩, rfl, by decide +kernel, fun kV doc pm an cdv ct us hl => match us, hl with | [_], _ => rfl, fun z => by cases z⟩
theorem r__law_quartets_of : RowOk prog ⟨"_law_quartets_of", d__law_quartets_of, n__law_quartets_of, false, top 27⟩ :=
  ⟨⟨rfl, rfl, rfl, by decide +kernel, rfl, by decide +kernel, by decide +kernel⟩, rfl, by decide +kernel, fun kV doc pm an cdv ct us hl => match us, hl with | [_, _], _ => rfl, fun z => by cases z⟩
theorem r__law_is_quartet : RowOk prog ⟨"_law_is_quartet", d__law_is_quartet, n__law_is_quartet, false, top 28⟩ :=
  ⟨⟨rfl, rfl, rfl, by decide +kernel, rfl, by decide +kernel, by decide +kernel⟩, rfl, by decide +kernel, fun kV doc pm an cdv ct us hl => match us, hl with | [_, _], _ => rfl, fun z => by cases z⟩
theorem r__law_fifths : RowOk prog ⟨"_law_fifths", d__law_fifths, n__law_fifths, false, top 29⟩ :=
  ⟨⟨rfl, rfl, rfl, by decide +kernel, rfl, by decide +kernel, by decide +kernel⟩, rfl, by decide +kernel, fun kV doc pm an cdv ct us hl => match us, hl with | [_, _], _ => rfl, fun z => by cases z⟩
theorem r__law_ways_told : RowOk prog ⟨"_law_ways_told", d__law_ways_told, n__law_ways_told, false, top 30⟩ :=
  ⟨⟨rfl, rfl, rfl, by decide +kernel, rfl, by decide +kernel, by decide +kernel⟩, rfl, by decide +kernel, fun kV doc pm an cdv ct us hl => match us, hl with | [_], _ => rfl, fun z => by cases z⟩
theorem r__law_first_rule : RowOk prog ⟨"_law_first_rule", d__law_first_rule, n__law_first_rule, false, top 31⟩ :=
  ⟨⟨rfl, rfl, rfl, by decide +kernel, rfl, by decide +kernel, by decide +kernel⟩, rfl, by decide +kernel, fun kV doc pm an cdv ct us hl => match us, hl with | [_], _ => rfl, fun z => by cases z⟩
theorem r__law_second_rule : RowOk prog ⟨"_law_second_rule", d__law_second_rule, n__law_second_rule, false, top 32⟩ :=
  ⟨⟨rfl, rfl, rfl, by decide +kernel, rfl, by decide +kernel, by decide +kernel⟩, rfl, by decide +kernel, fun kV doc pm an cdv ct us hl => match us, hl with | [_, _], _ => rfl, fun z => by cases z⟩
theorem r__law_third_rule : RowOk prog ⟨"_law_third_rule", d__law_third_rule, n__law_third_rule, false, top 33⟩ :=
  ⟨⟨rfl, rfl, rfl, by decide +kernel, rfl, by decide +kernel, by decide +kernel⟩, rfl, by decide +kernel, fun kV doc pm an cdv ct us hl => match us, hl with | [_, _], _ => rfl, fun z => by cases z⟩
theorem r__law_are_quartets : RowOk prog ⟨"_law_are_quartets", d__law_are_quartets, n__law_are_quartets, false, top 34⟩ :=
  ⟨⟨rfl, rfl, rfl, by decide +kernel, rfl, by decide +kernel, by decide +kernel⟩, rfl, by decide +kernel, fun kV doc pm an cdv ct us hl => match us, hl with | [_, _], _ => rfl, fun z => by cases z⟩
theorem r__law_grown_lots : RowOk prog ⟨"_law_grown_lots", d__law_grown_lots, n__law_grown_lots, false, top 35⟩ :=
  ⟨⟨rfl, rfl, rfl, by decide +kernel, rfl, by decide +kernel, by decide +kernel⟩, rfl, by decide +kernel, fun kV doc pm an cdv ct us hl => match us, hl with | [_, _], _ => rfl, fun z => by cases z⟩
theorem r__law_is_truth : RowOk prog ⟨"_law_is_truth", d__law_is_truth, n__law_is_truth, false, top 36⟩ :=
  ⟨⟨rfl, rfl, rfl, by decide +kernel, rfl, by decide +kernel, by decide +kernel⟩, rfl, by decide +kernel, fun kV doc pm an cdv ct us hl => match us, hl with | [_, _], _ => rfl, fun z => by cases z⟩
theorem r__law_bad_quartet : RowOk prog ⟨"_law_bad_quartet", d__law_bad_quartet, n__law_bad_quartet, false, top 37⟩ :=
  ⟨⟨rfl, rfl, rfl, by decide +kernel, rfl, by decide +kernel, by decide +kernel⟩, rfl, by decide +kernel, fun kV doc pm an cdv ct us hl => match us, hl with | [_, _], _ => rfl, fun z => by cases z⟩
theorem r__law_bent_lot : RowOk prog ⟨"_law_bent_lot", d__law_bent_lot, n__law_bent_lot, false, top 38⟩ :=
  ⟨⟨rfl, rfl, rfl, by decide +kernel, rfl, by decide +kernel, by decide +kernel⟩, rfl, by decide +kernel, fun kV doc pm an cdv ct us hl => match us, hl with | [_, _, _], _ => rfl, fun z => by cases z⟩
theorem r_law : RowOk prog ⟨"law", d_law, n_law, true, top 39⟩ :=
  ⟨⟨rfl, rfl, rfl, by decide +kernel, rfl, by decide +kernel, by decide +kernel⟩, rfl, by decide +kernel, fun kV doc pm an cdv ct us hl => match us, hl with | [_], _ => rfl, fun z => by cases z⟩
theorem ok : LawOk law := by
  refine ⟨List.forall_mem_cons.mpr ⟨r_is_between, List.forall_mem_cons.mpr ⟨r_is_rising_pair, List.forall_mem_cons.mpr ⟨r_is_quartet, List.forall_mem_cons.mpr ⟨r_need_many_valleys, List.forall_mem_cons.mpr ⟨r_quartet_told, List.forall_mem_cons.mpr ⟨r_namings, List.forall_mem_cons.mpr ⟨r_keeps_rules, List.forall_mem_cons.mpr ⟨r_is_alone, List.forall_mem_cons.mpr ⟨r_are_quartets_of, List.forall_mem_cons.mpr ⟨r_are_quartets, List.forall_mem_cons.mpr ⟨r__law_begun, List.forall_mem_cons.mpr ⟨r__law_draw, List.forall_mem_cons.mpr ⟨r__law_pick, List.forall_mem_cons.mpr ⟨r__law_mixed, List.forall_mem_cons.mpr ⟨r__law_is_whole, List.forall_mem_cons.mpr ⟨r__law_is_below, List.forall_mem_cons.mpr ⟨r__law_pairs, List.forall_mem_cons.mpr ⟨r__law_parted, List.forall_mem_cons.mpr ⟨r__law_four, List.forall_mem_cons.mpr ⟨r__law_quartets, List.forall_mem_cons.mpr ⟨r__law_quartets_of, List.forall_mem_cons.mpr ⟨r__law_is_quartet, List.forall_mem_cons.mpr ⟨r__law_fifths, List.forall_mem_cons.mpr ⟨r__law_ways_told, List.forall_mem_cons.mpr ⟨r__law_first_rule, List.forall_mem_cons.mpr ⟨r__law_second_rule, List.forall_mem_cons.mpr ⟨r__law_third_rule, List.forall_mem_cons.mpr ⟨r__law_are_quartets, List.forall_mem_cons.mpr ⟨r__law_grown_lots, List.forall_mem_cons.mpr ⟨r__law_is_truth, List.forall_mem_cons.mpr ⟨r__law_bad_quartet, List.forall_mem_cons.mpr ⟨r__law_bent_lot, List.forall_mem_cons.mpr ⟨r_law, List.forall_mem_nil _⟩⟩⟩⟩⟩⟩⟩⟩⟩⟩⟩⟩⟩⟩⟩⟩⟩⟩⟩⟩⟩⟩⟩⟩⟩⟩⟩⟩⟩⟩⟩⟩⟩, ?_, ⟨rfl, rfl, rfl, rfl, rfl⟩, ⟨rfl, rfl, rfl, by decide +kernel, rfl, by decide +kernel, by decide +kernel⟩, by decide +kernel, ⟨by decide +kernel, by decide +kernel, by decide +kernel, by decide +kernel⟩, ⟨by decide, by decide, by decide, by decide⟩, fun kV doc pm an cdv ct us hl => match us, hl with | [_], _ => rfl⟩
  decide +kernel
end K74

set_option Elab.async false
set_option linter.all false
set_option maxRecDepth 100000
set_option maxHeartbeats 4000000
namespace K74
open PySem L2 Ev
/-! values of known kinds -/
mutual
def dok (m : Store) : W → Prop
  | .non => True
  | .bl _ => True
  | .int _ => True
  | .str _ => True
  | .tup ws => dokL m ws
  | .ref n => (∃ ws, m[n]? = some (.lst ws)) ∨ m[n]? = some (.dct [])
  | .obj _ _ => False
  | .exc _ _ => False
def dokL (m : Store) : List W → Prop
  | [] => True
  | w :: r => dok m w ∧ dokL m r
end
@[simp] theorem dok_int (m : Store) (i : Int) : dok m (.int i) := by simp [dok]
@[simp] theorem dok_non (m : Store) : dok m .non := by simp [dok]
@[simp] theorem dok_bl (m : Store) (b : Bool) : dok m (.bl b) := by simp [dok]
@[simp] theorem dok_str (m : Store) (b : Str) : dok m (.str b) := by simp [dok]
@[simp] theorem dok_tup (m : Store) (ws : List W) : dok m (.tup ws) ↔ dokL m ws := by simp [dok]
@[simp] theorem dokL_nil (m : Store) : dokL m [] := by simp [dokL]
@[simp] theorem dokL_cons (m : Store) (w : W) (ws : List W) : dokL m (w :: ws) ↔ dok m w ∧ dokL m ws := by simp [dokL]
theorem dokL_iff {m : Store} {ws : List W} : dokL m ws ↔ ∀ w ∈ ws, dok m w := by
  induction ws with
  | nil => simp
  | cons w r ih => simp [ih]
/-! small questions -/
def isIn (w : W) (lo hi : Int) : Bool := match w with
  | .int i => decide (lo ≤ i) && decide (i ≤ hi)
  | _ => false
theorem dok_ref {m : Store} {n : Nat} (h : dok m (.ref n)) : (∃ ws, m[n]? = some (.lst ws)) ∨ m[n]? = some (.dct []) := by simpa [dok] using h
theorem s_is_between {m : Store} {w : W} (h : dok m w) (lo hi : Int) : ∀ d, 1 ≤ d → callN prog d "is_between" [w, .int lo, .int hi] m = .ok (.bl (isIn w lo hi)) m := by
  refine call_eq (k := 0) (df := d_is_between) rfl rfl fun d _ => ?_
  cases w with
  | int i =>
    simp [d_is_between, startE, isIn]
    split <;> simp [*]
  | ref n => rcases dok_ref h with ⟨ws, h⟩ | h <;> simp [d_is_between, startE, isIn, h]
  | obj c ws => simp [dok] at h
  | exc c ws => simp [dok] at h
  | _ => simp [d_is_between, startE, isIn]
def isRP (many : Int) (w : W) : Bool := match w with
  | .tup [.int a, .int b] => decide (0 ≤ a) && decide (a < b) && decide (b < many)
  | _ => false
mutual
theorem dok_low {m : Store} : ∀ {w : W}, dok m w → ∀ r ∈ w.refs, r < m.length
  | .non, _ => by simp
  | .bl _, _ => by simp
  | .int _, _ => by simp
  | .str _, _ => by simp
  | .tup ws, h => by rw [refs_tup]; exact dokL_low (by simpa using h)
  | .ref n, h => by
    intro r hr
    simp at hr
    subst hr
    rcases dok_ref h with ⟨ws, h⟩ | h <;> exact lt_of_get h
  | .obj _ _, h => by simp [dok] at h
  | .exc _ _, h => by simp [dok] at h
theorem dokL_low {m : Store} : ∀ {ws : List W}, dokL m ws → belowL m.length ws
  | [], _ => by intro r hr; simp at hr
  | w :: q, h => by
    intro r hr
    simp only [dokL_cons] at h
    simp only [refsL_cons, List.mem_append] at hr
    rcases hr with hr | hr
    · exact dok_low h.1 r hr
    · exact dokL_low h.2 r hr
end
theorem two_cap : 2 ≤ cap := by decide
theorem three_ne (n : Nat) : ¬ ((n : Int) + 1 + 1 + 1 = 2) := by omega
theorem isRP_and (many : Int) (x y : W) : isRP many (.tup [x, y]) = (isIn x 0 (many - 1) && isIn y 0 (many - 1) && (match x, y with | .int a, .int b => decide (a < b) | _, _ => false)) := by
  unfold isRP isIn
  cases x <;> cases y <;> simp
  rw [Bool.eq_iff_iff]; simp; omega
theorem s_is_rising_pair {m : Store} {w : W} (h : dok m w) (many : Int) : ∀ d, 2 ≤ d → callN prog d "is_rising_pair" [.int many, w] m = .ok (.bl (isRP many w)) m := by
  refine call_eq (k := 1) (df := d_is_rising_pair) rfl rfl fun d hd => ?_
  have hb : ∀ x : W, dok m x → callN prog d "is_between" [x, .int 0, .int (many - 1)] m = .ok (.bl (isIn x 0 (many - 1))) m := fun x hx => s_is_between hx _ _ d hd
  cases w with
  | tup ws =>
    rcases ws with _ | ⟨x, _ | ⟨y, _ | ⟨z, r⟩⟩⟩
    · simp [d_is_rising_pair, startE, isRP]
    · simp [d_is_rising_pair, startE, isRP]
    · rw [dok_tup] at h
      have hl : ∀ w ∈ [x, y], dok m w := dokL_iff.mp h
      simp [d_is_rising_pair, startE]
      rw [lc_map (its := ⟨[x, y], []⟩) (fun w => .bl (isIn w 0 (many - 1))) (it_tupB (by simp) (dokL_low h)) (by simp) (fun w hw => by simp [hb w (hl w hw)]) (by simp) two_cap]
      simp [evAll, bools]
      rw [isRP_and]
      cases hx : isIn x 0 (many - 1) with
      | false => simp
      | true =>
        cases hy : isIn y 0 (many - 1) with
        | false => simp
        | true =>
          cases x <;> simp [isIn] at hx
          cases y <;> simp [isIn] at hy
          simp [L2.atI, L2.ixN]
    · simp [d_is_rising_pair, startE, isRP, three_ne]
  | ref n => rcases dok_ref h with ⟨ws, h⟩ | h <;> simp [d_is_rising_pair, startE, isRP, h]
  | obj c ws => simp [dok] at h
  | exc c ws => simp [dok] at h
  | _ => simp [d_is_rising_pair, startE, isRP]
/-! quartets -/
def okQ (many : Int) (q : Q) : Bool := decide (0 ≤ q.1.1) && decide (q.1.1 < q.1.2) && decide (q.1.2 < many) && decide (0 ≤ q.2.1) && decide (q.2.1 < q.2.2) && decide (q.2.2 < many) && decide (q.1.1 < q.2.1) && decide (q.1.2 ≠ q.2.1) && decide (q.1.2 ≠ q.2.2)
def isQ (many : Int) (w : W) : Bool := match w with
  | .tup [.tup [.int a, .int b], .tup [.int c, .int d]] => okQ many ((a, b), (c, d))
  | _ => false
theorem isRP_some {many : Int} {w : W} (h : isRP many w = true) : ∃ a b, w = .tup [.int a, .int b] ∧ 0 ≤ a ∧ a < b ∧ b < many := by
  unfold isRP at h
  split at h
  · simp at h; exact ⟨_, _, rfl, h.1.1, h.1.2, h.2⟩
  · cases h
theorem isQ_rp {many : Int} {x y : W} (h : isQ many (.tup [x, y]) = true) : isRP many x = true ∧ isRP many y = true := by
  unfold isQ at h
  split at h
  · rename_i w a b c d e
    simp at e
    obtain ⟨rfl, rfl⟩ := e
    simp [okQ] at h
    simp [isRP, h]
  · cases h
theorem isQ_some {many : Int} {w : W} : isQ many w = true ↔ ∃ q, w = qW q ∧ okQ many q = true := by
  constructor
  · intro h
    unfold isQ at h
    split at h
    · exact ⟨_, rfl, h⟩
    · cases h
  · rintro ⟨q, rfl, h⟩
    exact h
theorem once4 {a b c d : Int} (h1 : a < b) (h2 : c < d) (h3 : a < c) : decide ((once [a, b, c, d]).length = 4) = (decide (b ≠ c) && decide (b ≠ d)) := by
  have e1 : ¬ b = a := by omega
  have e2 : ¬ c = a := by omega
  have e3 : ¬ d = a := by omega
  have e4 : ¬ d = c := by omega
  by_cases h4 : b = c
  · subst h4; simp [once, e1, e3, e4]
  · by_cases h5 : b = d
    · subst h5
      have e5 : ¬ c = b := by omega
      simp [once, e1, e2, e5, h4]
    · have e5 : ¬ c = b := by omega
      have e6 : ¬ d = b := by omega
      simp [once, e1, e2, e3, e4, e5, e6, h4, h5]
theorem s_is_quartet {m : Store} {w : W} (h : dok m w) (many : Int) : ∀ d, 3 ≤ d → callN prog d "is_quartet" [.int many, w] m = .ok (.bl (isQ many w)) m := by
  refine call_eq (k := 2) (df := d_is_quartet) rfl rfl fun d hd => ?_
  have hb : ∀ x : W, dok m x → callN prog d "is_rising_pair" [.int many, x] m = .ok (.bl (isRP many x)) m := fun x hx => s_is_rising_pair hx _ d hd
  cases w with
  | tup ws =>
    rcases ws with _ | ⟨x, _ | ⟨y, _ | ⟨z, r⟩⟩⟩
    · simp [d_is_quartet, startE, isQ]
    · simp [d_is_quartet, startE, isQ]
    · rw [dok_tup] at h
      have hl : ∀ w ∈ [x, y], dok m w := dokL_iff.mp h
      simp [d_is_quartet, startE]
      rw [lc_map (its := ⟨[x, y], []⟩) (fun w => .bl (isRP many w)) (it_tupB (by simp) (dokL_low h)) (by simp) (fun w hw => by simp [hb w (hl w hw)]) (by simp) two_cap]
      simp [evAll, bools]
      cases hx : isRP many x with
      | false =>
        have : isQ many (.tup [x, y]) = false := by
          cases e : isQ many (.tup [x, y]) with
          | false => rfl
          | true => rw [(isQ_rp e).1] at hx; cases hx
        simp [this]
      | true =>
        cases hy : isRP many y with
        | false =>
          have : isQ many (.tup [x, y]) = false := by
            cases e : isQ many (.tup [x, y]) with
            | false => rfl
            | true => rw [(isQ_rp e).2] at hy; cases hy
          simp [this]
        | true =>
          obtain ⟨a, b, rfl, h1, h2, h3⟩ := isRP_some hx
          obtain ⟨c, e, rfl, k1, k2, k3⟩ := isRP_some hy
          have hset := lenset_tup m [a, b, c, e] (by simp)
          simp only [List.map_cons, List.map_nil] at hset
          have hcap : 4 ≤ cap := by decide
          simp [L2.atI, L2.ixN, hset, hcap, isQ, okQ, h1, h2, h3, k1, k2, k3]
          by_cases hac : a < c
          · have := once4 h2 k2 hac
            simp [hac]
            rw [show decide (((once [a, b, c, e]).length : Int) = 4) = decide ((once [a, b, c, e]).length = 4) from decide_eq_decide.mpr (by omega), this]
            simp
          · simp [hac]
    · simp [d_is_quartet, startE, isQ, three_ne]
  | ref n => rcases dok_ref h with ⟨ws, h⟩ | h <;> simp [d_is_quartet, startE, isQ, h]
  | obj c ws => simp [dok] at h
  | exc c ws => simp [dok] at h
  | _ => simp [d_is_quartet, startE, isQ]
theorem s_need {m : Store} {w : W} (h : dok m w) : ∀ d, 2 ≤ d → callN prog d "need_many_valleys" [w] m = if isIn w 1 12 = true then .ok .non m else .exc "BadMany" [] m := by
  refine call_eq (k := 1) (df := d_need_many_valleys) rfl rfl fun d hd => ?_
  have hb := s_is_between h 1 12 d hd
  simp [d_need_many_valleys, startE, hb, dok_low h]
  cases isIn w 1 12 <;> simp
theorem s_told (m : Store) (a b c e : Int) : ∀ d, 1 ≤ d → callN prog d "quartet_told" [.int a, .int b, .int c, .int e] m = .ok (qW (four a b c e)) m := by
  refine call_eq (k := 0) (df := d_quartet_told) rfl rfl fun d hd => ?_
  have h1 := cmp_2p (mn a b, mx a b) (mn c e, mx c e)
  have h2 := sort2p (mn a b, mx a b) (mn c e, mx c e)
  simp only [pW] at h1 h2
  simp [d_quartet_told, startE, cmp_2i, sort2i, h1, h2]
  rfl
theorem s_four (m : Store) (a b c e : Int) : ∀ d, 1 ≤ d → callN prog d "_law_four" [.int a, .int b, .int c, .int e] m = .ok (qW (four a b c e)) m := by
  refine call_eq (k := 0) (df := d__law_four) rfl rfl fun d hd => ?_
  have h1 := cmp_2p (mn a b, mx a b) (mn c e, mx c e)
  have h2 := sort2p (mn a b, mx a b) (mn c e, mx c e)
  simp only [pW, mn, mx] at h1 h2
  simp [d__law_four, startE, cmp_2i, sort2i, h1, h2]
  rfl
/-! the rules, looked at -/
abbrev N4 : Type := Int × Int × Int × Int
def nW (n : N4) : W := .tup [.int n.1, .int n.2.1, .int n.2.2.1, .int n.2.2.2]
@[simp] theorem nW_refs (n : N4) : (nW n).refs = [] := by simp [nW]
def namesOf (q : Q) : List N4 :=
  [(q.1.1, q.1.2, q.2.1, q.2.2), (q.1.2, q.1.1, q.2.1, q.2.2), (q.1.1, q.1.2, q.2.2, q.2.1), (q.1.2, q.1.1, q.2.2, q.2.1),
   (q.2.1, q.2.2, q.1.1, q.1.2), (q.2.2, q.2.1, q.1.1, q.1.2), (q.2.1, q.2.2, q.1.2, q.1.1), (q.2.2, q.2.1, q.1.2, q.1.1)]
def aloneB (L : List Q) (q : Q) : Bool := !decide (four q.1.1 q.2.1 q.1.2 q.2.2 ∈ L) && !decide (four q.1.1 q.2.2 q.1.2 q.2.1 ∈ L)
def nearB (L : List Q) (n : N4) (e : Int) : Bool := decide (four n.1 n.2.1 n.2.2.1 e ∈ L)
def secB (L : List Q) (n : N4) (e : Int) : Bool := !(nearB L n e && !decide (four n.1 n.2.1 n.2.2.2 e ∈ L))
def thiB (L : List Q) (n : N4) (e : Int) : Bool := nearB L n e || decide (four n.1 e n.2.2.1 n.2.2.2 ∈ L)
theorem s_namings (m : Store) (q : Q) : ∀ d, 1 ≤ d → callN prog d "namings" [qW q] m = .ok (.ref m.length) (m ++ [.lst ((namesOf q).map nW)]) := by
  refine call_eq (k := 0) (df := d_namings) rfl rfl fun d hd => ?_
  simp [d_namings, startE]
  rw [evS_for _ _ _ _ (it_tup (ws := [nW (q.1.1, q.1.2, q.2.1, q.2.2), nW (q.2.1, q.2.2, q.1.1, q.1.2)]) (by simp [nW]) (by simp [nW]))]
  simp [nW]
  rfl
theorem s_is_alone {m : Store} {k : Nat} {kvs : List (W × W)} {L : List Q} (hk : m[k]? = some (.dct kvs)) (hL : kvs.map (·.1) = L.map qW) (q : Q) : ∀ d, 2 ≤ d → callN prog d "is_alone" [.ref k, qW q] m = .ok (.bl (aloneB L q)) m := by
  refine call_eq (k := 1) (df := d_is_alone) rfl rfl fun d hd => ?_
  have ht := fun a b c e => s_told m a b c e d hd
  simp [d_is_alone, startE, ht, in_qd hk hL, lt_of_get hk]
  unfold aloneB
  split <;> simp [*]
theorem s_keeps {m : Store} {k : Nat} {kvs : List (W × W)} {L : List Q} (hk : m[k]? = some (.dct kvs)) (hL : kvs.map (·.1) = L.map qW) (n : N4) (e : Int) : ∀ d, 2 ≤ d → callN prog d "keeps_rules" [.ref k, nW n, .int e] m = .ok (.bl (secB L n e && thiB L n e)) m := by
  refine call_eq (k := 1) (df := d_keeps_rules) rfl rfl fun d hd => ?_
  have ht := fun a b c e => s_told m a b c e d hd
  simp [d_keeps_rules, startE, ht, in_qd hk hL, lt_of_get hk, nW]
  unfold secB thiB nearB
  by_cases h1 : four n.1 n.2.1 n.2.2.1 e ∈ L <;> by_cases h2 : four n.1 n.2.1 n.2.2.2 e ∈ L <;> simp [h1, h2]
end K74

set_option Elab.async false
set_option linter.all false
set_option maxRecDepth 100000
set_option maxHeartbeats 4000000
namespace K74
open PySem L2 Ev
def fifthsOf (many : Int) (q : Q) : List Int := (rangeI 0 many).filter fun v => decide (v ∉ [q.1.1, q.1.2, q.2.1, q.2.2])
/-- the program's answer on quartets -/
def specA (many : Int) (L : List Q) : Bool := neigh ltQ L && L.all fun q => aloneB L q && (namesOf q).all fun n => (fifthsOf many q).all fun e => secB L n e && thiB L n e
def toQ : W → Q
  | .tup [.tup [.int a, .int b], .tup [.int c, .int d]] => ((a, b), (c, d))
  | _ => ((0, 0), (0, 0))
@[simp] theorem toQ_qW (q : Q) : toQ (qW q) = q := rfl
/-- the program's answer on anything -/
def ansA (many : Int) (w : W) : Bool := match w with
  | .tup ws => ws.all (isQ many) && specA many (ws.map toQ)
  | _ => false
theorem qs_of {many : Int} {ws : List W} (h : ws.all (isQ many) = true) : ∃ qs : List Q, ws = qs.map qW ∧ ws.map toQ = qs ∧ ∀ q ∈ qs, okQ many q = true := by
  refine ⟨ws.map toQ, ?_, rfl, fun q hq => ?_⟩
  · rw [List.map_map]
    conv => lhs; rw [← List.map_id ws]
    refine List.map_congr_left fun w hw => ?_
    obtain ⟨q, rfl, _⟩ := isQ_some.mp (List.all_eq_true.mp h w hw)
    simp
  · obtain ⟨w, hw, rfl⟩ := List.mem_map.mp hq
    obtain ⟨q, rfl, h⟩ := isQ_some.mp (List.all_eq_true.mp h w hw)
    simpa using h
theorem all_cap {n : Nat} (h : n ≤ 4000) : n ≤ cap := by simp; omega
theorem pi4 (a b c d : Int) : W.piL [.int a, .int b, .int c, .int d] = true := by simp
theorem in_4 (m : Store) (x a b c d : Int) : evIn (.int x) (.tup [.int a, .int b, .int c, .int d]) m = some (decide (x ∈ [a, b, c, d])) := by
  rw [in_tup m (by simp) (by simp) (by simp) (by simp)]
  simp
theorem s_are_of {m : Store} {w : W} (h : dok m w) (many : Int) (hm : -100 ≤ many ∧ many ≤ 100) (hlen : ∀ ws, w = .tup ws → ws.length ≤ 4000) : ∀ d, 4 ≤ d → callN prog d "are_quartets_of" [.int many, w] m = .ok (.bl (ansA many w)) m := by
  refine call_eq (k := 3) (df := d_are_quartets_of) rfl rfl fun d hd => ?_
  cases w with
  | tup ws =>
    have hn := hlen ws rfl
    rw [dok_tup] at h
    have hl : ∀ w ∈ ws, dok m w := dokL_iff.mp h
    have hb : ∀ x : W, dok m x → callN prog d "is_quartet" [.int many, x] m = .ok (.bl (isQ many x)) m := fun x hx => s_is_quartet hx _ d hd
    simp [d_are_quartets_of, startE]
    rw [lcm (f := id) ws (fun w => .bl (isQ many w)) (it_tupB (by simp) (by simpa using dokL_low h)) (by simp) (fun w hw => by simp [hb w (hl w hw)]) (by simp) (all_cap hn)]
    simp
    by_cases hq : ∃ x, x ∈ ws ∧ isQ many x = false
    · rw [if_pos hq]
      have : ws.all (isQ many) = false := by simpa using hq
      simp [ansA, this]
    · rw [if_neg hq]
      have hq1 : ws.all (isQ many) = true := by
        rw [List.all_eq_true]
        intro x hx
        cases e : isQ many x with
        | true => rfl
        | false => exact absurd ⟨x, hx, e⟩ hq
      obtain ⟨qs, e1, e2, e3⟩ := qs_of hq1
      have eA : ansA many (.tup ws) = specA many qs := by simp only [ansA, hq1, e2, Bool.true_and]
      rw [eA]
      clear hq hq1 eA e2 hb hlen
      subst e1
      rw [List.length_map] at hn
      have hz : ∀ l k : List Q, ((l.map qW).zip (k.map qW)).map (fun q => W.tup [q.1, q.2]) = (l.zip k).map fun p : Q × Q => .tup [qW p.1, qW p.2] := by
        intro l
        induction l with
        | nil => intro k; rfl
        | cons a r ih => intro k; cases k with
          | nil => rfl
          | cons b k => simp only [List.map_cons, List.zip_cons_cons, ih]
      have it1 : evIt prog.subc prog.fieldsOf (callN prog d) (mk prog (callN prog d)) (.zip (.var 1) ((E.var 1).slc (.some (.int 1)) .none)) [some (.int many), some (.tup (qs.map qW)), none, none, none, none, none, none, none, none] m = .ok ⟨(qs.zip qs.tail).map (fun p : Q × Q => .tup [qW p.1, qW p.2]), []⟩ m := by
        have hfl : W.refsL (qs.map qW) = [] := by simp
        rw [it_zipT (xs := qs.map qW) (ys := (qs.map qW).tail) (by simp) (by simp [hfl]) hfl (by simp [hfl]), ← List.map_tail, hz]
      rw [lcm (f := fun p : Q × Q => .tup [qW p.1, qW p.2]) (qs.zip qs.tail) (fun p => .bl (ltQ p.1 p.2)) it1 (by simp) (fun p hp => by simp [ltb_qW]) (by simp) (all_cap (by simp; omega))]
      simp
      rw [zip_neigh]
      cases hr : neigh ltQ qs with
      | false => simp [specA, hr]
      | true =>
        have nd : qs.Nodup := ((neigh_iff ordQ).mp hr).nodup ordQ
        simp
        rw [dcm (f := qW) qs qW (fun _ => .bl true) (it_tup (by simp) (by simp)) (by simp) (fun q hq => by simp) (fun q hq => ⟨by simp [W.keyb], fun p hp => by
          obtain ⟨r, _, rfl⟩ := List.mem_map.mp hp; rfl⟩) (all_cap hn) (by simp) (nodup_map qW_inj nd)]
        simp
        generalize hm1 : m ++ [MObj.dct (qs.map fun a => (qW a, W.bl true))] = m1
        have hk1 : m1[m.length]? = some (.dct (qs.map fun a => (qW a, W.bl true))) := by rw [← hm1]; simp
        have hlt : m.length < m1.length := lt_of_get hk1
        have hkeys : (qs.map fun a => (qW a, W.bl true)).map (·.1) = qs.map qW := by rw [List.map_map]; rfl
        have hal : ∀ (q : Q) (m' : Store), m'[m.length]? = some (.dct (qs.map fun a => (qW a, W.bl true))) → callN prog d "is_alone" [.ref m.length, qW q] m' = .ok (.bl (aloneB qs q)) m' := fun q m' h => s_is_alone h hkeys q d (by omega)
        have hke : ∀ (n : N4) (x : Int) (m' : Store), m'[m.length]? = some (.dct (qs.map fun a => (qW a, W.bl true))) → callN prog d "keeps_rules" [.ref m.length, nW n, .int x] m' = .ok (.bl (secB qs n x && thiB qs n x)) m' := fun n x m' h => s_keeps h hkeys n x d (by omega)
        have hna : ∀ (q : Q) (m : Store), callN prog d "namings" [qW q] m = .ok (.ref m.length) (m ++ [.lst ((namesOf q).map nW)]) := fun q m => s_namings m q d (by omega)
        refine form_use (G := fun s => gc m (outD (Ev.thn prog.subc prog.fieldsOf (callN prog d) (mk prog (callN prog d)) _ s)) = _) qW qs (fun q => aloneB qs q && (namesOf q).all fun n => (fifthsOf many q).all fun e => secB qs n e && thiB qs n e) (.bl false) (it_tup (by simp) (by simp)) (by simp) (by simp [hlt]) (fun q hq => ?_) (fun hall => ?_) fun hall e => ?_
        · refine ⟨[some (.int many), some (.tup (qs.map qW)), some (.ref m.length), some (qW q), none, none, none, none, none, none], [some (.int many), some (.tup (qs.map qW)), some (.ref m.length), some (qW q), some (.ref m1.length), none, none, none, none, none], [.lst ((fifthsOf many q).map W.int)], [.lst ((fifthsOf many q).map W.int)], by simp, by simp, ?_⟩
          simp
          rw [lcf (f := W.int) (rangeI 0 many) (fun v => decide (v ∉ [q.1.1, q.1.2, q.2.1, q.2.2])) W.int (it_rng1 (by simp) (by omega)) (by simp) (fun v hv => by simp [in_4]) (by simp) (by rw [len_rangeI]; exact all_cap (by omega)), show List.filter (fun v => decide (v ∉ [q.1.1, q.1.2, q.2.1, q.2.2])) (rangeI 0 many) = fifthsOf many q from rfl]
          simp
          obtain ⟨m2, hm2⟩ : ∃ m2, m2 = m1 ++ [.lst ((fifthsOf many q).map W.int)] := ⟨_, rfl⟩
          rw [← hm2]
          have h2 : m2[m1.length]? = some (.lst ((fifthsOf many q).map W.int)) := by rw [hm2]; simp
          have h3 : m2[m.length]? = some (.dct (qs.map fun a => (qW a, W.bl true))) := by rw [hm2]; exact get_old hk1
          have l2 := lt_of_get h2
          have l3 := lt_of_get h3
          simp [hal q m2 h3]
          rw [lc2m (f1 := nW) (namesOf q) W.int (fifthsOf many q) (fun n e => .bl (secB qs n e && thiB qs n e)) (it_new (by simp [hna]) (by simp [nW])) (by simp) (srcs2 := [(m1.length, some (.lst ((fifthsOf many q).map W.int)))]) (by simp [h2]) (fun n hn => ⟨_, by simp; rfl, it_lst (by simp) h2 (by simp), fun x hx => by simp [hke _ _ m2 h3]⟩) (by simp) (by
            have : (fifthsOf many q).length ≤ (rangeI 0 many).length := List.length_filter_le _ _
            rw [len_rangeI] at this
            have h8 : (namesOf q).length = 8 := rfl
            rw [h8]
            exact all_cap (by omega))]
          simp
          generalize (namesOf q).all (fun n => (fifthsOf many q).all fun e => secB qs n e && thiB qs n e) = y
          cases aloneB qs q <;> cases y <;> simp
        · simp [specA, hr, hall]
          rw [← hm1]
          simp
        · simp [specA, hr, hall]
          rw [← hm1]
          simp
  | ref n => rcases dok_ref h with ⟨ws, h⟩ | h <;> simp [d_are_quartets_of, startE, ansA, h]
  | obj c ws => simp [dok] at h
  | exc c ws => simp [dok] at h
  | _ => simp [d_are_quartets_of, startE, ansA]
end K74

set_option Elab.async false
set_option linter.all false
set_option maxRecDepth 100000
set_option maxHeartbeats 4000000
namespace K74
open PySem L2 Ev
theorem s_are {m : Store} {w : W} (h : dok m w) (many : Int) (hm : 1 ≤ many ∧ many ≤ 12) (hlen : ∀ ws, w = .tup ws → ws.length ≤ 4000) : ∀ d, 5 ≤ d → callN prog d "are_quartets" [.int many, w] m = .ok (.bl (ansA many w)) m := by
  refine call_eq (k := 4) (df := d_are_quartets) rfl rfl fun d hd => ?_
  have h1 := s_need (m := m) (w := .int many) (by simp) d (by omega)
  have h2 := s_are_of h many (by omega) hlen d hd
  have h3 : isIn (.int many) 1 12 = true := by simp [isIn, hm]
  rw [if_pos h3] at h1
  simp [d_are_quartets, startE, h1, h2]
theorem s_are_bad {m : Store} {b w : W} (hb : dok m b) (hw : dok m w) (h3 : isIn b 1 12 = false) : ∀ d, 5 ≤ d → callN prog d "are_quartets" [b, w] m = .exc "BadMany" [] m := by
  refine call_eq (k := 4) (df := d_are_quartets) rfl rfl fun d hd => ?_
  have h1 := s_need (m := m) (w := b) hb d (by omega)
  rw [h3, if_neg (by simp)] at h1
  simp [d_are_quartets, startE, h1]
/-! the law's own look -/
theorem s_whole {m : Store} {w : W} (h : dok m w) : ∀ d, 1 ≤ d → callN prog d "_law_is_whole" [w] m = .ok (.bl (match w with | .int _ => true | _ => false)) m := by
  refine call_eq (k := 0) (df := d__law_is_whole) rfl rfl fun d _ => ?_
  cases w with
  | int i => simp [d__law_is_whole, startE]
  | ref n => rcases dok_ref h with ⟨ws, h⟩ | h <;> simp [d__law_is_whole, startE, h]
  | obj c ws => simp [dok] at h
  | exc c ws => simp [dok] at h
  | _ => simp [d__law_is_whole, startE]
theorem s_below {m : Store} {w : W} (h : dok m w) (n : Int) : ∀ d, 2 ≤ d → callN prog d "_law_is_below" [w, .int n] m = .ok (.bl (isIn w 0 (n - 1))) m := by
  refine call_eq (k := 1) (df := d__law_is_below) rfl rfl fun d hd => ?_
  have hw := s_whole h d hd
  cases w with
  | int i =>
    simp at hw
    simp [d__law_is_below, startE, hw, isIn]
    have e : decide (i < n) = decide (i ≤ n - 1) := decide_eq_decide.mpr (by omega)
    split <;> simp [*]
  | ref n => simp at hw; simp [d__law_is_below, startE, isIn, hw]
  | obj c ws => simp [dok] at h
  | exc c ws => simp [dok] at h
  | non => simp at hw; simp [d__law_is_below, startE, isIn, hw]
  | bl _ => simp at hw; simp [d__law_is_below, startE, isIn, hw]
  | str _ => simp at hw; simp [d__law_is_below, startE, isIn, hw]
  | tup _ => simp at hw; simp [d__law_is_below, startE, isIn, hw]
def lotW (l : List Int) : W := .tup (l.map W.int)
@[simp] theorem lotW_refs (l : List Int) : (lotW l).refs = [] := by simp [lotW]
@[simp] theorem lotW_pi (l : List Int) : (lotW l).pi = true := by simp [lotW]
theorem in_lot (m : Store) (i : Int) (l : List Int) : evIn (.int i) (lotW l) m = some (decide (i ∈ l)) := by
  unfold lotW
  rw [in_tup m (by simp) (by simp) (by simp) (Nat.le_trans (depL_map W.int l (n := 0) (by simp)) (by decide))]
  congr 1
  exact decide_eq_decide.mpr (mem_map_inj (f := W.int) (fun a b e => by simpa using e))
theorem it_pW {subc : String → String → Option Bool} {fieldsOf : String → List String} {call make : Call} {en : En} {m : Store} {a : E} {p : Int × Int} (h : evE subc fieldsOf call make a en m = .ok (pW p) m) : evIt subc fieldsOf call make (.of a) en m = .ok ⟨[p.1, p.2].map W.int, []⟩ m :=
  it_tup (ws := [p.1, p.2].map W.int) h (by simp)
theorem in_bl2 {m : Store} {n : Nat} {a b : Bool} (c : Bool) (h : m[n]? = some (.lst [.bl a, .bl b])) : evIn (.bl c) (.ref n) m = some (decide (c ∈ [a, b])) := in_bls (bs := [a, b]) h
def partB (p q : Int × Int) (l : List Int) : Bool := (decide (p.1 ∈ l) && decide (p.2 ∈ l) && !decide (q.1 ∈ l) && !decide (q.2 ∈ l)) || (!decide (p.1 ∈ l) && !decide (p.2 ∈ l) && decide (q.1 ∈ l) && decide (q.2 ∈ l))
theorem s_parted (m : Store) (lots : List (List Int)) (p q : Int × Int) : ∀ d, 1 ≤ d → callN prog d "_law_parted" [.tup (lots.map lotW), pW p, pW q] m = .ok (.bl (lots.any (partB p q))) m := by
  refine call_eq (k := 0) (df := d__law_parted) rfl rfl fun d _ => ?_
  simp [d__law_parted, startE]
  refine form_use (G := fun s => gc m (outD (Ev.thn prog.subc prog.fieldsOf (callN prog d) (mk prog (callN prog d)) _ s)) = _) lotW lots (fun l => !partB p q l) (.bl true) (it_tup (by simp) (by simp)) (by simp) (by simp) (fun l hl => ?_) (fun hall => ?_) fun hall e => ?_
  · refine ⟨[some (.tup (lots.map lotW)), some (pW p), some (pW q), some (lotW l), none, none, none], [some (.tup (lots.map lotW)), some (pW p), some (pW q), some (lotW l), some (.ref m.length), some (.ref (m.length + 1)), none], [.lst [.bl (decide (p.1 ∈ l)), .bl (decide (p.2 ∈ l))], .lst [.bl (decide (q.1 ∈ l)), .bl (decide (q.2 ∈ l))]], [.lst [.bl (decide (p.1 ∈ l)), .bl (decide (p.2 ∈ l))], .lst [.bl (decide (q.1 ∈ l)), .bl (decide (q.2 ∈ l))]], by simp, by simp, ?_⟩
    simp
    rw [lcm (f := W.int) [p.1, p.2] (fun i => .bl (decide (i ∈ l))) (it_pW (by simp)) (by simp) (fun i hi => by simp [in_lot]) (by simp) two_cap]
    simp
    rw [lcm (f := W.int) [q.1, q.2] (fun i => .bl (decide (i ∈ l))) (it_pW (by simp)) (by simp) (fun i hi => by simp [in_lot]) (by simp) two_cap]
    simp
    obtain ⟨m2, hm2⟩ : ∃ m2, m2 = m ++ [.lst [.bl (decide (p.1 ∈ l)), .bl (decide (p.2 ∈ l))], .lst [.bl (decide (q.1 ∈ l)), .bl (decide (q.2 ∈ l))]] := ⟨_, rfl⟩
    rw [← hm2]
    have h1 : m2[m.length]? = some (.lst [.bl (decide (p.1 ∈ l)), .bl (decide (p.2 ∈ l))]) := by rw [hm2]; simp
    have h2 : m2[m.length + 1]? = some (.lst [.bl (decide (q.1 ∈ l)), .bl (decide (q.2 ∈ l))]) := by rw [hm2]; simp
    simp [in_bl2 _ h1, in_bl2 _ h2]
    unfold partB
    by_cases a1 : p.1 ∈ l <;> by_cases a2 : p.2 ∈ l <;> by_cases b1 : q.1 ∈ l <;> by_cases b2 : q.2 ∈ l <;> simp [a1, a2, b1, b2]
  · have : lots.any (partB p q) = false := by
      rw [List.any_eq_false]
      intro l hl
      simpa using List.all_eq_true.mp hall l hl
    simp [this]
  · have : lots.any (partB p q) = true := by
      cases e : lots.any (partB p q) with
      | true => rfl
      | false =>
        rw [List.any_eq_false] at e
        rw [← hall, List.all_eq_true.mpr fun l hl => by simpa using e l hl]
    simp [this]
/-! pairs, quartets -/
def rowP (l : List Int) (p : Nat × Int) : List (Int × Int) := (l.drop (p.1 + 1)).map fun y => (p.2, y)
def pairsL (l : List Int) : List (Int × Int) := (l.mapIdx fun i x => (i, x)).flatMap (rowP l)
theorem len_pairs (l : List Int) : (pairsL l).length ≤ l.length * l.length := by
  unfold pairsL
  have key : ∀ (k : List (Nat × Int)), (k.flatMap (rowP l)).length ≤ k.length * l.length := by
    intro k
    induction k with
    | nil => simp
    | cons a r ih =>
      simp only [List.flatMap_cons, List.length_append, rowP, List.length_map, List.length_drop, List.length_cons, Nat.add_mul, Nat.one_mul] at ih ⊢
      omega
  exact Nat.le_trans (key _) (by simp)
theorem s_pairs {m : Store} {a : Nat} {l : List Int} (h : m[a]? = some (.lst (l.map W.int))) (hl : l.length ≤ 1000) : ∀ d, 1 ≤ d → callN prog d "_law_pairs" [.ref a] m = .ok (.ref m.length) (m ++ [.lst ((pairsL l).map pW)]) := by
  refine call_eq (k := 0) (df := d__law_pairs) rfl rfl fun d _ => ?_
  have hlt := lt_of_get h
  simp [d__law_pairs, startE]
  have hm : (l.map W.int).mapIdx (fun i w => W.tup [.int (i : Nat), w]) = (l.mapIdx fun i x => (i, x)).map fun p : Nat × Int => .tup [.int (p.1 : Nat), .int p.2] := by
    apply List.ext_getElem?
    intro i
    simp only [List.getElem?_mapIdx, List.getElem?_map]
    cases l[i]? <;> rfl
  rw [forA (fun p : Nat × Int => .tup [.int (p.1 : Nat), .int p.2]) (l.mapIdx fun i x => (i, x)) (fun p => (rowP l p).map pW) (srcs := [(a, some (.lst (l.map W.int)))]) (by rw [it_enumL (n := a) (ws := l.map W.int) (by simp) (get_old h) (by simp), hm]) (fun o => by simp [get_old h]) (by simp; omega) (fun p hp => ⟨[some (.ref a), some (.ref m.length), some (.int (p.1 : Nat)), some (.int p.2), none], by simp, fun acc ha hn => ⟨[some (.ref a), some (.ref m.length), some (.int (p.1 : Nat)), some (.int p.2), none], [], .inl ?_, by simp⟩⟩) (by simp) (fun p hp => by simp)]
  · simp
    rw [flatMap_map]
    simp
    rfl
  · simp
    rw [lcm (f := W.int) (l.drop (p.1 + 1)) (fun y => pW (p.2, y)) (it_new (by
        have e : (p.1 : Int) + 1 = ((p.1 + 1 : Nat) : Int) := by omega
        rw [evE_slc]
        simp [get_old h]
        have hfl : W.refsL (l.map W.int) = [] := by simp
        rw [e, cut_from]
        simp [hfl]) (by simp)) (by simp) (fun y hy => by simp [pW]) (by simp) (all_cap (by simp; omega))]
    have hrow : (l.drop (p.1 + 1)).map (fun y => pW (p.2, y)) = (rowP l p).map pW := by simp [rowP, Function.comp_def]
    rw [hrow]
    rw [flatMap_map, List.length_map] at hn
    have h1 := len_pairs l
    have h2 : l.length * l.length ≤ 1000 * 1000 := Nat.mul_le_mul hl hl
    have h3 : (rowP l p).length ≤ 1000 := by simp [rowP]; omega
    have h4 : ((l.mapIdx fun i x => (i, x)).flatMap (rowP l)).length ≤ 1000 * 1000 := Nat.le_trans h1 h2
    have hlen : acc.length + (rowP l p).length ≤ 16777216 := by rw [List.length_nil] at hn; omega
    simp [ha, hlen]
/-! all quartets -/
def okP (p q : Int × Int) : Bool := decide (p.1 < q.1) && decide (p.2 ≠ q.1) && decide (p.2 ≠ q.2)
def candP (P : List (Int × Int)) (p : Int × Int) : List Q := (P.filter (okP p)).map fun q => (p, q)
def candQ (many : Int) : List Q := (pairsL (rangeI 0 many)).flatMap (candP (pairsL (rangeI 0 many)))
def allQ (many : Int) : List Q := srt ltQ (candQ many)
theorem len_range_small {many : Int} (hm : many ≤ 20) : (rangeI 0 many).length ≤ 20 := by rw [len_rangeI]; omega
theorem len_flat {α β : Type} (f : α → List β) (n : Nat) : ∀ (l : List α), (∀ a ∈ l, (f a).length ≤ n) → (l.flatMap f).length ≤ l.length * n
  | [], _ => by simp
  | a :: r, h => by
    rw [List.flatMap_cons, List.length_append, List.length_cons, Nat.add_mul, Nat.one_mul]
    have := len_flat f n r fun b hb => h b (List.mem_cons_of_mem _ hb)
    have := h a List.mem_cons_self
    omega
theorem len_candP (P : List (Int × Int)) (p : Int × Int) : (candP P p).length ≤ P.length := by
  unfold candP
  rw [List.length_map]
  exact List.length_filter_le _ _
theorem len_candQ {many : Int} (hm : many ≤ 20) : (candQ many).length ≤ 160000 := by
  have h1 := len_pairs (rangeI 0 many)
  have h2 := len_range_small hm
  have h3 : (rangeI 0 many).length * (rangeI 0 many).length ≤ 20 * 20 := Nat.mul_le_mul h2 h2
  have h4 := len_flat (candP (pairsL (rangeI 0 many))) (pairsL (rangeI 0 many)).length (pairsL (rangeI 0 many)) fun p _ => len_candP _ _
  have h5 : (pairsL (rangeI 0 many)).length * (pairsL (rangeI 0 many)).length ≤ 400 * 400 := Nat.mul_le_mul (by omega) (by omega)
  unfold candQ
  omega
@[simp] theorem lrange1 (m : Store) (n : Int) (h : -100 ≤ n ∧ n ≤ 1000) : evBi .lrange [.int n] m = .ok (.ref m.length) (m ++ [.lst ((rangeI 0 n).map W.int)]) := by
  show evLrange [.int n] m = _
  unfold evLrange
  rw [show ends [W.int n] = some (0, n) from rfl, Res.of_some, Res.bind1, if_pos (by unfold L2.RgOk; simp; omega), rangeW_eq]; rfl
theorem s_quartets (m : Store) (many : Int) (hm : 0 ≤ many ∧ many ≤ 20) : ∀ d, 2 ≤ d → callN prog d "_law_quartets" [.int many] m = .ok (.ref m.length) (m ++ [.lst ((allQ many).map qW)]) := by
  refine call_eq (k := 1) (df := d__law_quartets) rfl rfl fun d hd => ?_
  have hp : ∀ (m' : Store) (a : Nat), m'[a]? = some (.lst ((rangeI 0 many).map W.int)) → callN prog d "_law_pairs" [.ref a] m' = .ok (.ref m'.length) (m' ++ [.lst ((pairsL (rangeI 0 many)).map pW)]) := fun m' a h => s_pairs h (by rw [len_rangeI]; omega) d hd
  have hr : -100 ≤ many ∧ many ≤ 1000 := by omega
  have hit : ∀ (en : En) (m' : Store), en[0]? = some (some (.int many)) → evIt prog.subc prog.fieldsOf (callN prog d) (mk prog (callN prog d)) (.of (.call "_law_pairs" (.cons (.bi .lrange (.cons (.var 0) .nil)) .nil))) en m' = .ok ⟨(pairsL (rangeI 0 many)).map pW, []⟩ m' := fun en m' h => by
    refine it_new ?_ (by simp)
    have := hp (m' ++ [.lst ((rangeI 0 many).map W.int)]) m'.length (by simp)
    simp [h, hr, this]
  simp [d__law_quartets, startE]
  rw [forA pW (pairsL (rangeI 0 many)) (fun p => (candP (pairsL (rangeI 0 many)) p).map qW) (hit _ _ (by simp)) (fun o => by simp) (by simp) (fun p hp => ⟨[some (.int many), some (.ref m.length), some (.int p.1), some (.int p.2), none, none], by simp, fun acc ha hn => ⟨[some (.int many), some (.ref m.length), some (.int p.1), some (.int p.2), none, none], [], .inl ?_, by simp⟩⟩) (by simp) (fun p hp => by simp)]
  · simp
    rw [flatMap_map]
    have hc := cmp_qs ((pairsL (rangeI 0 many)).flatMap (candP (pairsL (rangeI 0 many))))
    rw [sorted_new m _ hc, sortW_map lt_qW]
    simp
    rfl
  · simp
    have hP : (pairsL (rangeI 0 many)).length ≤ 400 := by
      have h1 := len_pairs (rangeI 0 many)
      have h2 := len_range_small hm.2
      have h3 : (rangeI 0 many).length * (rangeI 0 many).length ≤ 20 * 20 := Nat.mul_le_mul h2 h2
      omega
    have hacc : acc.length ≤ 160000 := by
      rw [flatMap_map, List.length_map, List.length_nil] at hn
      have := len_candQ hm.2
      unfold candQ at this
      omega
    rw [forA pW (pairsL (rangeI 0 many)) (fun q => if okP p q = true then [qW (p, q)] else []) (hit _ _ (by simp)) (fun o => by simp) (by simp) (fun q hq => ⟨[some (.int many), some (.ref m.length), some (.int p.1), some (.int p.2), some (.int q.1), some (.int q.2)], by simp, fun acc2 ha2 hn2 => ⟨[some (.int many), some (.ref m.length), some (.int p.1), some (.int p.2), some (.int q.1), some (.int q.2)], [], .inl ?_, by simp⟩⟩) ha (fun q hq => by split <;> simp)]
    · simp
      unfold candP
      generalize pairsL (rangeI 0 many) = P
      induction P with
      | nil => rfl
      | cons x r ih =>
        rw [List.flatMap_cons, ih, List.filter_cons]
        split <;> simp
    · have hlen : acc2.length < 16777216 := by
        have := len_flat (fun q => if okP p q = true then [qW (p, q)] else []) 1 (pairsL (rangeI 0 many)) (fun q _ => by split <;> simp)
        omega
      simp [hlen, ha2]
      by_cases h1 : p.1 < q.1 <;> by_cases h2 : p.2 = q.1 <;> by_cases h3 : p.2 = q.2 <;> simp [h1, h2, h3, okP, qW, pW, hlen, ha2]
      all_goals trace_state
end K74

set_option Elab.async false
set_option linter.all false
set_option maxRecDepth 100000
set_option maxHeartbeats 4000000
namespace K74
open PySem L2 Ev
theorem len_insQ (x : Q) : ∀ l : List Q, (ins ltQ x l).length = l.length + 1
  | [] => rfl
  | y :: r => by
    rw [ins]
    split
    · simp [len_insQ x r]
    · simp
theorem len_srtQ : ∀ l : List Q, (srt ltQ l).length = l.length
  | [] => rfl
  | x :: r => by rw [srt, len_insQ, len_srtQ r]; rfl
theorem len_allQ {many : Int} (hm : many ≤ 20) : (allQ many).length ≤ 160000 := by
  unfold allQ
  rw [len_srtQ]
  exact len_candQ hm
def quartsOf (many : Int) (lots : List (List Int)) : List Q := (allQ many).filter fun q => lots.any (partB q.1 q.2)
theorem s_quartets_of (m : Store) (many : Int) (lots : List (List Int)) (hm : 0 ≤ many ∧ many ≤ 20) : ∀ d, 3 ≤ d → callN prog d "_law_quartets_of" [.int many, .tup (lots.map lotW)] m = .ok (.ref m.length) (m ++ [.lst ((quartsOf many lots).map qW)]) := by
  refine call_eq (k := 2) (df := d__law_quartets_of) rfl rfl fun d hd => ?_
  have h1 := s_quartets m many hm d hd
  have h2 := fun p q => s_parted m lots p q d (by omega)
  simp [d__law_quartets_of, startE]
  rw [lcf (f := qW) (allQ many) (fun q => lots.any (partB q.1 q.2)) qW (it_new (by simp [h1]) (by simp)) (by simp) (fun q hq => by simp [h2]) (by simp) (by have := len_allQ hm.2; simp; omega)]
  simp
  rfl
theorem s_fifths (m : Store) (many : Int) (q : Q) (hm : -100 ≤ many ∧ many ≤ 100) : ∀ d, 1 ≤ d → callN prog d "_law_fifths" [.int many, qW q] m = .ok (.ref m.length) (m ++ [.lst ((fifthsOf many q).map W.int)]) := by
  refine call_eq (k := 0) (df := d__law_fifths) rfl rfl fun d hd => ?_
  have e : ∀ (x : Int) (p : Int × Int), evIn (.int x) (pW p) m = some (decide (x ∈ [p.1, p.2])) := fun x p => in_lot m x [p.1, p.2]
  simp [d__law_fifths, startE]
  rw [lcf (f := W.int) (rangeI 0 many) (fun v => decide (v ∉ [q.1.1, q.1.2, q.2.1, q.2.2])) W.int (it_rng1 (by simp) (by omega)) (by simp) (fun v hv => ⟨_, by simp; rfl, by
    simp [e]
    by_cases h1 : v = q.1.1 <;> by_cases h2 : v = q.1.2 <;> by_cases h3 : v = q.2.1 <;> by_cases h4 : v = q.2.2 <;> simp [h1, h2, h3, h4], by simp⟩) (by simp) (by rw [len_rangeI]; exact all_cap (by omega)), show List.filter (fun v => decide (v ∉ [q.1.1, q.1.2, q.2.1, q.2.2])) (rangeI 0 many) = fifthsOf many q from rfl]
  simp
def waysOf (q : Q) : List N4 :=
  [(q.1.1, q.1.2, q.2.1, q.2.2), (q.1.1, q.1.2, q.2.2, q.2.1), (q.1.2, q.1.1, q.2.1, q.2.2), (q.1.2, q.1.1, q.2.2, q.2.1),
   (q.2.1, q.2.2, q.1.1, q.1.2), (q.2.1, q.2.2, q.1.2, q.1.1), (q.2.2, q.2.1, q.1.1, q.1.2), (q.2.2, q.2.1, q.1.2, q.1.1)]
theorem s_first (m : Store) (L : List Q) : ∀ d, 2 ≤ d → callN prog d "_law_first_rule" [.tup (L.map qW)] m = .ok (.bl (L.all (aloneB L))) m := by
  refine call_eq (k := 1) (df := d__law_first_rule) rfl rfl fun d hd => ?_
  have hf := fun a b c e => s_four m a b c e d hd
  have hin := fun q => in_qs m q L
  simp [d__law_first_rule, startE]
  refine form_use (G := fun s => gc m (outD (Ev.thn prog.subc prog.fieldsOf (callN prog d) (mk prog (callN prog d)) _ s)) = _) qW L (aloneB L) (.bl false) (it_tup (by simp) (by simp)) (by simp) (by simp) (fun q hq => ?_) (fun hall => ?_) fun hall e => ?_
  · refine ⟨[some (.tup (L.map qW)), some (qW q), none, none, none, none], [some (.tup (L.map qW)), some (qW q), some (.int q.1.1), some (.int q.1.2), some (.int q.2.1), some (.int q.2.2)], [], [], by simp, by simp, ?_⟩
    simp [hf, hin]
    unfold aloneB
    by_cases h1 : four q.1.1 q.2.1 q.1.2 q.2.2 ∈ L <;> by_cases h2 : four q.1.1 q.2.2 q.1.2 q.2.1 ∈ L <;> simp [h1, h2]
  · simp [hall]
  · simp [hall]
abbrev innerS : S := .for_ (.t [.v 4, .v 5]) (.of (.lst (.cons (.tup (.cons (.idx (.var 2) (.int 0)) (.cons (.idx (.var 2) (.int 1)) .nil))) (.cons (.tup (.cons (.idx (.var 2) (.int 1)) (.cons (.idx (.var 2) (.int 0)) .nil))) .nil)))) (.cons (.asg (.v 1) (.bin .add (.var 1) (.lst (.cons (.tup (.cons (.var 4) (.cons (.var 5) (.cons (.idx (.var 3) (.int 0)) (.cons (.idx (.var 3) (.int 1)) .nil))))) (.cons (.tup (.cons (.var 4) (.cons (.var 5) (.cons (.idx (.var 3) (.int 1)) (.cons (.idx (.var 3) (.int 0)) .nil))))) .nil))))) .nil) [4, 5]
def fourN (h t : Int × Int) : List N4 := [(h.1, h.2, t.1, t.2), (h.1, h.2, t.2, t.1), (h.2, h.1, t.1, t.2), (h.2, h.1, t.2, t.1)]
theorem s_inner {subc : String → String → Option Bool} {fieldsOf : String → List String} {call make : Call} (M : Store) (a : Nat) (acc : List N4) (q : Q) (h t : Int × Int) (ha : M[a]? = some (.lst (acc.map nW))) (hl : acc.length ≤ 1000) :
    evS subc fieldsOf call make innerS [some (qW q), some (.ref a), some (pW h), some (pW t), none, none] M = .nx [some (qW q), some (.ref M.length), some (pW h), some (pW t), none, none] (M ++ [.lst ((acc ++ fourN h t).map nW)]) := by
  have la := lt_of_get ha
  rw [evS_for _ _ _ _ (it_new (ws := [.tup [.int h.1, .int h.2], .tup [.int h.2, .int h.1]]) (by simp) (by simp))]
  have l1 : acc.length + 2 ≤ 16777216 := by omega
  have l2 : acc.length + 4 ≤ 16777216 := by omega
  have hfl : W.refsL (acc.map nW) = [] := by simp
  simp [get_old ha, l1]
  rw [gcE_one (k := 0) (j := 1) (o := .lst (acc.map nW ++ [nW (h.1, h.2, t.1, t.2), nW (h.1, h.2, t.2, t.1)])) (by simp [nW]) (bel_flat (by simp)) (by simp) (by simp)]
  simp [l2, hfl]
  rw [gcE_one (k := 1) (j := 1) (o := .lst (acc.map nW ++ [nW (h.1, h.2, t.1, t.2), nW (h.1, h.2, t.2, t.1), nW (h.2, h.1, t.1, t.2), nW (h.2, h.1, t.2, t.1)])) (by simp [nW]) (bel_flat (by simp)) (by simp) (by simp)]
  simp [fourN]
theorem s_ways (m : Store) (q : Q) : ∀ d, 1 ≤ d → callN prog d "_law_ways_told" [qW q] m = .ok (.ref m.length) (m ++ [.lst ((waysOf q).map nW)]) := by
  refine call_eq (k := 0) (df := d__law_ways_told) rfl rfl fun d hd => ?_
  simp [d__law_ways_told, startE]
  obtain ⟨M0, hM0⟩ : ∃ M0, M0 = m ++ [.lst []] := ⟨_, rfl⟩
  rw [← hM0]
  have h0 : M0[m.length]? = some (.lst (([] : List N4).map nW)) := by rw [hM0]; simp
  have l0 := lt_of_get h0
  rw [evS_for _ _ _ _ (it_new (ws := [.tup [pW q.1, pW q.2], .tup [pW q.2, pW q.1]]) (by simp) (by simp))]
  simp
  rw [s_inner M0 m.length [] q q.1 q.2 h0 (by simp)]
  simp
  rw [gcE_one (k := 0) (j := 1) (o := .lst ((fourN q.1 q.2).map nW)) (by simp) (bel_flat (by simp)) (by simp) (by simp)]
  simp
  obtain ⟨M1, hM1⟩ : ∃ M1, M1 = M0 ++ [.lst ((fourN q.1 q.2).map nW)] := ⟨_, rfl⟩
  rw [← hM1]
  have h1 : M1[M0.length]? = some (.lst ((fourN q.1 q.2).map nW)) := by rw [hM1]; simp
  rw [s_inner M1 M0.length (fourN q.1 q.2) q q.2 q.1 h1 (by simp [fourN])]
  simp
  rw [hM1]
  simp
  rw [gcE_one (k := 1) (j := 1) (o := .lst ((fourN q.1 q.2).map nW ++ (fourN q.2 q.1).map nW)) (by simp) (bel_flat (by simp)) (by simp) (by simp)]
  simp
  rw [hM0]
  simp
  rfl
/-- rules that ask each way to tell each quartet, and each fifth valley -/
theorem s_rule (m : Store) (L : List Q) (many : Int) (hm : -100 ≤ many ∧ many ≤ 100) (f : String) (df : Def) (c : E) (rB : List Q → N4 → Int → Bool) (hf : prog.find f = some df)
    (hdf : df = ⟨["_law_many", "_law_several"], 9, (.cons (.for_ (.v 2) (.of (.var 1)) (.cons (.for_ (.t [.v 3, .v 4, .v 5, .v 6]) (.of (.call "_law_ways_told" (.cons (.var 2) .nil))) (.cons (.for_ (.v 7) (.of (.call "_law_fifths" (.cons (.var 0) (.cons (.var 2) .nil)))) (.cons (.asg (.v 8) (.cmp .inn (.call "_law_four" (.cons (.var 3) (.cons (.var 4) (.cons (.var 5) (.cons (.var 7) .nil))))) (.var 1))) (.cons (.ite c (.cons (.rt (.bl false)) .nil) .nil) .nil)) [7, 8]) .nil) [3, 4, 5, 6, 7, 8]) .nil) [2, 3, 4, 5, 6, 7, 8]) (.cons (.rt (.bl true)) .nil)), false⟩)
    (hc : ∀ (call : Call) (make : Call) (q : Q) (n : N4) (e : Int), (∀ a b c e, call "_law_four" [.int a, .int b, .int c, .int e] m = .ok (qW (four a b c e)) m) → kC (evE prog.subc prog.fieldsOf call make c [some (.int many), some (.tup (L.map qW)), some (qW q), some (.int n.1), some (.int n.2.1), some (.int n.2.2.1), some (.int n.2.2.2), some (.int e), some (.bl (nearB L n e))] m) = .ok (!rB L n e) m) :
    ∀ d, 2 ≤ d → callN prog d f [.int many, .tup (L.map qW)] m = .ok (.bl (L.all fun q => (waysOf q).all fun n => (fifthsOf many q).all fun e => rB L n e)) m := by
  subst hdf
  refine call_eq (k := 1) hf rfl fun d hd => ?_
  have hf4 := fun a b c e => s_four m a b c e d hd
  have hin := fun q => in_qs m q L
  have hw := fun q => s_ways m q d hd
  have h5 := fun q => s_fifths m many q hm d hd
  simp [startE]
  refine form_use (G := fun s => gc m (outD (Ev.thn prog.subc prog.fieldsOf (callN prog d) (mk prog (callN prog d)) _ s)) = _) qW L (fun q => (waysOf q).all fun n => (fifthsOf many q).all fun e => rB L n e) (.bl false) (it_tup (by simp) (by simp)) (by simp) (by simp) (fun q hq => ?_) (fun hall => ?_) fun hall e => ?_
  · refine And.elim (fun g1 g2 => ?_) (form (en := [some (.int many), some (.tup (L.map qW)), some (qW q), none, none, none, none, none, none]) (m := m) (subc := prog.subc) (fieldsOf := prog.fieldsOf) (call := callN prog d) (make := mk prog (callN prog d)) (t := .t [.v 3, .v 4, .v 5, .v 6]) (it := .of (.call "_law_ways_told" (.cons (.var 2) .nil))) (dead := [3, 4, 5, 6, 7, 8]) (b := .cons (.for_ (.v 7) (.of (.call "_law_fifths" (.cons (.var 0) (.cons (.var 2) .nil)))) (.cons (.asg (.v 8) (.cmp .inn (.call "_law_four" (.cons (.var 3) (.cons (.var 4) (.cons (.var 5) (.cons (.var 7) .nil))))) (.var 1))) (.cons (.ite c (.cons (.rt (.bl false)) .nil) .nil) .nil)) [7, 8]) .nil) (srcs := [])
      nW (waysOf q) (fun n => (fifthsOf many q).all fun e => rB L n e) (.bl false) (it_new (by simp [hw]) (by simp)) (by simp) (by simp) (fun n hn => ?_))
    · cases hq2 : (waysOf q).all (fun n => (fifthsOf many q).all fun e => rB L n e) with
      | true =>
        refine ⟨[some (.int many), some (.tup (L.map qW)), some (qW q), none, none, none, none, none, none], [some (.int many), some (.tup (L.map qW)), some (qW q), none, none, none, none, none, none], [], [], by simp, by simp, ?_⟩
        simp [g1 hq2]
      | false =>
        obtain ⟨e, he⟩ := g2 hq2
        refine ⟨[some (.int many), some (.tup (L.map qW)), some (qW q), none, none, none, none, none, none], [some (.int many), some (.tup (L.map qW)), some (qW q), none, none, none, none, none, none], [], e, by simp, by simp, ?_⟩
        simp [he]
    · refine And.elim (fun g1 g2 => ?_) (form (en := [some (.int many), some (.tup (L.map qW)), some (qW q), some (.int n.1), some (.int n.2.1), some (.int n.2.2.1), some (.int n.2.2.2), none, none]) (m := m) (subc := prog.subc) (fieldsOf := prog.fieldsOf) (call := callN prog d) (make := mk prog (callN prog d)) (t := .v 7) (it := .of (.call "_law_fifths" (.cons (.var 0) (.cons (.var 2) .nil)))) (dead := [7, 8]) (b := .cons (.asg (.v 8) (.cmp .inn (.call "_law_four" (.cons (.var 3) (.cons (.var 4) (.cons (.var 5) (.cons (.var 7) .nil))))) (.var 1))) (.cons (.ite c (.cons (.rt (.bl false)) .nil) .nil) .nil)) (srcs := [])
        W.int (fifthsOf many q) (fun e => rB L n e) (.bl false) (it_new (by simp [h5]) (by simp)) (by simp) (by simp) (fun e he => ?_))
      · cases hq2 : (fifthsOf many q).all (fun e => rB L n e) with
        | true =>
          refine ⟨[some (.int many), some (.tup (L.map qW)), some (qW q), some (.int n.1), some (.int n.2.1), some (.int n.2.2.1), some (.int n.2.2.2), none, none], [some (.int many), some (.tup (L.map qW)), some (qW q), some (.int n.1), some (.int n.2.1), some (.int n.2.2.1), some (.int n.2.2.2), none, none], [], [], by simp [nW], by simp, ?_⟩
          simp [g1 hq2]
        | false =>
          obtain ⟨e, he⟩ := g2 hq2
          refine ⟨[some (.int many), some (.tup (L.map qW)), some (qW q), some (.int n.1), some (.int n.2.1), some (.int n.2.2.1), some (.int n.2.2.2), none, none], [some (.int many), some (.tup (L.map qW)), some (qW q), some (.int n.1), some (.int n.2.1), some (.int n.2.2.1), some (.int n.2.2.2), none, none], [], e, by simp [nW], by simp, ?_⟩
          simp [he]
      · have hc' := hc (callN prog d) (mk prog (callN prog d)) q n e hf4
        refine ⟨[some (.int many), some (.tup (L.map qW)), some (qW q), some (.int n.1), some (.int n.2.1), some (.int n.2.2.1), some (.int n.2.2.2), some (.int e), none], [some (.int many), some (.tup (L.map qW)), some (qW q), some (.int n.1), some (.int n.2.1), some (.int n.2.2.1), some (.int n.2.2.2), some (.int e), some (.bl (nearB L n e))], [], [], by simp, by simp, ?_⟩
        simp [hf4, hin]
        rw [show decide (four n.1 n.2.1 n.2.2.1 e ∈ L) = nearB L n e from rfl, hc']
        cases rB L n e <;> simp
  · simp [hall]
  · simp [hall]
theorem s_second (m : Store) (L : List Q) (many : Int) (hm : -100 ≤ many ∧ many ≤ 100) : ∀ d, 2 ≤ d → callN prog d "_law_second_rule" [.int many, .tup (L.map qW)] m = .ok (.bl (L.all fun q => (waysOf q).all fun n => (fifthsOf many q).all fun e => secB L n e)) m :=
  s_rule m L many hm "_law_second_rule" d__law_second_rule (.and (.var 8) (.cmp .nin (.call "_law_four" (.cons (.var 3) (.cons (.var 4) (.cons (.var 6) (.cons (.var 7) .nil))))) (.var 1))) secB rfl rfl (fun call make q n e h => by
    have hin := fun q => in_qs m q L
    simp [h, hin, secB]
    cases nearB L n e <;> simp)
theorem s_third (m : Store) (L : List Q) (many : Int) (hm : -100 ≤ many ∧ many ≤ 100) : ∀ d, 2 ≤ d → callN prog d "_law_third_rule" [.int many, .tup (L.map qW)] m = .ok (.bl (L.all fun q => (waysOf q).all fun n => (fifthsOf many q).all fun e => thiB L n e)) m :=
  s_rule m L many hm "_law_third_rule" d__law_third_rule (.and (.una .not (.var 8)) (.cmp .nin (.call "_law_four" (.cons (.var 3) (.cons (.var 7) (.cons (.var 5) (.cons (.var 6) .nil))))) (.var 1))) thiB rfl rfl (fun call make q n e h => by
    have hin := fun q => in_qs m q L
    simp [h, hin, thiB]
    cases nearB L n e <;> simp)
end K74

set_option Elab.async false
set_option linter.all false
set_option maxRecDepth 100000
set_option maxHeartbeats 4000000
namespace K74
open PySem L2 Ev
theorem ones {α : Type} (l : List α) : (l.map fun _ => W.int 1) = [] ↔ l = [] := by simp
theorem s_isq {m : Store} {w : W} (h : dok m w) (many : Int) : ∀ d, 3 ≤ d → callN prog d "_law_is_quartet" [.int many, w] m = .ok (.bl (isQ many w)) m := by
  refine call_eq (k := 2) (df := d__law_is_quartet) rfl rfl fun d hd => ?_
  have hb : ∀ (x : W) (m' : Store), dok m' x → callN prog d "_law_is_below" [x, .int many] m' = .ok (.bl (isIn x 0 (many - 1))) m' := fun x m' hx => s_below hx _ d hd
  cases w with
  | tup ws =>
    rcases ws with _ | ⟨x, _ | ⟨y, _ | ⟨z, r⟩⟩⟩
    · simp [d__law_is_quartet, startE, isQ]
    · simp [d__law_is_quartet, startE, isQ]
    · rw [dok_tup] at h
      have hl : ∀ w ∈ [x, y], dok m w := dokL_iff.mp h
      have hx := hl x (by simp)
      have hy := hl y (by simp)
      simp [d__law_is_quartet, startE]
      refine form_use (G := fun s => gc m (outD (Ev.thn prog.subc prog.fieldsOf (callN prog d) (mk prog (callN prog d)) _ s)) = _) id [x, y] (isRP many) (.bl false) (it_tupB (by simp) (by simpa using dokL_low h)) (by simp) (by simp; exact fun q hq => hq.elim (dok_low hx q) (dok_low hy q)) (fun u hu => ?_) (fun hall => ?_) fun hall e => ?_
      · have hu' := hl u hu
        refine ⟨[some (.int many), some (.tup [x, y]), some u, none], [some (.int many), some (.tup [x, y]), some u, none], [], [], by simp, by simp, ?_⟩
        cases u with
        | tup us =>
          rcases us with _ | ⟨a, _ | ⟨b, _ | ⟨c, r⟩⟩⟩
          · simp [isRP]
          · simp [isRP]
          · rw [dok_tup] at hu'
            have hl2 : ∀ w ∈ [a, b], dok m w := dokL_iff.mp hu'
            simp
            rw [lcf (f := id) [a, b] (fun v => !isIn v 0 (many - 1)) (fun _ => .int 1) (it_tupB (by simp) (by simpa using dokL_low hu')) (by simp) (fun v hv => by simp [hb v m (hl2 v hv)]) (by simp) two_cap]
            simp
            rw [eqD_new2 m (by simp) (by simp) (depL_ints (fun _ => 1) _) (by simp)]
            rw [isRP_and]
            cases ha : isIn a 0 (many - 1) with
            | false => simp [ha]
            | true =>
              cases hb : isIn b 0 (many - 1) with
              | false => simp [ha, hb]
              | true =>
                cases a <;> simp [isIn] at ha
                cases b <;> simp [isIn] at hb
                rename_i i j
                simp [isIn, ha, hb, L2.atI, L2.ixN]
                by_cases h1 : i < j
                · have : ¬ j ≤ i := by omega
                  simp [h1, this]
                · have : j ≤ i := by omega
                  simp [h1, this]
          · simp [isRP, three_ne]
        | ref n => rcases dok_ref hu' with ⟨ws, h⟩ | h <;> simp [isRP, h]
        | obj c ws => simp [dok] at hu'
        | exc c ws => simp [dok] at hu'
        | _ => simp [isRP]
      · simp at hall
        obtain ⟨a, b, rfl, h1, h2, h3⟩ := isRP_some hall.1
        obtain ⟨c, e, rfl, k1, k2, k3⟩ := isRP_some hall.2
        have hset := lenset_tup m [a, b, c, e] (by simp)
        simp only [List.map_cons, List.map_nil] at hset
        simp [L2.atI, L2.ixN, hset, isQ, okQ, h1, h2, h3, k1, k2, k3]
        by_cases hac : a < c
        · have := once4 h2 k2 hac
          simp [hac]
          rw [show decide (((once [a, b, c, e]).length : Int) = 4) = decide ((once [a, b, c, e]).length = 4) from decide_eq_decide.mpr (by omega), this]
          simp
        · simp [hac]
      · have : isQ many (.tup [x, y]) = false := by
          cases e : isQ many (.tup [x, y]) with
          | false => rfl
          | true =>
            obtain ⟨h1, h2⟩ := isQ_rp e
            simp [h1, h2] at hall
        simp [this]
    · simp [d__law_is_quartet, startE, isQ, three_ne]
  | ref n => rcases dok_ref h with ⟨ws, h⟩ | h <;> simp [d__law_is_quartet, startE, isQ, h]
  | obj c ws => simp [dok] at h
  | exc c ws => simp [dok] at h
  | _ => simp [d__law_is_quartet, startE, isQ]
def specB (many : Int) (L : List Q) : Bool := decide (L = srt ltQ (once L)) && L.all (aloneB L) && ((L.all fun q => (waysOf q).all fun n => (fifthsOf many q).all fun e => secB L n e) && (L.all fun q => (waysOf q).all fun n => (fifthsOf many q).all fun e => thiB L n e))
def ansB (many : Int) (w : W) : Bool := match w with
  | .tup ws => ws.all (isQ many) && specB many (ws.map toQ)
  | _ => false
theorem isT_qs (L : List Q) : ∀ x ∈ L.map qW, x.isT = true ∧ x.pi = true := fun x hx => by
  obtain ⟨q, _, rfl⟩ := List.mem_map.mp hx
  exact ⟨rfl, by simp⟩
theorem sortset_qs (m : Store) (L : List Q) (h : L.length ≤ 4000) (k : (once L).length ≤ 75) : evSortset (.tup (L.map qW)) m = .ok (.ref m.length) (m ++ [.lst ((srt ltQ (once L)).map qW)]) := by
  unfold evSortset
  simp only [iterOf, Res.of_some, Res.bind1]
  rw [dedup_map qW_inj, if_pos ⟨⟨cmp_qs L, isT_qs L⟩, by simpa using h, by simpa using k⟩, sortW_map lt_qW]; rfl
theorem s_are2 {m : Store} {w : W} (h : dok m w) (many : Int) (hm : -100 ≤ many ∧ many ≤ 100) (hlen : ∀ ws, w = .tup ws → ws.length ≤ 4000) (hone : ∀ L : List Q, w = .tup (L.map qW) → (∀ q ∈ L, okQ many q = true) → (once L).length ≤ 75) : ∀ d, 4 ≤ d → callN prog d "_law_are_quartets" [.int many, w] m = .ok (.bl (ansB many w)) m := by
  refine call_eq (k := 3) (df := d__law_are_quartets) rfl rfl fun d hd => ?_
  cases w with
  | tup ws =>
    have hn := hlen ws rfl
    rw [dok_tup] at h
    have hl : ∀ w ∈ ws, dok m w := dokL_iff.mp h
    have hb : ∀ x : W, dok m x → callN prog d "_law_is_quartet" [.int many, x] m = .ok (.bl (isQ many x)) m := fun x hx => s_isq hx _ d hd
    simp [d__law_are_quartets, startE]
    rw [lcf (f := id) ws (fun w => !isQ many w) (fun _ => .int 1) (it_tupB (by simp) (by simpa using dokL_low h)) (by simp) (fun w hw => by simp [hb w (hl w hw)]) (by simp) (all_cap hn)]
    simp
    rw [eqD_new2 m (by simp) (by simp) (depL_ints (fun _ => 1) _) (by simp)]
    simp
    by_cases hq : ∃ x, x ∈ ws ∧ isQ many x = false
    · rw [if_pos (by simpa using hq)]
      have : ws.all (isQ many) = false := by simpa using hq
      simp [ansB, this]
    · rw [if_neg (by simpa using hq)]
      have hq1 : ws.all (isQ many) = true := by
        rw [List.all_eq_true]
        intro x hx
        cases e : isQ many x with
        | true => rfl
        | false => exact absurd ⟨x, hx, e⟩ hq
      obtain ⟨qs, e1, e2, e3⟩ := qs_of hq1
      have eA : ansB many (.tup ws) = specB many qs := by simp only [ansB, hq1, e2, Bool.true_and]
      rw [eA]
      clear hq hq1 eA e2 hb
      subst e1
      rw [List.length_map] at hn
      have h1 := s_first m qs d (by omega)
      have h2 := s_second m qs many hm d (by omega)
      have h3 := s_third m qs many hm d (by omega)
      have hset := sortset_qs (m ++ [.lst (qs.map qW)]) qs hn (hone qs rfl e3)
      have heq := eqD_new2 m (xs := qs.map qW) (ys := (srt ltQ (once qs)).map qW) (by simp) (by simp) (Nat.le_trans (depL_map qW _ (n := 2) (by simp)) (by decide)) (Nat.le_trans (depL_map qW _ (n := 2) (by simp)) (by decide))
      simp at hset
      simp [h1, h2, h3, hset, heq, map_inj qW_inj]
      unfold specB
      generalize (qs.all fun q => (waysOf q).all fun n => (fifthsOf many q).all fun e => secB qs n e) = g2
      generalize (qs.all fun q => (waysOf q).all fun n => (fifthsOf many q).all fun e => thiB qs n e) = g3
      generalize qs.all (aloneB qs) = g1
      by_cases h1 : qs = srt ltQ (once qs)
      · simp only [if_pos h1, decide_eq_true h1]
        cases g1 <;> cases g2 <;> cases g3 <;> simp
      · simp only [if_neg h1, decide_eq_false h1]
        simp
  | ref n => rcases dok_ref h with ⟨ws, h⟩ | h <;> simp [d__law_are_quartets, startE, ansB, h]
  | obj c ws => simp [dok] at h
  | exc c ws => simp [dok] at h
  | _ => simp [d__law_are_quartets, startE, ansB]
end K74

set_option Elab.async false
set_option linter.all false
set_option maxRecDepth 100000
set_option maxHeartbeats 4000000
/-! Quartets: plain mathematics. -/
namespace K74
open PySem L2 Ev
/-! four -/
theorem four_l (a b c d : Int) : four b a c d = four a b c d := by
  unfold four
  rw [show mn b a = mn a b by unfold mn; split <;> split <;> omega, show mx b a = mx a b by unfold mx; split <;> split <;> omega]
theorem four_r (a b c d : Int) : four a b d c = four a b c d := by
  unfold four
  rw [show mn d c = mn c d by unfold mn; split <;> split <;> omega, show mx d c = mx c d by unfold mx; split <;> split <;> omega]
theorem two_swap (p q : Int × Int) : two q p = two p q := by
  unfold two
  rcases ordP.tot p q with rfl | h | h
  · rfl
  · have h2 : Ev.ltP q p = false := by
      cases e : Ev.ltP q p with
      | false => rfl
      | true => have := ordP.tr _ _ _ h e; rw [ordP.irr] at this; cases this
    rw [if_pos h, if_neg (by simp [h2])]
  · have h2 : Ev.ltP p q = false := by
      cases e : Ev.ltP p q with
      | false => rfl
      | true => have := ordP.tr _ _ _ h e; rw [ordP.irr] at this; cases this
    rw [if_pos h, if_neg (by simp [h2])]
theorem four_s (a b c d : Int) : four c d a b = four a b c d := two_swap _ _
theorem four_id {a b c d : Int} (h1 : a < b) (h2 : c < d) (h3 : a < c) : four a b c d = ((a, b), (c, d)) := by
  have e1 : mn a b = a := by unfold mn; split <;> omega
  have e2 : mx a b = b := by unfold mx; split <;> omega
  have e3 : mn c d = c := by unfold mn; split <;> omega
  have e4 : mx c d = d := by unfold mx; split <;> omega
  unfold four two
  rw [e1, e2, e3, e4, if_neg]
  simp only [Ev.ltP, Bool.or_eq_true, Bool.and_eq_true, decide_eq_true_eq]
  omega
/-- the two pairs of four different things are told: one of eight ways -/
theorem four_ways {a b c d x y z w : Int} (h : four a b c d = ((x, y), (z, w))) :
    (x = a ∧ y = b ∧ z = c ∧ w = d) ∨ (x = b ∧ y = a ∧ z = c ∧ w = d) ∨ (x = a ∧ y = b ∧ z = d ∧ w = c) ∨ (x = b ∧ y = a ∧ z = d ∧ w = c) ∨
    (x = c ∧ y = d ∧ z = a ∧ w = b) ∨ (x = c ∧ y = d ∧ z = b ∧ w = a) ∨ (x = d ∧ y = c ∧ z = a ∧ w = b) ∨ (x = d ∧ y = c ∧ z = b ∧ w = a) := by
  unfold four two at h
  have m1 : (mn a b = a ∧ mx a b = b) ∨ (mn a b = b ∧ mx a b = a) := by unfold mn mx; split <;> split <;> omega
  have m2 : (mn c d = c ∧ mx c d = d) ∨ (mn c d = d ∧ mx c d = c) := by unfold mn mx; split <;> split <;> omega
  rcases m1 with ⟨e1, e2⟩ | ⟨e1, e2⟩ <;> rcases m2 with ⟨e3, e4⟩ | ⟨e3, e4⟩ <;> rw [e1, e2, e3, e4] at h <;> split at h <;> simp only [Prod.mk.injEq] at h <;> obtain ⟨⟨rfl, rfl⟩, rfl, rfl⟩ := h <;> simp
/-! a lot in which no two quartets of the same four stand -/
def Alone (L : List Q) : Prop := ∀ q ∈ L, four q.1.1 q.2.1 q.1.2 q.2.2 ∉ L ∧ four q.1.1 q.2.2 q.1.2 q.2.1 ∉ L
theorem Alone.at {L : List Q} (A : Alone L) {a b c d : Int} (h : four a b c d ∈ L) : four a c b d ∉ L ∧ four a d b c ∉ L := by
  generalize hq : four a b c d = q at h
  obtain ⟨⟨x, y⟩, z, w⟩ := q
  have := A _ h
  simp only at this
  obtain ⟨t1, t2⟩ := this
  rcases four_ways hq with ⟨rfl, rfl, rfl, rfl⟩ | ⟨rfl, rfl, rfl, rfl⟩ | ⟨rfl, rfl, rfl, rfl⟩ | ⟨rfl, rfl, rfl, rfl⟩ | ⟨rfl, rfl, rfl, rfl⟩ | ⟨rfl, rfl, rfl, rfl⟩ | ⟨rfl, rfl, rfl, rfl⟩ | ⟨rfl, rfl, rfl, rfl⟩
  · exact ⟨t1, t2⟩
  · -- x = b, y = a, z = c, w = d : b c | a d, b d | a c
    exact ⟨fun h => t2 (by rw [← four_s] at h; exact h), fun h => t1 (by rw [← four_s] at h; exact h)⟩
  · exact ⟨t2, t1⟩
  · exact ⟨fun h => t1 (by rw [← four_s] at h; exact h), fun h => t2 (by rw [← four_s] at h; exact h)⟩
  · -- x = c, y = d, z = a, w = b : c a | d b, c b | d a
    exact ⟨fun h => t1 (by rw [four_l, four_r]; exact h), fun h => t2 (by rw [← four_s, four_l, four_r] at h; exact h)⟩
  · -- x = c, y = d, z = b, w = a : c b | d a ; c a | d b
    exact ⟨fun h => t2 (by rw [four_l, four_r]; exact h), fun h => t1 (by rw [← four_s, four_l, four_r] at h; exact h)⟩
  · -- x = d, y = c, z = a, w = b : d a | c b ; d b | c a
    exact ⟨fun h => t2 (by rw [← four_s, four_l, four_r] at h; exact h), fun h => t1 (by rw [four_l, four_r]; exact h)⟩
  · exact ⟨fun h => t1 (by rw [← four_s, four_l, four_r] at h; exact h), fun h => t2 (by rw [four_l, four_r]; exact h)⟩
end K74

set_option Elab.async false
set_option linter.all false
set_option maxRecDepth 100000
set_option maxHeartbeats 4000000
/-! The two answers agree; quartets of a tree keep the rules. -/
namespace K74
open PySem L2 Ev
theorem all_mem {α : Type} {l k : List α} (p : α → Bool) (h : ∀ a, a ∈ l ↔ a ∈ k) : l.all p = k.all p := by
  rw [Bool.eq_iff_iff, List.all_eq_true, List.all_eq_true]
  exact ⟨fun z a ha => z a ((h a).mpr ha), fun z a ha => z a ((h a).mp ha)⟩
theorem names_ways (q : Q) (n : N4) : n ∈ namesOf q ↔ n ∈ waysOf q := by
  simp only [namesOf, waysOf, List.mem_cons, List.not_mem_nil, or_false]
  constructor <;> (rintro (h | h | h | h | h | h | h | h) <;> simp [h])
theorem spec_eq (many : Int) (L : List Q) : specA many L = specB many L := by
  unfold specA specB
  have e1 : neigh ltQ L = decide (L = srt ltQ (once L)) := by
    rw [Bool.eq_iff_iff, neigh_iff ordQ, decide_eq_true_eq, eq_srt_iff ordQ]
  rw [e1, Bool.and_assoc]
  congr 1
  rw [Bool.eq_iff_iff]
  simp only [Bool.and_eq_true, List.all_eq_true]
  constructor
  · intro h
    refine ⟨fun q hq => (h q hq).1, fun q hq n hn e he => ((h q hq).2 n ((names_ways q n).mpr hn) e he).1, fun q hq n hn e he => ((h q hq).2 n ((names_ways q n).mpr hn) e he).2⟩
  · rintro ⟨h1, h2, h3⟩ q hq
    exact ⟨h1 q hq, fun n hn e he => ⟨h2 q hq n ((names_ways q n).mp hn) e he, h3 q hq n ((names_ways q n).mp hn) e he⟩⟩
theorem ans_eq (many : Int) (w : W) : ansA many w = ansB many w := by
  unfold ansA ansB
  cases w <;> simp [spec_eq]
/-! being a quartet -/
def Inr (many x : Int) : Prop := 0 ≤ x ∧ x < many
def Dis (a b c d : Int) : Prop := a ≠ b ∧ a ≠ c ∧ a ≠ d ∧ b ≠ c ∧ b ≠ d ∧ c ≠ d
theorem okQ_iff {many : Int} {q : Q} : okQ many q = true ↔ 0 ≤ q.1.1 ∧ q.1.1 < q.1.2 ∧ q.1.2 < many ∧ 0 ≤ q.2.1 ∧ q.2.1 < q.2.2 ∧ q.2.2 < many ∧ q.1.1 < q.2.1 ∧ q.1.2 ≠ q.2.1 ∧ q.1.2 ≠ q.2.2 := by
  simp [okQ, and_assoc]
theorem okQ_dis {many : Int} {q : Q} (h : okQ many q = true) : Dis q.1.1 q.1.2 q.2.1 q.2.2 ∧ Inr many q.1.1 ∧ Inr many q.1.2 ∧ Inr many q.2.1 ∧ Inr many q.2.2 := by
  rw [okQ_iff] at h
  unfold Dis Inr
  omega
theorem okQ_self {many : Int} {q : Q} (h : okQ many q = true) : four q.1.1 q.1.2 q.2.1 q.2.2 = q := by
  rw [okQ_iff] at h
  rw [four_id (by omega) (by omega) (by omega)]
theorem four_ok {many a b c d : Int} (h : Dis a b c d) (ha : Inr many a) (hb : Inr many b) (hc : Inr many c) (hd : Inr many d) : okQ many (four a b c d) = true := by
  unfold Dis Inr at *
  rw [okQ_iff]
  have m1 : (mn a b = a ∧ mx a b = b ∧ a < b) ∨ (mn a b = b ∧ mx a b = a ∧ b < a) := by unfold mn mx; split <;> split <;> omega
  have m2 : (mn c d = c ∧ mx c d = d ∧ c < d) ∨ (mn c d = d ∧ mx c d = c ∧ d < c) := by unfold mn mx; split <;> split <;> omega
  unfold four two
  split
  · rename_i h2
    simp only [Ev.ltP, Bool.or_eq_true, Bool.and_eq_true, decide_eq_true_eq] at h2 ⊢
    omega
  · rename_i h2
    simp only [Ev.ltP, Bool.or_eq_true, Bool.and_eq_true, decide_eq_true_eq] at h2 ⊢
    omega
/-! the ways to tell -/
theorem way_of {a b c d : Int} : (a, b, c, d) ∈ waysOf (four a b c d) := by
  generalize hq : four a b c d = q
  obtain ⟨⟨x, y⟩, z, w⟩ := q
  rcases four_ways hq with ⟨rfl, rfl, rfl, rfl⟩ | ⟨rfl, rfl, rfl, rfl⟩ | ⟨rfl, rfl, rfl, rfl⟩ | ⟨rfl, rfl, rfl, rfl⟩ | ⟨rfl, rfl, rfl, rfl⟩ | ⟨rfl, rfl, rfl, rfl⟩ | ⟨rfl, rfl, rfl, rfl⟩ | ⟨rfl, rfl, rfl, rfl⟩ <;> simp [waysOf]
theorem way_four {q : Q} {n : N4} {many : Int} (hq : okQ many q = true) (h : n ∈ waysOf q) : four n.1 n.2.1 n.2.2.1 n.2.2.2 = q ∧ Dis n.1 n.2.1 n.2.2.1 n.2.2.2 ∧ Inr many n.1 ∧ Inr many n.2.1 ∧ Inr many n.2.2.1 ∧ Inr many n.2.2.2 ∧ ∀ x, x ∉ [q.1.1, q.1.2, q.2.1, q.2.2] ↔ x ∉ [n.1, n.2.1, n.2.2.1, n.2.2.2] := by
  obtain ⟨hd, i1, i2, i3, i4⟩ := okQ_dis hq
  have e0 := okQ_self hq
  unfold Dis at hd ⊢
  simp only [waysOf, List.mem_cons, List.not_mem_nil, or_false] at h
  rcases h with rfl | rfl | rfl | rfl | rfl | rfl | rfl | rfl
  · exact ⟨e0, hd, i1, i2, i3, i4, fun x => Iff.rfl⟩
  · exact ⟨by rw [four_r]; exact e0, by dsimp only; omega, i1, i2, i4, i3, fun x => by simp; omega⟩
  · exact ⟨by rw [four_l]; exact e0, by dsimp only; omega, i2, i1, i3, i4, fun x => by simp; omega⟩
  · exact ⟨by rw [four_l, four_r]; exact e0, by dsimp only; omega, i2, i1, i4, i3, fun x => by simp; omega⟩
  · exact ⟨by rw [four_s]; exact e0, by dsimp only; omega, i3, i4, i1, i2, fun x => by simp; omega⟩
  · exact ⟨by rw [four_r, four_s]; exact e0, by dsimp only; omega, i3, i4, i2, i1, fun x => by simp; omega⟩
  · exact ⟨by rw [four_l, four_s]; exact e0, by dsimp only; omega, i4, i3, i1, i2, fun x => by simp; omega⟩
  · exact ⟨by rw [four_l, four_r, four_s]; exact e0, by dsimp only; omega, i4, i3, i2, i1, fun x => by simp; omega⟩
theorem mem_fifths {many : Int} {q : Q} {x : Int} : x ∈ fifthsOf many q ↔ Inr many x ∧ x ∉ [q.1.1, q.1.2, q.2.1, q.2.2] := by
  unfold fifthsOf Inr
  rw [List.mem_filter, mem_rangeI, decide_eq_true_eq]
theorem alone_iff {L : List Q} : L.all (aloneB L) = true ↔ Alone L := by
  rw [List.all_eq_true]
  unfold Alone aloneB
  simp only [Bool.and_eq_true, Bool.not_eq_true', decide_eq_false_iff_not]
/-- rules one and three bring rule two -/
theorem rules13 {many : Int} {L : List Q} (hok : ∀ q ∈ L, okQ many q = true) (h1 : L.all (aloneB L) = true) (h3 : (L.all fun q => (waysOf q).all fun n => (fifthsOf many q).all fun e => thiB L n e) = true) : (L.all fun q => (waysOf q).all fun n => (fifthsOf many q).all fun e => secB L n e) = true := by
  have A := alone_iff.mp h1
  have T : ∀ a b c d e : Int, four a b c d ∈ L → Inr many e → e ∉ [a, b, c, d] → four a b c e ∈ L ∨ four a e c d ∈ L := by
    intro a b c d e hq he hn
    obtain ⟨_, _, _, _, _, _, hx⟩ := way_four (hok _ hq) (way_of (a := a) (b := b) (c := c) (d := d))
    have := List.all_eq_true.mp (List.all_eq_true.mp (List.all_eq_true.mp h3 _ hq) _ way_of) e (mem_fifths.mpr ⟨he, (hx e).mpr hn⟩)
    simpa [thiB, nearB] using this
  rw [List.all_eq_true]
  intro q hq
  rw [List.all_eq_true]
  intro n hn
  rw [List.all_eq_true]
  intro e he
  obtain ⟨he1, he2⟩ := mem_fifths.mp he
  obtain ⟨f1, f2, f3, f4, f5, f6, f7⟩ := way_four (hok q hq) hn
  have he3 := (f7 e).mp he2
  obtain ⟨o, t, th, f⟩ := n
  simp only at f1 f2 f3 f4 f5 f6 he3
  unfold secB nearB
  simp only [Bool.not_eq_true', Bool.and_eq_false_iff, decide_eq_false_iff_not, Bool.not_eq_false', decide_eq_true_eq]
  by_cases hnear : four o t th e ∈ L
  · right
    have hq' : four o t th f ∈ L := by rw [f1]; exact hq
    unfold Dis at f2
    simp only [List.mem_cons, List.not_mem_nil, or_false, not_or] at he3
    rcases T o t e th f (by rw [four_r]; exact hnear) f6 (by simp; omega) with h | h
    · rw [four_r]; exact h
    · rcases T o t f th e (by rw [four_r]; exact hq') he1 (by simp; omega) with k | k
      · exact k
      · exact absurd k (A.at h).1
  · exact .inl hnear
/-! trees -/
def Lam (lots : List (List Int)) : Prop := ∀ l ∈ lots, ∀ k ∈ lots, (∀ x ∈ l, x ∈ k) ∨ (∀ x ∈ k, x ∈ l) ∨ ∀ x ∈ l, x ∉ k
theorem Lam.no {lots : List (List Int)} (h : Lam lots) {l k : List Int} (hl : l ∈ lots) (hk : k ∈ lots) {x y z : Int} (h1 : x ∈ l) (h2 : x ∈ k) (h3 : y ∈ l) (h4 : y ∉ k) (h5 : z ∈ k) (h6 : z ∉ l) : False := by
  rcases h l hl k hk with c | c | c
  · exact h4 (c y h3)
  · exact h6 (c z h5)
  · exact c x h1 h2
def Sep (l : List Int) (a b c d : Int) : Prop := (a ∈ l ∧ b ∈ l ∧ c ∉ l ∧ d ∉ l) ∨ (a ∉ l ∧ b ∉ l ∧ c ∈ l ∧ d ∈ l)
theorem part_iff {l : List Int} {p q : Int × Int} : partB p q l = true ↔ Sep l p.1 p.2 q.1 q.2 := by
  unfold partB Sep
  simp [and_assoc]
theorem nodup_flat {α β γ : Type} (f : α → List β) (key : β → γ) (g : α → γ) : ∀ (l : List α), (∀ a ∈ l, (f a).Nodup) → (∀ a ∈ l, ∀ x ∈ f a, key x = g a) → (l.map g).Nodup → (l.flatMap f).Nodup
  | [], _, _, _ => List.nodup_nil
  | a :: r, h1, h2, h3 => by
    rw [List.map_cons, List.nodup_cons] at h3
    rw [List.flatMap_cons, List.nodup_append]
    refine ⟨h1 a List.mem_cons_self, nodup_flat f key g r (fun b hb => h1 b (List.mem_cons_of_mem _ hb)) (fun b hb => h2 b (List.mem_cons_of_mem _ hb)) h3.2, fun x hx y hy e => ?_⟩
    subst e
    obtain ⟨b, hb, hxb⟩ := List.mem_flatMap.mp hy
    refine h3.1 ?_
    rw [← h2 a List.mem_cons_self x hx, h2 b (List.mem_cons_of_mem _ hb) x hxb]
    exact List.mem_map.mpr ⟨b, hb, rfl⟩
theorem rangeI_get {n : Int} {i : Nat} : (rangeI 0 n)[i]? = if i < n.toNat then some (i : Int) else none := by
  unfold rangeI
  rw [List.getElem?_map]
  by_cases h : i < n.toNat
  · rw [if_pos h, List.getElem?_range (by simpa using h)]; simp
  · rw [if_neg h, List.getElem?_eq_none (by simp; omega)]; rfl
theorem rangeI_nodup (n : Int) : (rangeI 0 n).Nodup := List.pairwise_map.mpr (List.Pairwise.imp (fun {a b} h e => h (by omega)) List.nodup_range)
theorem mem_pairs {n : Int} {p : Int × Int} : p ∈ pairsL (rangeI 0 n) ↔ 0 ≤ p.1 ∧ p.1 < p.2 ∧ p.2 < n := by
  unfold pairsL
  rw [List.mem_flatMap]
  constructor
  · rintro ⟨⟨i, x⟩, hi, hp⟩
    obtain ⟨j, hj, e⟩ := List.mem_mapIdx.mp hi
    simp only [Prod.mk.injEq] at e
    obtain ⟨rfl, rfl⟩ := e
    obtain ⟨y, hy, rfl⟩ := List.mem_map.mp hp
    obtain ⟨k, hk⟩ := List.mem_iff_getElem?.mp hy
    rw [List.getElem?_drop, rangeI_get] at hk
    have hjj : (rangeI 0 n)[j]? = some (rangeI 0 n)[j] := List.getElem?_eq_getElem hj
    rw [rangeI_get] at hjj
    rw [len_rangeI] at hj
    split at hk
    · split at hjj
      · have e1 := Option.some.inj hk
        have e2 := Option.some.inj hjj
        simp only
        omega
      · cases hjj
    · cases hk
  · rintro ⟨h1, h2, h3⟩
    refine ⟨(p.1.toNat, p.1), ?_, ?_⟩
    · refine List.mem_mapIdx.mpr ⟨p.1.toNat, by rw [len_rangeI]; omega, ?_⟩
      have : (rangeI 0 n)[p.1.toNat]? = some (p.1.toNat : Int) := by rw [rangeI_get, if_pos (by omega)]
      rw [List.getElem?_eq_getElem (by rw [len_rangeI]; omega)] at this
      rw [Option.some.inj this]
      simp; omega
    · refine List.mem_map.mpr ⟨p.2, List.mem_iff_getElem?.mpr ⟨p.2.toNat - (p.1.toNat + 1), ?_⟩, rfl⟩
      rw [List.getElem?_drop, rangeI_get, if_pos (by omega)]
      congr 1
      omega
theorem pairs_nodup (n : Int) : (pairsL (rangeI 0 n)).Nodup := by
  unfold pairsL
  refine nodup_flat (rowP (rangeI 0 n)) (fun p => p.1) (fun p : Nat × Int => p.2) _ (fun a ha => ?_) (fun a ha x hx => ?_) ?_
  · exact List.pairwise_map.mpr (List.Pairwise.imp (fun {a b} h e => h (by simpa using e)) ((rangeI_nodup n).drop))
  · obtain ⟨y, _, rfl⟩ := List.mem_map.mp hx; rfl
  · have : ((rangeI 0 n).mapIdx fun i x => (i, x)).map (fun p : Nat × Int => p.2) = rangeI 0 n := by
      apply List.ext_getElem?
      intro i
      simp only [List.getElem?_map, List.getElem?_mapIdx]
      cases (rangeI 0 n)[i]? <;> rfl
    rw [this]
    exact rangeI_nodup n
theorem mem_allQ {many : Int} {q : Q} : q ∈ allQ many ↔ okQ many q = true := by
  unfold allQ candQ candP
  rw [mem_srt, List.mem_flatMap, okQ_iff]
  constructor
  · rintro ⟨p, hp, hq⟩
    obtain ⟨r, hr, rfl⟩ := List.mem_map.mp hq
    obtain ⟨hr1, hr2⟩ := List.mem_filter.mp hr
    have h1 := mem_pairs.mp hp
    have h2 := mem_pairs.mp hr1
    simp only [okP, Bool.and_eq_true, decide_eq_true_eq] at hr2
    simp only
    omega
  · intro h
    refine ⟨q.1, mem_pairs.mpr (by omega), List.mem_map.mpr ⟨q.2, List.mem_filter.mpr ⟨mem_pairs.mpr (by omega), ?_⟩, rfl⟩⟩
    simp only [okP, Bool.and_eq_true, decide_eq_true_eq]
    omega
theorem allQ_rise (many : Int) : Rise ltQ (allQ many) := by
  refine srt_rise ordQ ?_
  unfold candQ
  refine nodup_flat (candP (pairsL (rangeI 0 many))) (fun q => q.1) id _ (fun a ha => ?_) (fun a ha x hx => ?_) (by simpa using pairs_nodup many)
  · exact List.pairwise_map.mpr (List.Pairwise.imp (fun {a b} h e => h (by simpa using e)) ((pairs_nodup many).filter _))
  · obtain ⟨y, _, rfl⟩ := List.mem_map.mp hx; rfl
theorem mem_quarts {many : Int} {lots : List (List Int)} {q : Q} : q ∈ quartsOf many lots ↔ okQ many q = true ∧ ∃ l ∈ lots, Sep l q.1.1 q.1.2 q.2.1 q.2.2 := by
  unfold quartsOf
  rw [List.mem_filter, mem_allQ, List.any_eq_true]
  simp only [part_iff]
theorem mem_tree {many : Int} {lots : List (List Int)} {a b c d : Int} (h : Dis a b c d) (ha : Inr many a) (hb : Inr many b) (hc : Inr many c) (hd : Inr many d) : four a b c d ∈ quartsOf many lots ↔ ∃ l ∈ lots, Sep l a b c d := by
  rw [mem_quarts]
  generalize hq : four a b c d = q
  have hok : okQ many q = true := by rw [← hq]; exact four_ok h ha hb hc hd
  obtain ⟨⟨x, y⟩, z, w⟩ := q
  simp only [hok, true_and]
  have key : ∀ l : List Int, Sep l x y z w ↔ Sep l a b c d := by
    intro l
    unfold Sep
    rcases four_ways hq with ⟨rfl, rfl, rfl, rfl⟩ | ⟨rfl, rfl, rfl, rfl⟩ | ⟨rfl, rfl, rfl, rfl⟩ | ⟨rfl, rfl, rfl, rfl⟩ | ⟨rfl, rfl, rfl, rfl⟩ | ⟨rfl, rfl, rfl, rfl⟩ | ⟨rfl, rfl, rfl, rfl⟩ | ⟨rfl, rfl, rfl, rfl⟩ <;> constructor <;> rintro (⟨h1, h2, h3, h4⟩ | ⟨h1, h2, h3, h4⟩) <;> simp [h1, h2, h3, h4]
  simp only [key]
theorem tree_alone {many : Int} {lots : List (List Int)} (hL : Lam lots) : Alone (quartsOf many lots) := by
  intro q hq
  obtain ⟨hok, l, hl, hs⟩ := mem_quarts.mp hq
  obtain ⟨hd, i1, i2, i3, i4⟩ := okQ_dis hok
  unfold Dis at hd
  refine ⟨fun h => ?_, fun h => ?_⟩
  · obtain ⟨k, hk, ht⟩ := (mem_tree (by unfold Dis; omega) i1 i3 i2 i4).mp h
    rcases hs with ⟨a1, a2, a3, a4⟩ | ⟨a1, a2, a3, a4⟩ <;> rcases ht with ⟨b1, b2, b3, b4⟩ | ⟨b1, b2, b3, b4⟩
    · exact hL.no hl hk a1 b1 a2 b3 b2 a3
    · exact hL.no hl hk a2 b3 a1 b1 b4 a4
    · exact hL.no hl hk a3 b2 a4 b4 b1 a1
    · exact hL.no hl hk a4 b4 a3 b2 b3 a2
  · obtain ⟨k, hk, ht⟩ := (mem_tree (by unfold Dis; omega) i1 i4 i2 i3).mp h
    rcases hs with ⟨a1, a2, a3, a4⟩ | ⟨a1, a2, a3, a4⟩ <;> rcases ht with ⟨b1, b2, b3, b4⟩ | ⟨b1, b2, b3, b4⟩
    · exact hL.no hl hk a1 b1 a2 b3 b2 a4
    · exact hL.no hl hk a2 b3 a1 b1 b4 a3
    · exact hL.no hl hk a4 b2 a3 b4 b1 a1
    · exact hL.no hl hk a3 b4 a4 b2 b3 a2
theorem tree_rules {many : Int} {lots : List (List Int)} (hL : Lam lots) : specA many (quartsOf many lots) = true := by
  unfold specA
  rw [Bool.and_eq_true]
  refine ⟨(neigh_iff ordQ).mpr (rise_filter _ (allQ_rise many)), List.all_eq_true.mpr fun q hq => ?_⟩
  have hA := List.all_eq_true.mp (alone_iff.mpr (tree_alone (many := many) hL)) q hq
  rw [hA, Bool.true_and, List.all_eq_true]
  intro n hn
  rw [List.all_eq_true]
  intro e he
  obtain ⟨hok, l0, hl0, hs0⟩ := mem_quarts.mp hq
  obtain ⟨f1, f2, f3, f4, f5, f6, f7⟩ := way_four hok ((names_ways q n).mp hn)
  obtain ⟨he1, he2⟩ := mem_fifths.mp he
  have he3 := (f7 e).mp he2
  obtain ⟨o, t, th, f⟩ := n
  simp only at f1 f2 f3 f4 f5 f6 he3
  have hq' : four o t th f ∈ quartsOf many lots := by rw [f1]; exact hq
  obtain ⟨l, hl, hs⟩ := (mem_tree f2 f3 f4 f5 f6).mp hq'
  unfold Dis at f2
  simp only [List.mem_cons, List.not_mem_nil, or_false, not_or] at he3
  have m1 : four o t th e ∈ quartsOf many lots ↔ ∃ l ∈ lots, Sep l o t th e := mem_tree (by unfold Dis; omega) f3 f4 f5 he1
  have m2 : four o t f e ∈ quartsOf many lots ↔ ∃ l ∈ lots, Sep l o t f e := mem_tree (by unfold Dis; omega) f3 f4 f6 he1
  have m3 : four o e th f ∈ quartsOf many lots ↔ ∃ l ∈ lots, Sep l o e th f := mem_tree (by unfold Dis; omega) f3 he1 f5 f6
  have third : four o t th e ∈ quartsOf many lots ∨ four o e th f ∈ quartsOf many lots := by
    rw [m1, m3]
    by_cases hel : e ∈ l
    · rcases hs with ⟨a1, a2, a3, a4⟩ | ⟨a1, a2, a3, a4⟩
      · exact .inr ⟨l, hl, .inl ⟨a1, hel, a3, a4⟩⟩
      · exact .inl ⟨l, hl, .inr ⟨a1, a2, a3, hel⟩⟩
    · rcases hs with ⟨a1, a2, a3, a4⟩ | ⟨a1, a2, a3, a4⟩
      · exact .inl ⟨l, hl, .inl ⟨a1, a2, a3, hel⟩⟩
      · exact .inr ⟨l, hl, .inr ⟨a1, hel, a3, a4⟩⟩
  have second : four o t th e ∈ quartsOf many lots → four o t f e ∈ quartsOf many lots := by
    rw [m1, m2]
    rintro ⟨k, hk, ht⟩
    by_cases hel : e ∈ l
    · rcases hs with ⟨a1, a2, a3, a4⟩ | ⟨a1, a2, a3, a4⟩
      · rcases ht with ⟨b1, b2, b3, b4⟩ | ⟨b1, b2, b3, b4⟩
        · by_cases hf : f ∈ k
          · exact (hL.no hl hk a1 b1 hel b4 hf a4).elim
          · exact ⟨k, hk, .inl ⟨b1, b2, hf, b4⟩⟩
        · exact (hL.no hl hk hel b4 a1 b1 b3 a3).elim
      · exact ⟨l, hl, .inr ⟨a1, a2, a4, hel⟩⟩
    · rcases hs with ⟨a1, a2, a3, a4⟩ | ⟨a1, a2, a3, a4⟩
      · exact ⟨l, hl, .inl ⟨a1, a2, a4, hel⟩⟩
      · rcases ht with ⟨b1, b2, b3, b4⟩ | ⟨b1, b2, b3, b4⟩
        · by_cases hf : f ∈ k
          · exact (hL.no hl hk a4 hf a3 b3 b1 a1).elim
          · exact ⟨k, hk, .inl ⟨b1, b2, hf, b4⟩⟩
        · by_cases hf : f ∈ k
          · exact ⟨k, hk, .inr ⟨b1, b2, hf, b4⟩⟩
          · exact (hL.no hl hk a3 b3 a4 hf b4 hel).elim
  unfold secB thiB nearB
  simp only [Bool.and_eq_true, Bool.not_eq_true', Bool.and_eq_false_iff, decide_eq_false_iff_not, Bool.not_eq_false', decide_eq_true_eq, Bool.or_eq_true]
  refine ⟨?_, third⟩
  by_cases h : four o t th e ∈ quartsOf many lots
  · exact .inr (second h)
  · exact .inl h
end K74

set_option Elab.async false
set_option linter.all false
set_option maxRecDepth 100000
set_option maxHeartbeats 4000000
/-! Draws. -/
namespace K74
open PySem L2 Ev
open Classical
/-! the state: cells at 1, large ones at 2, the dict at 3 -/
def kvsS (l t : Int) : List (W × W) := [(.str "large", .ref 2), (.str "cells", .ref 1), (.str "left", .int l), (.str "turn", .int t)]
structure Sta (m : Store) (cs ls : List Int) (l t : Int) : Prop where
  cells : m[1]? = some (.lst (cs.map W.int))
  large : m[2]? = some (.lst (ls.map W.int))
  dict : m[3]? = some (.dct (kvsS l t))
@[simp] theorem n1 : ((Str.ofString "large") = Str.ofString "left") = False := eq_false (by decide)
@[simp] theorem n2 : ((Str.ofString "cells") = Str.ofString "left") = False := eq_false (by decide)
@[simp] theorem n3 : ((Str.ofString "large") = Str.ofString "cells") = False := eq_false (by decide)
@[simp] theorem n4 : ((Str.ofString "large") = Str.ofString "turn") = False := eq_false (by decide)
@[simp] theorem n5 : ((Str.ofString "cells") = Str.ofString "turn") = False := eq_false (by decide)
@[simp] theorem n6 : ((Str.ofString "left") = Str.ofString "turn") = False := eq_false (by decide)
theorem okS (x : Str) (l t : Int) : okKey (.str x) (kvsS l t) := ⟨by simp [W.keyb], fun p hp => by
  simp only [kvsS, List.mem_cons, List.not_mem_nil, or_false] at hp
  rcases hp with rfl | rfl | rfl | rfl <;> rfl⟩
section
variable {m : Store} {l t : Int} (h : m[3]? = some (.dct (kvsS l t)))
include h
theorem at_large : evIdx (.ref 3) (.str "large") m = .ok (.ref 2) m := by rw [idx_dct m h (okS _ _ _)]; simp [kvsS, findK]
theorem at_cells : evIdx (.ref 3) (.str "cells") m = .ok (.ref 1) m := by rw [idx_dct m h (okS _ _ _)]; simp [kvsS, findK]
theorem at_left : evIdx (.ref 3) (.str "left") m = .ok (.int l) m := by rw [idx_dct m h (okS _ _ _)]; simp [kvsS, findK]
theorem at_turn : evIdx (.ref 3) (.str "turn") m = .ok (.int t) m := by rw [idx_dct m h (okS _ _ _)]; simp [kvsS, findK]
theorem set_left (v : Int) : evSet (.ref 3) (.str "left") (.int v) m = .ok .non (m.set 3 (.dct (kvsS v t))) := by
  have := okS "left" l t
  simp only [evSet, h, if_pos (show okKey (.str "left") (kvsS l t) ∧ (kvsS l t).length < cap from ⟨this, by simp [kvsS]⟩)]
  simp [kvsS, Ev.putK]
theorem set_turn (v : Int) : evSet (.ref 3) (.str "turn") (.int v) m = .ok .non (m.set 3 (.dct (kvsS l v))) := by
  have := okS "turn" l t
  simp only [evSet, h, if_pos (show okKey (.str "turn") (kvsS l t) ∧ (kvsS l t).length < cap from ⟨this, by simp [kvsS]⟩)]
  simp [kvsS, Ev.putK]
end
/-- what a draw leaves: all but the state -/
structure Fr (m m' : Store) : Prop where
  len : m'.length = m.length
  at_ : ∀ i : Nat, i ≠ 2 → i ≠ 3 → m'[i]? = m[i]?
theorem Fr.refl (m : Store) : Fr m m := ⟨rfl, fun _ _ _ => rfl⟩
theorem Fr.trans {a b c : Store} (x : Fr a b) (y : Fr b c) : Fr a c := ⟨y.len.trans x.len, fun i h1 h2 => (y.at_ i h1 h2).trans (x.at_ i h1 h2)⟩
theorem Fr.set2 (m : Store) (o : MObj) : Fr m (m.set 2 o) := ⟨by simp, fun i h1 _ => by rw [List.getElem?_set_ne (fun z => h1 z.symm)]⟩
theorem Fr.set3 (m : Store) (o : MObj) : Fr m (m.set 3 o) := ⟨by simp, fun i _ h1 => by rw [List.getElem?_set_ne (fun z => h1 z.symm)]⟩
theorem Sta.lt {m : Store} {cs ls : List Int} {l t : Int} (S : Sta m cs ls l t) : 3 < m.length := lt_of_get S.dict
theorem Sta.set2 {m : Store} {cs ls : List Int} {l t : Int} (S : Sta m cs ls l t) (k : List Int) : Sta (m.set 2 (.lst (k.map W.int))) cs k l t :=
  ⟨by rw [List.getElem?_set_ne (by decide)]; exact S.cells, by rw [List.getElem?_set_self (by have := S.lt; omega)], by rw [List.getElem?_set_ne (by decide)]; exact S.dict⟩
theorem Sta.set3 {m : Store} {cs ls : List Int} {l t : Int} (S : Sta m cs ls l t) (l' t' : Int) : Sta (m.set 3 (.dct (kvsS l' t'))) cs ls l' t' :=
  ⟨by rw [List.getElem?_set_ne (by decide)]; exact S.cells, by rw [List.getElem?_set_ne (by decide)]; exact S.large, by rw [List.getElem?_set_self S.lt]⟩
theorem kvs_bel {n : Nat} (hn : 3 < n) (l t : Int) : (MObj.dct (kvsS l t)).bel n := by
  intro r hr
  have hr : r ∈ W.refsL ((kvsS l t).map (·.1)) ++ W.refsL ((kvsS l t).map (·.2)) := hr
  simp [kvsS] at hr
  omega
/-- of a changed state, seen from before -/
theorem Fr.new {m m' : Store} {cs ls : List Int} {l t : Int} (F : Fr m m') (S : Sta m' cs ls l t) : ∀ (i : Nat) (o : MObj), m'[i]? = some o → m[i]? = some o ∨ o.bel m.length := by
  intro i o h
  have hlt := S.lt
  rw [F.len] at hlt
  by_cases h2 : i = 2
  · subst h2; rw [S.large] at h; cases h; exact .inr (bel_flat (by simp))
  · by_cases h3 : i = 3
    · subst h3; rw [S.dict] at h; cases h; exact .inr (kvs_bel hlt _ _)
    · rw [F.at_ i h2 h3] at h; exact .inl h
theorem gc_st {m m' : Store} {cs ls : List Int} {l t : Int} (F : Fr m m') (S : Sta m' cs ls l t) {w : W} (hw : ∀ r ∈ w.refs, r < m.length) : gc m (.ok w m') = .ok w m' := by
  have := gc_mut (m := m) (m1 := m') [] (w := w) F.len (F.new S) hw
  simpa using this
theorem gc_st1 {m m' : Store} {cs ls : List Int} {l t : Int} (F : Fr m m') (S : Sta m' cs ls l t) (e : Store) {w : W} (hw : ∀ r ∈ w.refs, r < m.length) : gc m (.ok w (m' ++ e)) = .ok w m' :=
  gc_mut (m := m) (m1 := m') e (w := w) F.len (F.new S) hw
theorem keep_st {m m' : Store} {cs ls : List Int} {l t : Int} (F : Fr m m') (S : Sta m' cs ls l t) (e : Store) : keepOld m (m' ++ e) := fun i hi => by
  have hi' : i < m'.length := by rw [F.len]; exact hi
  exact ⟨m'[i], by rw [List.getElem?_append_left hi', List.getElem?_eq_getElem hi'], F.new S i _ (List.getElem?_eq_getElem hi')⟩
theorem gcE_st {m m' : Store} {cs ls : List Int} {l t : Int} (F : Fr m m') (S : Sta m' cs ls l t) (e : Store) {dead : List Nat} {en : En} (hw : enLow m.length (wipeE en dead)) : gcE m dead en (m' ++ e) = (wipeE en dead, m') := by
  rw [gcE_flat (keep_st F S e) (enLow_iff.mp hw), ← F.len]; simp
/-- a new flat object beside a changed state -/
theorem gc_new_st {m m' : Store} {cs ls : List Int} {l t : Int} (F : Fr m m') (S : Sta m' cs ls l t) {e : Store} {k : Nat} {o : MObj} (he : e[k]? = some o) (hb : o.bel m.length) : gc m (.ok (.ref (m'.length + k)) (m' ++ e)) = .ok (.ref m'.length) (m' ++ [o]) := by
  unfold gc
  simp only
  have hn : news m.length [.ref (m'.length + k)] = [m'.length + k] := by
    unfold news
    rw [F.len]
    simp [ddN]
  rw [hn]
  have hg : (m' ++ e)[m'.length + k]? = some o := by rw [List.getElem?_append_right (by omega)]; simpa using he
  rw [if_pos ⟨keep_st F S e, fun r hr => by rw [List.mem_singleton.mp hr]; exact ⟨o, hg, hb⟩⟩]
  have hnl : ¬ (m'.length + k < m'.length) := by omega
  have hl : m.length = m'.length := F.len.symm
  simp only [W.ren, rn, hl, if_neg hnl, List.idxOf_cons_self, Nat.add_zero, List.take_left', List.filterMap_cons, hg, List.filterMap_nil]
/-- as long, and changed only to what names nothing new -/
structure Ch (m m' : Store) : Prop where
  len : m'.length = m.length
  new : ∀ (i : Nat) (o : MObj), m'[i]? = some o → m[i]? = some o ∨ o.bel m.length
theorem Ch.refl (m : Store) : Ch m m := ⟨rfl, fun _ _ h => .inl h⟩
theorem Ch.trans {a b c : Store} (x : Ch a b) (y : Ch b c) : Ch a c := ⟨y.len.trans x.len, fun i o h => by
  rcases y.new i o h with h | h
  · exact x.new i o h
  · rw [x.len] at h; exact .inr h⟩
theorem Ch.set {m : Store} {n : Nat} {o : MObj} (h : o.bel m.length) : Ch m (m.set n o) := ⟨by simp, fun i u e => by
  rw [List.getElem?_set] at e
  split at e
  · split at e
    · cases e; exact .inr h
    · cases e
  · exact .inl e⟩
theorem gc_ch {m m' : Store} (F : Ch m m') {w : W} (hw : ∀ r ∈ w.refs, r < m.length) : gc m (.ok w m') = .ok w m' := by
  simpa using gc_mut (m := m) (m1 := m') [] (w := w) F.len F.new hw
theorem gc_ch1 {m m' : Store} (F : Ch m m') (e : Store) {w : W} (hw : ∀ r ∈ w.refs, r < m.length) : gc m (.ok w (m' ++ e)) = .ok w m' :=
  gc_mut (m := m) (m1 := m') e (w := w) F.len F.new hw
theorem keep_ch {m m' : Store} (F : Ch m m') (e : Store) : keepOld m (m' ++ e) := fun i hi => by
  have hi' : i < m'.length := by rw [F.len]; exact hi
  exact ⟨m'[i], by rw [List.getElem?_append_left hi', List.getElem?_eq_getElem hi'], F.new i _ (List.getElem?_eq_getElem hi')⟩
theorem gcE_ch {m m' : Store} (F : Ch m m') (e : Store) {dead : List Nat} {en : En} (hw : enLow m.length (wipeE en dead)) : gcE m dead en (m' ++ e) = (wipeE en dead, m') := by
  rw [gcE_flat (keep_ch F e) (enLow_iff.mp hw), ← F.len]; simp
theorem gcE_ch0 {m m' : Store} (F : Ch m m') {dead : List Nat} {en : En} (hw : enLow m.length (wipeE en dead)) : gcE m dead en m' = (wipeE en dead, m') := by
  simpa using gcE_ch F [] hw
theorem gc_ch_new {m m' : Store} (F : Ch m m') {e : Store} {k : Nat} {o : MObj} (he : e[k]? = some o) (hb : o.bel m.length) : gc m (.ok (.ref (m'.length + k)) (m' ++ e)) = .ok (.ref m'.length) (m' ++ [o]) := by
  unfold gc
  simp only
  have hn : news m.length [.ref (m'.length + k)] = [m'.length + k] := by
    unfold news
    rw [F.len]
    simp [ddN]
  rw [hn]
  have hg : (m' ++ e)[m'.length + k]? = some o := by rw [List.getElem?_append_right (by omega)]; simpa using he
  rw [if_pos ⟨keep_ch F e, fun r hr => by rw [List.mem_singleton.mp hr]; exact ⟨o, hg, hb⟩⟩]
  have hnl : ¬ (m'.length + k < m'.length) := by omega
  have hl : m.length = m'.length := F.len.symm
  simp only [W.ren, rn, hl, if_neg hnl, List.idxOf_cons_self, Nat.add_zero, List.take_left', List.filterMap_cons, hg, List.filterMap_nil]
/-! while -/
theorem whlN_more {m0 : Store} {dead : List Nat} {test : En → Store → Res Bool} {body : En → Store → SR} : ∀ {n : Nat} {en : En} {m : Store} {r : SR}, whlN m0 dead test body n en m = some r → whlN m0 dead test body (n + 1) en m = some r
  | 0, _, _, _, h => by cases h
  | n + 1, en, m, r, h => by
    rw [whlN] at h ⊢
    cases ht : test en m with
    | ok b m1 =>
      rw [ht] at h
      cases b with
      | true =>
        simp only at h ⊢
        cases hb : body en m1 with
        | nx en2 m2 => rw [hb] at h; exact whlN_more h
        | ct en2 m2 => rw [hb] at h; exact whlN_more h
        | bk en2 m2 => rw [hb] at h; exact h
        | rt w m2 => rw [hb] at h; exact h
        | exc c ws m2 => rw [hb] at h; exact h
        | bad => rw [hb] at h; exact h
      | false => exact h
    | exc c ws m1 => rw [ht] at h; exact h
    | bad => rw [ht] at h; exact h
theorem whlN_add {m0 : Store} {dead : List Nat} {test : En → Store → Res Bool} {body : En → Store → SR} {n : Nat} {en : En} {m : Store} {r : SR} (h : whlN m0 dead test body n en m = some r) : ∀ k, whlN m0 dead test body (n + k) en m = some r
  | 0 => h
  | k + 1 => whlN_more (whlN_add h k)
theorem whlW_of {m0 : Store} {dead : List Nat} {test : En → Store → Res Bool} {body : En → Store → SR} {n : Nat} {en : En} {m : Store} {r : SR} (h : whlN m0 dead test body n en m = some r) : whlW m0 dead test body en m = r := by
  have hex : ∃ n r, whlN m0 dead test body n en m = some r := ⟨n, r, h⟩
  unfold whlW
  rw [dif_pos hex]
  have h2 := choose_spec (choose_spec hex)
  generalize choose (choose_spec hex) = r2 at h2
  generalize choose hex = n2 at h2
  have e1 := whlN_add h n2
  have e2 := whlN_add h2 n
  rw [Nat.add_comm n2 n, e1] at e2
  exact (Option.some.inj e2).symm
theorem evS_whl {subc : String → String → Option Bool} {fieldsOf : String → List String} {call make : Call} (c : E) (b : Ss) (dead : List Nat) (en : En) (m : Store) : evS subc fieldsOf call make (.whl c b dead) en m = whlW m dead (evT subc fieldsOf call make c) (evSs subc fieldsOf call make b) en m := rfl
theorem call_one {P : Prog} {f : String} {df : Def} {ws : List W} {m : Store} {d : Nat} (hf : P.find f = some df) (hl : ws.length = df.ps.length) : callN P (d + 1) f ws m = gc m (outD (evSs P.subc P.fieldsOf (callN P d) (mk P (callN P d)) df.body (startE df ws) m)) := by
  show (match P.find f with
    | some df => gc m (runD P (callN P d) (mk P (callN P d)) df ws m)
    | none => .bad) = _
  rw [hf]
  show gc m (runD P (callN P d) (mk P (callN P d)) df ws m) = _
  unfold runD
  rw [if_pos hl]
  unfold startE outD
  cases evSs P.subc P.fieldsOf (callN P d) (mk P (callN P d)) df.body (ws.map some ++ List.replicate (df.n - ws.length) none) m <;> rfl
def St (m : Store) (t : Int) : Prop := ∃ cs ls l, Sta m cs ls l t ∧ 0 ≤ l ∧ (∀ x ∈ ls, (0 : Int) ≤ x) ∧ 0 ≤ t
abbrev drawT : E := (.and (.cmp .eq (.idx (.var 0) (.str "left")) (.int 0)) (.cmp .ne (.idx (.var 0) (.str "large")) (.lst .nil)))
abbrev drawB : Ss := (.cons (.aset (.var 0) (.str "left") (.meth (.idx (.var 0) (.str "large")) .pop (.cons (.int 0) .nil))) .nil)
theorem draw_loop {subc : String → String → Option Bool} {fieldsOf : String → List String} {call make : Call} (m0 : Store) (n : Int) (cs : List Int) (t : Int) : ∀ (ls : List Int) (l : Int) (m : Store), Fr m0 m → Sta m cs ls l t → 0 ≤ l → (∀ x ∈ ls, (0 : Int) ≤ x) →
    ∃ k m' ls' l', whlN m0 [] (evT subc fieldsOf call make drawT) (evSs subc fieldsOf call make drawB) k [some (.ref 3), some (.int n), none, none, none, none] m = some (.nx [some (.ref 3), some (.int n), none, none, none, none] m') ∧ Fr m0 m' ∧ Sta m' cs ls' l' t ∧ 0 ≤ l' ∧ (∀ x ∈ ls', (0 : Int) ≤ x)
  | ls, l, m, F, S, hl, hls => by
    have hlt := S.lt
    have e2 : ∀ e : Store, (m ++ e)[2]? = some (.lst (ls.map W.int)) := fun e => get_old S.large
    have test : evT subc fieldsOf call make drawT [some (.ref 3), some (.int n), none, none, none, none] m = .ok (decide (l = 0) && decide (ls ≠ [])) m := by
      have heq := eqD_lst (m := m ++ [.lst []]) (a := 2) (b := m.length) (xs := ls.map W.int) (ys := []) (e2 _) (by simp) (by simp) (by simp) (Nat.le_trans (depL_map W.int ls (n := 0) (by simp)) (by decide)) (by simp)
      have hl2 : ∀ q ∈ (W.ref 2).refs, q < m.length := by simp; omega
      have g2 : gc m (.ok (.ref 2) m) = .ok (.ref 2) m := gc_lowk m hl2
      simp [at_left S.dict, at_large S.dict, heq, g2]
      by_cases h1 : l = 0 <;> by_cases h2 : ls = [] <;> simp [h1, h2]
    cases ls with
    | nil => exact ⟨1, m, [], l, by rw [whlN, test]; simp, F, S, hl, hls⟩
    | cons x r =>
      by_cases h0 : l = 0
      · subst h0
        have S1 := S.set2 r
        have F1 : Fr m (m.set 2 (.lst (r.map W.int))) := Fr.set2 _ _
        have S2 := S1.set3 x t
        have F2 := F1.trans (Fr.set3 _ (.dct (kvsS x t)))
        obtain ⟨k, m', ls', l', h1, h2, h3, h4, h5⟩ := draw_loop (subc := subc) (fieldsOf := fieldsOf) (call := call) (make := make) m0 n cs t r x _ (F.trans F2) S2 (hls x List.mem_cons_self) (fun y hy => hls y (List.mem_cons_of_mem _ hy))
        refine ⟨k + 1, m', ls', l', ?_, h2, h3, h4, h5⟩
        have body : evSs subc fieldsOf call make drawB [some (.ref 3), some (.int n), none, none, none, none] m = .nx [some (.ref 3), some (.int n), none, none, none, none] ((m.set 2 (.lst (r.map W.int))).set 3 (.dct (kvsS x t))) := by
          have hl2 : ∀ q ∈ (W.ref 2).refs, q < m.length := by simp; omega
          have g2 : gc m (.ok (.ref 2) m) = .ok (.ref 2) m := gc_lowk m hl2
          have hp : evMt .pop (.ref 2) [.int 0] m = .ok (.int x) (m.set 2 (.lst (r.map W.int))) := by
            have := S.large
            simp [evMt, evPop, this, L2.ixN]
          have g3 : gc m (.ok (.int x) (m.set 2 (.lst (r.map W.int)))) = .ok (.int x) (m.set 2 (.lst (r.map W.int))) := gc_ch ⟨F1.len, F1.new S1⟩ (by simp)
          simp [at_large S.dict, g2, recv_pop _ S.large, hp, g3, set_left S1.dict]
        have hg := gcE_ch0 (m := m0) (m' := (m.set 2 (.lst (r.map W.int))).set 3 (.dct (kvsS x t))) ⟨(F.trans F2).len, (F.trans F2).new S2⟩ (dead := []) (en := [some (.ref 3), some (.int n), none, none, none, none]) (by have := F.len; simp; omega)
        rw [whlN, test]
        simp only [decide_true, ne_eq, reduceCtorEq, not_false_eq_true, Bool.and_self]
        rw [body]
        simp only [hg, wipeE_nil]
        exact h1
      · exact ⟨1, m, x :: r, l, by rw [whlN, test]; simp [h0], F, S, hl, hls⟩
theorem Fr.ch {m m' : Store} {t : Int} (F : Fr m m') (S : St m' t) : Ch m m' := by
  obtain ⟨cs, ls, l, S, _⟩ := S
  exact ⟨F.len, F.new S⟩
theorem s_draw {m : Store} {t : Int} (h : St m t) (ht : t ≤ 1000000) (n : Int) (hn : 1 ≤ n ∧ n ≤ 100000) : ∀ d, 1 ≤ d → ∃ r m' t', callN prog d "_law_draw" [.ref 3, .int n] m = .ok (.int r) m' ∧ 0 ≤ r ∧ r < n ∧ Fr m m' ∧ St m' t' ∧ t' ≤ t + 1 := by
  intro d hd
  obtain ⟨d, rfl⟩ : ∃ e, d = e + 1 := ⟨d - 1, by omega⟩
  obtain ⟨cs, ls, l, S, hl, hls, ht0⟩ := h
  obtain ⟨k, m1, ls1, l1, h1, F1, S1, hl1, hls1⟩ := draw_loop (subc := prog.subc) (fieldsOf := prog.fieldsOf) (call := callN prog d) (make := mk prog (callN prog d)) m n cs t ls l m (Fr.refl m) S hl hls
  have hlt := S1.lt
  have hm3 : ∀ q ∈ (W.ref 3).refs, q < m1.length := by simp; omega
  have hm1 : ∀ q ∈ (W.ref 1).refs, q < m1.length := by simp; omega
  have fin : ∀ (r : Int) (m' : Store) (cs' ls' : List Int) (l' t' : Int), Fr m m' → Sta m' cs' ls' l' t' → 0 ≤ l' → (∀ x ∈ ls', (0 : Int) ≤ x) → 0 ≤ t' → t' ≤ t + 1 → 0 ≤ r → r < n → callN prog (d + 1) "_law_draw" [.ref 3, .int n] m = gc m (.ok (.int r) m') →
      ∃ r m' t', callN prog (d + 1) "_law_draw" [.ref 3, .int n] m = .ok (.int r) m' ∧ 0 ≤ r ∧ r < n ∧ Fr m m' ∧ St m' t' ∧ t' ≤ t + 1 := by
    intro r m' cs' ls' l' t' F S h1 h2 h3 h4 h5 h6 h7
    rw [gc_st F S (by simp)] at h7
    exact ⟨r, m', t', h7, h5, h6, F, ⟨cs', ls', l', S, h1, h2, h3⟩, h4⟩
  by_cases h0 : 0 < l1
  · have hdiv : 0 ≤ Int.fdiv l1 n := Int.fdiv_nonneg hl1 (by omega)
    refine fin (Int.fmod l1 n) (m1.set 3 (.dct (kvsS (Int.fdiv l1 n) t))) cs ls1 (Int.fdiv l1 n) t (F1.trans (Fr.set3 _ _)) (S1.set3 _ _) hdiv hls1 ht0 (by omega) (Int.fmod_nonneg_of_pos _ (by omega)) (Int.fmod_lt_of_pos _ (by omega)) ?_
    rw [call_one (df := d__law_draw) rfl rfl]
    have c1 : evBin .mod (.int l1) (.int n) m1 = .ok (.int (Int.fmod l1 n)) m1 := by
      have : n ≠ 0 := by omega
      simp [evBin, intOp, this]
    have c2 : evBin .div (.int l1) (.int n) m1 = .ok (.int (Int.fdiv l1 n)) m1 := by
      have : L2.CDivN l1 n := ⟨by omega, by omega⟩
      simp [evBin, intOp, this]
    simp [d__law_draw, startE]
    rw [evS_whl, whlW_of h1]
    simp [at_left S1.dict, h0, c1, c2, set_left S1.dict]
  · have hl0 : l1 = 0 := by omega
    subst hl0
    have S2 := S1.set3 0 (t + 1)
    have F2 := F1.trans (Fr.set3 m1 (.dct (kvsS 0 (t + 1))))
    obtain ⟨cell, hcell⟩ : ∃ cell : Int, cell = if cs = [] then 0 else (cs[(Int.fmod (t + 1) cs.length).toNat]?).getD 0 := ⟨_, rfl⟩
    obtain ⟨x, hx⟩ : ∃ x : Int, x = Int.fmod ((Int.fmod cell 2147483563 + 40692 * (t + 1) + 24681) ^ 3) 2147483629 := ⟨_, rfl⟩
    obtain ⟨y, hy⟩ : ∃ y : Int, y = Int.fdiv (Int.fmod ((x + 104917 * (t + 1)) ^ 5) 2147483579) 29 := ⟨_, rfl⟩
    have b1 : 0 ≤ Int.fmod cell 2147483563 ∧ Int.fmod cell 2147483563 < 2147483563 := ⟨Int.fmod_nonneg_of_pos _ (by decide), Int.fmod_lt_of_pos _ (by decide)⟩
    have b2 : 0 ≤ x ∧ x < 2147483629 := by rw [hx]; exact ⟨Int.fmod_nonneg_of_pos _ (by decide), Int.fmod_lt_of_pos _ (by decide)⟩
    refine fin (Int.fmod y n) (m1.set 3 (.dct (kvsS 0 (t + 1)))) cs ls1 0 (t + 1) F2 S2 (by omega) hls1 (by omega) (by omega) (Int.fmod_nonneg_of_pos _ (by omega)) (Int.fmod_lt_of_pos _ (by omega)) ?_
    obtain ⟨m2, hm2⟩ : ∃ m2, m2 = m1.set 3 (.dct (kvsS 0 (t + 1))) := ⟨_, rfl⟩
    rw [← hm2] at S2 F2 ⊢
    have hlt2 := S2.lt
    have hc : evE prog.subc prog.fieldsOf (callN prog d) (mk prog (callN prog d)) (.ite (.cmp .ne (.idx (.var 0) (.str "cells")) (.lst .nil)) (.idx (.idx (.var 0) (.str "cells")) (.bin .mod (.bi .int (.cons (.var 3) .nil)) (.bi .len (.cons (.idx (.var 0) (.str "cells")) .nil)))) (.int 0)) [some (.ref 3), some (.int n), none, some (.int (t + 1)), none, none] m2 = .ok (.int cell) m2 := by
      have g1 : gc m2 (.ok (.ref 1) m2) = .ok (.ref 1) m2 := gc_lowk m2 (by simp; omega)
      have heq := eqD_lst (m := m2 ++ [.lst []]) (a := 1) (b := m2.length) (xs := cs.map W.int) (ys := []) (get_old S2.cells) (by simp) (by simp) (by simp) (Nat.le_trans (depL_map W.int cs (n := 0) (by simp)) (by decide)) (by simp)
      simp [at_cells S2.dict, g1, heq]
      by_cases hcs : cs = []
      · rw [if_pos hcs, hcell, if_pos hcs]
      · rw [if_neg hcs]
        have hpos : 0 < cs.length := List.length_pos_iff.mpr hcs
        have c3 : evBin .mod (.int (t + 1)) (.int cs.length) m2 = .ok (.int (Int.fmod (t + 1) cs.length)) m2 := by
          simp [evBin, intOp, hcs]
        have k1 : 0 ≤ Int.fmod (t + 1) cs.length := Int.fmod_nonneg_of_pos _ (by omega)
        have k2 : Int.fmod (t + 1) cs.length < cs.length := Int.fmod_lt_of_pos _ (by omega)
        have hat : L2.atI (cs.map W.int) (Int.fmod (t + 1) cs.length) = some (.int cell) := by
          unfold L2.atI L2.ixN
          rw [if_pos k1, List.length_map, if_pos k2]
          show (cs.map W.int)[(Int.fmod (t + 1) cs.length).toNat]? = _
          rw [List.getElem?_map, hcell, if_neg hcs, List.getElem?_eq_getElem (by omega)]; rfl
        have hlen := len_lst m2 S2.cells
        rw [List.length_map] at hlen
        simp [at_cells S2.dict, g1, hlen, c3, idx_lst m2 S2.cells, hat]
    have p1 : ∀ i : Int, evBin .mod (.int i) (.int 2147483563) m2 = .ok (.int (Int.fmod i 2147483563)) m2 := fun i => by simp [evBin, intOp]
    have p2 : ∀ i : Int, evBin .mod (.int i) (.int 2147483629) m2 = .ok (.int (Int.fmod i 2147483629)) m2 := fun i => by simp [evBin, intOp]
    have p3 : ∀ i : Int, evBin .mod (.int i) (.int 2147483579) m2 = .ok (.int (Int.fmod i 2147483579)) m2 := fun i => by simp [evBin, intOp]
    have p4 : ∀ i : Int, evBin .mod (.int i) (.int n) m2 = .ok (.int (Int.fmod i n)) m2 := fun i => by
      have : n ≠ 0 := by omega
      simp [evBin, intOp, this]
    have p5 : ∀ i : Int, evBin .div (.int i) (.int 29) m2 = .ok (.int (Int.fdiv i 29)) m2 := fun i => by
      have : L2.CDivN i 29 := ⟨by decide, by decide⟩
      simp [evBin, intOp, this]
    have p6 : evBin .mul (.int 40692) (.int (t + 1)) m2 = .ok (.int (40692 * (t + 1))) m2 := by
      have : L2.CMul 40692 (t + 1) := .inl ⟨by decide, by decide⟩
      simp [evBin, intOp, this]
    have p7 : evBin .mul (.int 104917) (.int (t + 1)) m2 = .ok (.int (104917 * (t + 1))) m2 := by
      have : L2.CMul 104917 (t + 1) := .inl ⟨by decide, by decide⟩
      simp [evBin, intOp, this]
    have p8 : evBin .pow (.int (Int.fmod cell 2147483563 + 40692 * (t + 1) + 24681)) (.int 3) m2 = .ok (.int ((Int.fmod cell 2147483563 + 40692 * (t + 1) + 24681) ^ 3)) m2 := by
      have : L2.CPow (Int.fmod cell 2147483563 + 40692 * (t + 1) + 24681) 3 := ⟨by decide, by decide, by omega⟩
      simp [evBin, intOp, this]
    have p9 : evBin .pow (.int (x + 104917 * (t + 1))) (.int 5) m2 = .ok (.int ((x + 104917 * (t + 1)) ^ 5)) m2 := by
      have : L2.CPow (x + 104917 * (t + 1)) 5 := ⟨by decide, by decide, by omega⟩
      simp [evBin, intOp, this]
    rw [call_one (df := d__law_draw) rfl rfl]
    simp [d__law_draw, startE]
    rw [evS_whl, whlW_of h1]
    simp [at_left S1.dict, at_turn S1.dict, set_turn S1.dict, -evE_ite, ← hm2]
    rw [hc]
    simp [p1, p2, p3, p4, p5, p6, p7, p8, p9, ← hx, ← hy]
end K74

set_option Elab.async false
set_option linter.all false
set_option maxRecDepth 100000
set_option maxHeartbeats 4000000
/-! Picks, mixing, grown trees. -/
namespace K74
open PySem L2 Ev
open Classical
/-- a draw in a longer store -/
theorem Fr.split {m e M : Store} (F : Fr (m ++ e) M) (h3 : 3 < m.length) : ∃ m', M = m' ++ e ∧ Fr m m' := by
  have hl : M.length = m.length + e.length := by rw [F.len, List.length_append]
  refine ⟨M.take m.length, ?_, by simp; omega, fun i h1 h2 => ?_⟩
  · apply List.ext_getElem?
    intro i
    by_cases hi : i < m.length
    · rw [List.getElem?_append_left (by simp; omega), List.getElem?_take, if_pos hi]
    · rw [List.getElem?_append_right (by simp; omega), F.at_ i (by omega) (by omega), List.getElem?_append_right (by omega)]
      congr 1
      simp
      omega
  · rw [List.getElem?_take]
    by_cases hi : i < m.length
    · rw [if_pos hi, F.at_ i h1 h2, List.getElem?_append_left hi]
    · rw [if_neg hi, List.getElem?_eq_none (by omega)]
theorem St.app {m : Store} {t : Int} (S : St m t) (e : Store) : St (m ++ e) t := by
  obtain ⟨cs, ls, l, S, h⟩ := S
  exact ⟨cs, ls, l, ⟨get_old S.cells, get_old S.large, get_old S.dict⟩, h⟩
theorem St.lt {m : Store} {t : Int} (S : St m t) : 3 < m.length := by
  obtain ⟨cs, ls, l, S, h⟩ := S
  exact S.lt
theorem St.cut {m e : Store} {t : Int} (S : St (m ++ e) t) (h3 : 3 < m.length) : St m t := by
  obtain ⟨cs, ls, l, S, h⟩ := S
  refine ⟨cs, ls, l, ⟨?_, ?_, ?_⟩, h⟩
  · have := S.cells; rw [List.getElem?_append_left (by omega)] at this; exact this
  · have := S.large; rw [List.getElem?_append_left (by omega)] at this; exact this
  · have := S.dict; rw [List.getElem?_append_left (by omega)] at this; exact this
theorem draw_in {m : Store} {t : Int} (h : St m t) (ht : t ≤ 1000000) (e : Store) (n : Int) (hn : 1 ≤ n ∧ n ≤ 100000) {d : Nat} (hd : 1 ≤ d) : ∃ r m' t', callN prog d "_law_draw" [.ref 3, .int n] (m ++ e) = .ok (.int r) (m' ++ e) ∧ 0 ≤ r ∧ r < n ∧ Fr m m' ∧ St m' t' ∧ t' ≤ t + 1 := by
  obtain ⟨r, M, t', h1, h2, h3, F, S, h4⟩ := s_draw (h.app e) ht n hn d hd
  obtain ⟨m', rfl, F'⟩ := F.split h.lt
  exact ⟨r, m', t', h1, h2, h3, F', S.cut (by rw [F'.len]; exact h.lt), h4⟩
theorem atI_ok {α : Type} {ws : List α} {r : Int} (h1 : 0 ≤ r) (h2 : r < ws.length) : ∃ w, L2.atI ws r = some w ∧ w ∈ ws ∧ ws[r.toNat]? = some w := by
  have : r.toNat < ws.length := by omega
  refine ⟨ws[r.toNat], ?_, List.getElem_mem this, List.getElem?_eq_getElem this⟩
  unfold L2.atI L2.ixN
  rw [if_pos h1, if_pos h2]
  exact List.getElem?_eq_getElem this
theorem s_pick {m : Store} {t : Int} (h : St m t) (ht : t ≤ 1000000) {a : Nat} {ws : List W} (ha : m[a]? = some (.lst ws)) (h2 : a ≠ 2) (h3 : a ≠ 3) (hne : ws ≠ []) (hl : ws.length ≤ 100000) (hw : belowL m.length ws) : ∀ d, 2 ≤ d → ∃ w m' t', callN prog d "_law_pick" [.ref 3, .ref a] m = .ok w m' ∧ w ∈ ws ∧ Fr m m' ∧ St m' t' ∧ t' ≤ t + 1 := by
  intro d hd
  obtain ⟨d, rfl⟩ : ∃ e, d = e + 1 := ⟨d - 1, by omega⟩
  have hpos : 0 < ws.length := List.length_pos_iff.mpr hne
  obtain ⟨r, m', t', e1, e2, e3, F, S, e4⟩ := s_draw h ht ws.length (by omega) d (by omega)
  obtain ⟨w, w1, w2, _⟩ := atI_ok e2 e3
  have ha' : m'[a]? = some (.lst ws) := by rw [F.at_ a h2 h3]; exact ha
  have hlow : ∀ r ∈ w.refs, r < m.length := fun r hr => hw r (mem_refsL.mpr ⟨w, w2, hr⟩)
  refine ⟨w, m', t', ?_, w2, F, S, e4⟩
  rw [call_one (df := d__law_pick) rfl rfl]
  have g0 := len_lst m ha
  have g1 : gc m (.ok (.int r) m') = .ok (.int r) m' := gc_ch (F.ch S) (by simp)
  have g2 : gc m (.ok w m') = .ok w m' := gc_ch (F.ch S) hlow
  simp [d__law_pick, startE, g0, e1, g1, idx_lst m' ha', w1, g2]
end K74

set_option Elab.async false
set_option linter.all false
set_option maxRecDepth 100000
set_option maxHeartbeats 4000000
/-! Mixing. -/
namespace K74
open PySem L2 Ev
open Classical
section
variable {m : Store} {n : Nat} (h : m.length = n)
include h
theorem at0 (x : MObj) (e : Store) : (m ++ x :: e)[n]? = some x := by rw [← h]; simp
theorem at1 (x y : MObj) (e : Store) : (m ++ x :: y :: e)[n + 1]? = some y := by rw [← h, List.getElem?_append_right (by omega)]; simp
theorem put0 (x o : MObj) (e : Store) : (m ++ x :: e).set n o = m ++ o :: e := by rw [← h]; simp
theorem put1 (x y o : MObj) (e : Store) : (m ++ x :: y :: e).set (n + 1) o = m ++ x :: o :: e := by
  rw [← h, List.set_append_right _ _ (by omega)]; simp
end
theorem Ch.app {m m' : Store} (h : Ch m m') (e : Store) : Ch (m ++ e) (m' ++ e) := ⟨by simp [h.len], fun i o x => by
  by_cases hi : i < m'.length
  · rw [List.getElem?_append_left hi] at x
    rw [List.getElem?_append_left (by rw [← h.len]; exact hi)]
    rcases h.new i o x with y | y
    · exact .inl y
    · exact .inr fun r hr => by have := y r hr; simp; omega
  · rw [List.getElem?_append_right (by omega)] at x
    rw [List.getElem?_append_right (by rw [← h.len]; omega), ← h.len]
    exact .inl x⟩
theorem Ch.app1 {m m' : Store} (h : Ch m m') {o o' : MObj} (hb : o'.bel (m.length + 1)) : Ch (m ++ [o]) (m' ++ [o']) := by
  refine (h.app [o]).trans ?_
  have := Ch.set (m := m' ++ [o]) (n := m'.length) (o := o') (by simpa [h.len] using hb)
  simpa using this
theorem Ch.app2 {m m' : Store} (h : Ch m m') {o o' p p' : MObj} (hb : o'.bel (m.length + 2)) (hc : p'.bel (m.length + 2)) : Ch (m ++ [o, p]) (m' ++ [o', p']) := by
  refine (h.app [o, p]).trans ?_
  have h1 := Ch.set (m := m' ++ [o, p]) (n := m'.length) (o := o') (by simpa [h.len] using hb)
  rw [put0 rfl] at h1
  have h2 := Ch.set (m := m' ++ [o', p]) (n := m'.length + 1) (o := p') (by simpa [h.len] using hc)
  rw [put1 rfl] at h2
  exact h1.trans h2
theorem pop_at {M : Store} {n : Nat} {ws : List W} {r : Int} (h : M[n]? = some (.lst ws)) (h1 : 0 ≤ r) (h2 : r < ws.length) : ∃ w, w ∈ ws ∧ ws[r.toNat]? = some w ∧ evMt .pop (.ref n) [.int r] M = .ok w (M.set n (.lst (ws.eraseIdx r.toNat))) := by
  have h3 : r.toNat < ws.length := by omega
  refine ⟨ws[r.toNat], List.getElem_mem h3, List.getElem?_eq_getElem h3, ?_⟩
  have : L2.ixN ws.length r = some r.toNat := by unfold L2.ixN; rw [if_pos h1, if_pos h2]
  simp [evMt, evPop, h, this, h3]
abbrev mixT : E := .cmp .ne (.var 2) (.lst .nil)
abbrev mixB : Ss := .cons (.ex (.meth (.var 3) .append (.cons (.meth (.var 2) .pop (.cons (.call "_law_draw" (.cons (.var 0) (.cons (.bi .len (.cons (.var 2) .nil)) .nil))) .nil)) .nil))) .nil
theorem piL_sub {ws us : List W} (h : W.piL ws = true) (k : ∀ w ∈ us, w ∈ ws) : W.piL us = true := piL_iff.mpr fun w hw => piL_iff.mp h w (k w hw)
theorem depL_sub {ws us : List W} {n : Nat} (h : W.depL ws ≤ n) (k : ∀ w ∈ us, w ∈ ws) : W.depL us ≤ n := depL_iff.mpr fun w hw => depL_iff.mp h w (k w hw)
theorem bel_pi {n : Nat} {ws : List W} (h : W.piL ws = true) : (MObj.lst ws).bel n := bel_flat (piL_refs h)
theorem mix_loop {m : Store} {a : Nat} {ws : List W} (hpi : W.piL ws = true) (hdep : W.depL ws ≤ 63) (hlen : ws.length ≤ 4000) (ha : a < m.length) {d : Nat} (hd : 1 ≤ d) {o p : MObj} : ∀ (k : Nat) (left found : List W) (m1 : Store) (t : Int), left.length = k → (∀ w ∈ left, w ∈ ws) → (∀ w ∈ found, w ∈ ws) → k + found.length = ws.length → Fr m m1 → St m1 t → t + k ≤ 1000000 →
    ∃ us m2 t2, whlN (m ++ [o, p]) [] (evT prog.subc prog.fieldsOf (callN prog d) (mk prog (callN prog d)) mixT) (evSs prog.subc prog.fieldsOf (callN prog d) (mk prog (callN prog d)) mixB) (k + 1) [some (.ref 3), some (.ref a), some (.ref m.length), some (.ref (m.length + 1))] (m1 ++ [.lst left, .lst found]) = some (.nx [some (.ref 3), some (.ref a), some (.ref m.length), some (.ref (m.length + 1))] (m2 ++ [.lst [], .lst us])) ∧ (∀ w ∈ us, w ∈ ws) ∧ us.length = ws.length ∧ Fr m m2 ∧ St m2 t2 ∧ t2 ≤ t + k
  | k, left, found, m1, t, hk, hl, hf, hsum, F, S, ht => by
    have hlt := S.lt
    have hn := F.len
    have e0 := at0 hn (.lst left) [.lst found]
    have e1 := at1 hn (.lst left) (.lst found) []
    have l1 := piL_sub hpi hl
    have l2 := depL_sub hdep hl
    have test : evT prog.subc prog.fieldsOf (callN prog d) (mk prog (callN prog d)) mixT [some (.ref 3), some (.ref a), some (.ref m.length), some (.ref (m.length + 1))] (m1 ++ [.lst left, .lst found]) = .ok (decide (left ≠ [])) (m1 ++ [.lst left, .lst found]) := by
      have heq := eqD_lst (m := m1 ++ [.lst left, .lst found] ++ [.lst []]) (a := m.length) (b := (m1 ++ [MObj.lst left, MObj.lst found]).length) (xs := left) (ys := []) (get_old e0) (by rw [at0 rfl]) l1 (by simp) l2 (by simp)
      have key : evE prog.subc prog.fieldsOf (callN prog d) (mk prog (callN prog d)) mixT [some (.ref 3), some (.ref a), some (.ref m.length), some (.ref (m.length + 1))] (m1 ++ [.lst left, .lst found]) = .ok (.bl (decide (left ≠ []))) (m1 ++ [.lst left, .lst found]) := by
        generalize hM : m1 ++ [.lst left, .lst found] = M at heq e0
        simp [heq]
      rw [evT_eq, key]
      simp
    cases left with
    | nil =>
      simp at hk
      subst hk
      exact ⟨found, m1, t, by rw [whlN, test]; simp, hf, by simpa using hsum, F, S, by simp⟩
    | cons x r =>
      obtain ⟨k, rfl⟩ : ∃ j, k = j + 1 := ⟨k - 1, by simp at hk; omega⟩
      obtain ⟨v, m2, t2, d1, d2, d3, F2, S2, d4⟩ := draw_in S (by omega) [.lst (x :: r), .lst found] ((x :: r).length : Int) (by simp at hk ⊢; omega) hd
      have hn2 : m2.length = m.length := F2.len.trans hn
      have C2 := (F2.ch S2).app [.lst (x :: r), .lst found]
      obtain ⟨w, w1, w2, w3⟩ := pop_at (M := m2 ++ [.lst (x :: r), .lst found]) (n := m.length) (r := v) (at0 hn2 _ _) d2 d3
      rw [put0 hn2] at w3
      have pw : w.pi = true := piL_iff.mp l1 w w1
      have hv : v.toNat < (x :: r).length := by omega
      have le : ((x :: r).eraseIdx v.toNat).length = k := by rw [List.length_eraseIdx_of_lt hv]; simp at hk ⊢; omega
      have he : ∀ u ∈ (x :: r).eraseIdx v.toNat, u ∈ ws := fun u hu => hl u (List.mem_of_mem_eraseIdx hu)
      generalize hL : (x :: r).eraseIdx v.toNat = left2 at *
      have C3 : Ch (m1 ++ [.lst (x :: r), .lst found]) (m2 ++ [.lst left2, .lst found]) := (F2.ch S2).app2 (bel_pi (piL_sub hpi he)) (bel_pi (piL_sub hpi hf))
      have hfw : ∀ u ∈ found ++ [w], u ∈ ws := fun u hu => by
        rcases List.mem_append.mp hu with h | h
        · exact hf u h
        · rw [List.mem_singleton.mp h]; exact hl w w1
      have C4 : Ch (m1 ++ [.lst (x :: r), .lst found]) (m2 ++ [.lst left2, .lst (found ++ [w])]) := (F2.ch S2).app2 (bel_pi (piL_sub hpi he)) (bel_pi (piL_sub hpi hfw))
      have C5 : Ch (m ++ [o, p]) (m2 ++ [.lst left2, .lst (found ++ [w])]) := ((F.trans F2).ch S2).app2 (bel_pi (piL_sub hpi he)) (bel_pi (piL_sub hpi hfw))
      have happ : evMt .append (.ref (m.length + 1)) [w] (m2 ++ [.lst left2, .lst found]) = .ok .non (m2 ++ [.lst left2, .lst (found ++ [w])]) := by
        rw [mt_app _ (at1 hn2 _ _ _) (by simp at hk; omega), put1 hn2]
      have body : evSs prog.subc prog.fieldsOf (callN prog d) (mk prog (callN prog d)) mixB [some (.ref 3), some (.ref a), some (.ref m.length), some (.ref (m.length + 1))] (m1 ++ [.lst (x :: r), .lst found]) = .nx [some (.ref 3), some (.ref a), some (.ref m.length), some (.ref (m.length + 1))] (m2 ++ [.lst left2, .lst (found ++ [w])]) := by
        have hlen0 := len_lst (m1 ++ [.lst (x :: r), .lst found]) e0
        have r1 := recv_app (m1 ++ [.lst (x :: r), .lst found]) e1
        have r0 := recv_pop (m1 ++ [.lst (x :: r), .lst found]) e0
        have g1 := gc_ch C2 (w := .int v) (by simp)
        have g2 := gc_ch C3 (w := w) (by simp [pi_refs pw])
        have g3 := gc_ch C4 (w := .non) (by simp)
        generalize hM : m1 ++ [.lst (x :: r), .lst found] = M at *
        simp [r1, r0, hlen0] at d1 ⊢
        simp [d1, g1, w3, g2, happ, g3]
      have hg := gcE_ch0 (dead := []) (en := [some (.ref 3), some (.ref a), some (.ref m.length), some (.ref (m.length + 1))]) C5 (by simp; omega)
      obtain ⟨us, m3, t3, h1, h2, h3, h4, h5, h6⟩ := mix_loop hpi hdep hlen ha hd (o := o) (p := p) k left2 (found ++ [w]) m2 t2 le he hfw (by simp; omega) (F.trans F2) S2 (by omega)
      refine ⟨us, m3, t3, ?_, h2, h3, h4, h5, by omega⟩
      rw [whlN, test]
      simp only [ne_eq, reduceCtorEq, not_false_eq_true, decide_true]
      rw [body]
      simp only [hg, wipeE_nil]
      exact h1
theorem s_mixed {m : Store} {t : Int} (S : St m t) {a : Nat} {ws : List W} (ha : m[a]? = some (.lst ws)) (hpi : W.piL ws = true) (hdep : W.depL ws ≤ 63) (hlen : ws.length ≤ 4000) (ht : t + ws.length ≤ 1000000) : ∀ d, 2 ≤ d → ∃ us m' t', callN prog d "_law_mixed" [.ref 3, .ref a] m = .ok (.ref m.length) (m' ++ [.lst us]) ∧ (∀ w ∈ us, w ∈ ws) ∧ us.length = ws.length ∧ Fr m m' ∧ St m' t' ∧ t' ≤ t + ws.length := by
  intro d hd
  obtain ⟨d, rfl⟩ : ∃ e, d = e + 1 := ⟨d - 1, by omega⟩
  obtain ⟨us, m2, t2, h1, h2, h3, h4, h5, h6⟩ := mix_loop hpi hdep hlen (lt_of_get ha) (d := d) (by omega) (o := .lst ws) (p := .lst []) ws.length ws [] m t rfl (fun _ h => h) (by simp) (by simp) (Fr.refl m) S ht
  refine ⟨us, m2, t2, ?_, h2, h3, h4, h5, h6⟩
  rw [call_one (df := d__law_mixed) rfl rfl]
  have hw := whlW_of h1
  have hlow := piL_refs hpi
  simp [d__law_mixed, startE, ha, hlow]
  rw [evS_whl]
  rw [hw]
  have g := gc_ch_new (h4.ch h5) (e := [.lst [], .lst us]) (k := 1) rfl (bel_pi (piL_sub hpi h2))
  have hn := h4.len
  rw [hn] at g
  simp [g]
end K74

set_option Elab.async false
set_option linter.all false
set_option maxRecDepth 100000
set_option maxHeartbeats 4000000
/-! Grown trees. -/
namespace K74
open PySem L2 Ev
open Classical
theorem St.nn {m : Store} {t : Int} (S : St m t) : 0 ≤ t := by
  obtain ⟨_, _, _, _, _, _, z⟩ := S
  exact z
theorem perm_erase {α : Type} : ∀ {l : List α} {k : Nat} (h : k < l.length), l.Perm (l[k] :: l.eraseIdx k)
  | a :: l, 0, _ => by simp
  | a :: l, k + 1, h => by
    simp only [List.getElem_cons_succ, List.eraseIdx_cons_succ]
    exact (List.Perm.cons a (perm_erase (by simpa using h))).trans (List.Perm.swap _ _ _)
theorem map_erase {α : Type} (f : α → W) : ∀ (l : List α) (k : Nat), (l.map f).eraseIdx k = (l.eraseIdx k).map f
  | [], _ => by simp
  | a :: l, 0 => by simp
  | a :: l, k + 1 => by simp [map_erase f l k]
section
variable {subc : String → String → Option Bool} {fieldsOf : String → List String} {call make : Call} {en : En}
theorem loopC_d {α : Type} {m e : Store} {still : Store → Prop} {F : W → Store → Res (List W)} (f : α → W) (hs : ∀ m1, Fr m m1 → still (m1 ++ e)) : ∀ (l : List α) (m0 : Store) (t0 : Int), Fr m m0 → St m0 t0 → t0 + l.length ≤ 1000000 →
    (∀ a ∈ l, ∀ m1 t1, Fr m m1 → St m1 t1 → t1 ≤ 1000000 → ∃ (b : Bool) (m2 : Store) (t2 : Int), F (f a) (m1 ++ e) = .ok (if b = true then [f a] else []) (m2 ++ e) ∧ Fr m1 m2 ∧ St m2 t2 ∧ t2 ≤ t1 + 1) →
    ∃ k m1 t1, List.Sublist k l ∧ loopC still F (l.map f) (m0 ++ e) = .ok (k.map f) (m1 ++ e) ∧ Fr m m1 ∧ St m1 t1 ∧ t1 ≤ t0 + l.length
  | [], m0, t0, F0, S0, _, _ => ⟨[], m0, t0, List.Sublist.refl _, by rw [List.map_nil, loopC, if_pos (hs m0 F0)], F0, S0, by simp⟩
  | a :: r, m0, t0, F0, S0, ht, hF => by
    simp at ht
    obtain ⟨b, m2, t2, h1, h2, h3, h4⟩ := hF a List.mem_cons_self m0 t0 F0 S0 (by omega)
    obtain ⟨k, m3, t3, i1, i2, i3, i4, i5⟩ := loopC_d f hs r m2 t2 (F0.trans h2) h3 (by omega) fun c hc => hF c (List.mem_cons_of_mem _ hc)
    refine ⟨if b = true then a :: k else k, m3, t3, ?_, ?_, i3, i4, by simp; omega⟩
    · cases b
      · simpa using List.Sublist.cons a i1
      · simpa using i1
    · rw [List.map_cons, loopC, if_pos (hs m0 F0), h1, Res.bind1, i2, Res.bind1]
      cases b <;> simp
theorem lcd {α : Type} {m e : Store} {t0 : Int} {own : List Nat} {x c : E} {t : Tg} {it : Wk} {srcs : List Src} (f : α → W) (l : List α) (S : St m t0) (ht : t0 + l.length ≤ 1000000)
    (hit : evIt subc fieldsOf call make it en (m ++ e) = .ok ⟨l.map f, srcs⟩ (m ++ e)) (hs : ∀ m1, Fr m m1 → stillAt srcs (m1 ++ e))
    (step : ∀ a ∈ l, ∃ en1, bindT t (f a) (wipeE en own) = some en1 ∧ (∀ m1, evE subc fieldsOf call make x en1 m1 = .ok (f a) m1) ∧
      ∀ m1 t1, Fr m m1 → St m1 t1 → t1 ≤ 1000000 → ∃ (b : Bool) (m2 : Store) (t2 : Int), evE subc fieldsOf call make c en1 (m1 ++ e) = .ok (.bl b) (m2 ++ e) ∧ Fr m1 m2 ∧ St m2 t2 ∧ t2 ≤ t1 + 1)
    (hb : ∀ a, (f a).refs = []) :
    ∃ k m1 t1, List.Sublist k l ∧ evE subc fieldsOf call make (.lc own x (.cons t it (.some c) .nil)) en (m ++ e) = .ok (.ref (m ++ e).length) (m1 ++ e ++ [.lst (k.map f)]) ∧ Fr m m1 ∧ St m1 t1 ∧ t1 ≤ t0 + l.length := by
  obtain ⟨k, m1, t1, h1, h2, h3, h4, h5⟩ := loopC_d (m := m) (e := e) (still := stillAt srcs) (F := fun w m => (match bindT t w (wipeE en own) with
    | none => .bad
    | some en => (evC subc fieldsOf call make (.some c) en m).bind fun b m => if b = true then evG subc fieldsOf call make .nil (fun en m => (evE subc fieldsOf call make x en m).bind fun w m => .ok [w] m) en m else .ok [] m)) f hs l m t0 (Fr.refl m) S ht (fun a ha m1 t1 F1 S1 ht1 => by
      obtain ⟨en1, e1, e2, e3⟩ := step a ha
      obtain ⟨b, m2, t2, g1, g2, g3, g4⟩ := e3 m1 t1 F1 S1 ht1
      refine ⟨b, m2, t2, ?_, g2, g3, g4⟩
      simp only [e1]
      rw [evC_some, g1]
      simp only [kC_ok, truth_bl, Res.of_some, Res.bind1]
      cases b
      · rfl
      · show (evE subc fieldsOf call make x en1 (m2 ++ e)).bind (fun w m => Res.ok [w] m) = _
        rw [e2]; rfl)
  refine ⟨k, m1, t1, h1, ?_, h3, h4, h5⟩
  show gc (m ++ e) (Res.calm (Res.bind (Res.bind (evIt subc fieldsOf call make it en (m ++ e)) fun its m1 => loopC (stillAt its.srcs) (fun w m => (match bindT t w (wipeE en own) with
    | none => .bad
    | some en => (evC subc fieldsOf call make (.some c) en m).bind fun b m => if b = true then evG subc fieldsOf call make .nil (fun en m => (evE subc fieldsOf call make x en m).bind fun w m => .ok [w] m) en m else .ok [] m)) its.items m1) fun ws m => allocL ws m)) = _
  rw [hit, Res.bind1]
  simp only
  rw [h2, Res.bind1, allocL_ok _ (by have h6 := h1.length_le; have h7 : (0 : Int) ≤ t0 := S.nn; rw [List.length_map]; omega)]
  have C : Ch (m ++ e) (m1 ++ e) := (h3.ch h4).app e
  have := gc_ch_new C (e := [.lst (k.map f)]) (k := 0) (o := .lst (k.map f)) rfl (bel_flat (by simp [hb]))
  simpa [C.len] using this
end
theorem pop_typed {α : Type} (f : α → W) {M : Store} {n : Nat} {l : List α} {r : Int} (h : M[n]? = some (.lst (l.map f))) (h1 : 0 ≤ r) (h2 : r < l.length) : ∃ a l', l.Perm (a :: l') ∧ evMt .pop (.ref n) [.int r] M = .ok (f a) (M.set n (.lst (l'.map f))) := by
  have h3 : r.toNat < l.length := by omega
  obtain ⟨w, w1, w2, w3⟩ := pop_at h h1 (by simpa using h2)
  refine ⟨l[r.toNat], l.eraseIdx r.toNat, perm_erase h3, ?_⟩
  rw [w3]
  simp [h3] at w2
  have := map_erase f l r.toNat
  rw [this, ← w2]
theorem ltb_ints : ∀ (a b : List Int), (W.ltbL (a.map W.int) (b.map W.int)).isSome = true
  | [], [] => by simp
  | [], _ :: _ => by simp
  | _ :: _, [] => by simp
  | x :: xs, y :: ys => by
    have := ltb_ints xs ys
    simp
    exact this
theorem cmp_lots {L : List (List Int)} (h : ∀ l ∈ L, l ≠ []) : comparable (L.map lotW) := by
  refine cmp_of (fun x hx => ?_) fun x hx y hy => ?_
  · obtain ⟨l, hl, rfl⟩ := List.mem_map.mp hx
    refine ⟨?_, ?_, ?_⟩
    · simp [lotW]
      clear hl hx
      induction l <;> simp_all
    · simp [lotW]
      exact Nat.le_trans (depL_map W.int l (n := 0) (by simp)) (by decide)
    · cases l with
      | nil => exact absurd rfl (h _ hl)
      | cons a r => rfl
  · obtain ⟨l, _, rfl⟩ := List.mem_map.mp hx
    obtain ⟨k, _, rfl⟩ := List.mem_map.mp hy
    simp [lotW]
    exact ltb_ints l k
abbrev ltI : Int → Int → Bool := fun a b => decide (a < b)
/-- groups: nothing in two of them, each with something in it -/
structure Grp (G : List (List Int)) : Prop where
  dis : G.Pairwise fun l k => ∀ x ∈ l, x ∉ k
  ne : ∀ l ∈ G, l ≠ []
structure Fnd (G K : List (List Int)) : Prop where
  lam : Lam K
  sub : ∀ f ∈ K, ∃ g ∈ G, ∀ x ∈ f, x ∈ g
  ne : ∀ l ∈ K, l ≠ []
def siz (G : List (List Int)) : Nat := (G.map List.length).sum
theorem Grp.perm {G H : List (List Int)} (p : G.Perm H) (h : Grp G) : Grp H :=
  ⟨(p.pairwise_iff (fun {a b} z x hx y => z x y hx)).mp h.dis, fun l hl => h.ne l (p.mem_iff.mpr hl)⟩
theorem siz_perm {G H : List (List Int)} (p : G.Perm H) : siz G = siz H := (p.map _).sum_nat
theorem len_srt {lt : Int → Int → Bool} : ∀ l : List Int, (srt lt l).length = l.length
  | [] => rfl
  | x :: r => by
    rw [srt]
    have : ∀ k : List Int, (ins lt x k).length = k.length + 1 := by
      intro k
      induction k with
      | nil => rfl
      | cons y k ih => rw [ins]; split <;> simp [ih]
    rw [this, len_srt r]; rfl
theorem join {G K G2 : List (List Int)} {a b c : List Int} (p : G.Perm (a :: b :: G2)) (hG : Grp G) (hK : Fnd G K) (hc : ∀ x, x ∈ c ↔ x ∈ a ∨ x ∈ b) : Grp (G2 ++ [c]) ∧ Fnd (G2 ++ [c]) K ∧ Fnd (G2 ++ [c]) (K ++ [c]) := by
  have hH := hG.perm p
  obtain ⟨h1, h2⟩ := List.pairwise_cons.mp hH.dis
  obtain ⟨h3, h4⟩ := List.pairwise_cons.mp h2
  have hcn : c ≠ [] := by
    intro z
    cases a with
    | nil => exact hH.ne [] List.mem_cons_self rfl
    | cons x r => have := (hc x).mpr (.inl List.mem_cons_self); rw [z] at this; cases this
  have hdc : ∀ g ∈ G2, ∀ x ∈ g, x ∉ c := fun g hg x hx z => by
    rcases (hc x).mp z with z | z
    · exact h1 g (List.mem_cons_of_mem _ hg) x z hx
    · exact h3 g hg x z hx
  have hsub : ∀ f ∈ K, (∃ g ∈ G2, ∀ x ∈ f, x ∈ g) ∨ ∀ x ∈ f, x ∈ c := by
    intro f hf
    obtain ⟨g, hg, hfg⟩ := hK.sub f hf
    rcases List.mem_cons.mp (p.mem_iff.mp hg) with rfl | hg
    · exact .inr fun x hx => (hc x).mpr (.inl (hfg x hx))
    · rcases List.mem_cons.mp hg with rfl | hg
      · exact .inr fun x hx => (hc x).mpr (.inr (hfg x hx))
      · exact .inl ⟨g, hg, hfg⟩
  have hs2 : ∀ f ∈ K, ∃ g ∈ G2 ++ [c], ∀ x ∈ f, x ∈ g := fun f hf => by
    rcases hsub f hf with ⟨g, hg, h⟩ | h
    · exact ⟨g, by simp [hg], h⟩
    · exact ⟨c, by simp, h⟩
  refine ⟨⟨List.pairwise_append.mpr ⟨h4, List.pairwise_singleton _ _, fun g hg k hk => ?_⟩, fun l hl => ?_⟩, ⟨hK.lam, hs2, hK.ne⟩, ⟨?_, fun f hf => ?_, fun l hl => ?_⟩⟩
  · rw [List.mem_singleton.mp hk]; exact hdc g hg
  · rcases List.mem_append.mp hl with h | h
    · exact hH.ne l (List.mem_cons_of_mem _ (List.mem_cons_of_mem _ h))
    · rw [List.mem_singleton.mp h]; exact hcn
  · have hd : ∀ f ∈ K, (∀ x ∈ f, x ∈ c) ∨ ∀ x ∈ f, x ∉ c := fun f hf => by
      rcases hsub f hf with ⟨g, hg, h⟩ | h
      · exact .inr fun x hx => hdc g hg x (h x hx)
      · exact .inl h
    intro l hl k hk
    rcases List.mem_append.mp hl with h | h <;> rcases List.mem_append.mp hk with h' | h'
    · exact hK.lam l h k h'
    · rw [List.mem_singleton.mp h']
      rcases hd l h with z | z
      · exact .inl z
      · exact .inr (.inr z)
    · rw [List.mem_singleton.mp h]
      rcases hd k h' with z | z
      · exact .inr (.inl z)
      · exact .inr (.inr fun x hx y => z x y hx)
    · rw [List.mem_singleton.mp h, List.mem_singleton.mp h']
      exact .inl fun _ z => z
  · rcases List.mem_append.mp hf with h | h
    · exact hs2 f h
    · rw [List.mem_singleton.mp h]; exact ⟨c, by simp, fun _ z => z⟩
  · rcases List.mem_append.mp hl with h | h
    · exact hK.ne l h
    · rw [List.mem_singleton.mp h]; exact hcn
end K74

set_option Elab.async false
set_option linter.all false
set_option maxRecDepth 100000
set_option maxHeartbeats 4000000
/-! Grown trees: the walk. -/
namespace K74
open PySem L2 Ev
open Classical
abbrev growT : E := .cmp .gt (.bi .len (.cons (.var 2) .nil)) (.int 1)
abbrev growB : Ss := (.cons (.asg (.v 4) (.meth (.var 2) .pop (.cons (.call "_law_draw" (.cons (.var 0) (.cons (.bi .len (.cons (.var 2) .nil)) .nil))) .nil))) (.cons (.asg (.v 5) (.meth (.var 2) .pop (.cons (.call "_law_draw" (.cons (.var 0) (.cons (.bi .len (.cons (.var 2) .nil)) .nil))) .nil))) (.cons (.ex (.meth (.var 2) .append (.cons (.bi .tuple (.cons (.bi .sorted (.cons (.bin .add (.var 4) (.var 5)) .nil)) .nil)) .nil))) (.cons (.ite (.cmp .gt (.call "_law_draw" (.cons (.var 0) (.cons (.int 4) .nil))) (.int 0)) (.cons (.ex (.meth (.var 3) .append (.cons (.idx (.var 2) (.una .neg (.int 1))) .nil))) .nil) .nil) .nil))))
theorem lot_bel {n : Nat} (G : List (List Int)) : (MObj.lst (G.map lotW)).bel n := bel_flat (by simp)
theorem pop_step {m1 : Store} {t : Int} (S : St m1 t) {G : List (List Int)} {p : MObj} (hp : p.bel (m1.length + 2)) (ht : t ≤ 1000000) (hG : 1 ≤ G.length ∧ G.length ≤ 4000) {d : Nat} (hd : 1 ≤ d) {n : Nat} (hn : m1.length = n) :
    ∃ a G1 m2 t2, G.Perm (a :: G1) ∧ Fr m1 m2 ∧ St m2 t2 ∧ t2 ≤ t + 1 ∧ ∀ en : En, en[0]? = some (some (.ref 3)) → en[2]? = some (some (.ref n)) → evE prog.subc prog.fieldsOf (callN prog d) (mk prog (callN prog d)) (.meth (.var 2) .pop (.cons (.call "_law_draw" (.cons (.var 0) (.cons (.bi .len (.cons (.var 2) .nil)) .nil))) .nil)) en (m1 ++ [.lst (G.map lotW), p]) = .ok (lotW a) (m2 ++ [.lst (G1.map lotW), p]) := by
  have hlt := S.lt
  have e0 := at0 hn (.lst (G.map lotW)) [p]
  obtain ⟨v, m2, t2, d1, d2, d3, F2, S2, d4⟩ := draw_in S ht [.lst (G.map lotW), p] (G.length : Int) (by omega) hd
  have hn2 : m2.length = n := F2.len.trans hn
  obtain ⟨a, G1, pm, hpop⟩ := pop_typed lotW (M := m2 ++ [.lst (G.map lotW), p]) (n := n) (at0 hn2 _ _) d2 d3
  rw [put0 hn2] at hpop
  refine ⟨a, G1, m2, t2, pm, F2, S2, d4, fun en z0 z2 => ?_⟩
  have C2 := (F2.ch S2).app [.lst (G.map lotW), p]
  have C3 : Ch (m1 ++ [.lst (G.map lotW), p]) (m2 ++ [.lst (G1.map lotW), p]) := (F2.ch S2).app2 (lot_bel _) hp
  have hlen0 := len_lst (m1 ++ [.lst (G.map lotW), p]) e0
  rw [List.length_map] at hlen0
  have r0 := recv_pop (m1 ++ [.lst (G.map lotW), p]) e0
  have g1 := gc_ch C2 (w := .int v) (by simp)
  have g2 := gc_ch C3 (w := lotW a) (by simp)
  generalize hM : m1 ++ [.lst (G.map lotW), p] = M at *
  have hlm : 3 < M.length := by rw [← hM]; simp; omega
  have hln : n < M.length := by rw [← hM]; simp; omega
  have v0 : evE prog.subc prog.fieldsOf (callN prog d) (mk prog (callN prog d)) (.var 0) en M = .ok (.ref 3) M := evE_var (h := z0) ..
  have v2 : evE prog.subc prog.fieldsOf (callN prog d) (mk prog (callN prog d)) (.var 2) en M = .ok (.ref n) M := evE_var (h := z2) ..
  simp [v0, v2, r0, hlen0, d1, g1, hpop, g2]
theorem atI_last {α : Type} (l : List α) (x : α) : L2.atI (l ++ [x]) (-1) = some x := by
  have h2 : (l ++ [x]).length = l.length + 1 := by simp
  unfold L2.atI L2.ixN
  rw [if_neg (by decide), h2, if_pos (by omega)]
  have h3 : ((-1 : Int) + ((l.length + 1 : Nat) : Int)).toNat = l.length := by omega
  rw [Option.bind_some, h3]
  simp
theorem turn {m1 : Store} {t : Int} (S : St m1 t) {G K : List (List Int)} (ht : t + 3 ≤ 1000000) (hG : 2 ≤ G.length ∧ G.length ≤ 4000) (hsz : siz G ≤ 4000) (hK : K.length ≤ 4000) {d : Nat} (hd : 1 ≤ d) {n : Nat} (hn : m1.length = n) (many : Int) :
    ∃ a b G2 K2 m2 t2, G.Perm (a :: b :: G2) ∧ (K2 = K ∨ K2 = K ++ [srt ltI (a ++ b)]) ∧ Fr m1 m2 ∧ St m2 t2 ∧ t2 ≤ t + 3 ∧
      evSs prog.subc prog.fieldsOf (callN prog d) (mk prog (callN prog d)) growB [some (.ref 3), some (.int many), some (.ref n), some (.ref (n + 1)), none, none, none, none] (m1 ++ [.lst (G.map lotW), .lst (K.map lotW)]) = .nx [some (.ref 3), some (.int many), some (.ref n), some (.ref (n + 1)), some (lotW a), some (lotW b), none, none] (m2 ++ [.lst ((G2 ++ [srt ltI (a ++ b)]).map lotW), .lst (K2.map lotW)]) := by
  obtain ⟨a, G1, m2, t2, p1, F1, S1, ht1, s1⟩ := pop_step S (G := G) (p := .lst (K.map lotW)) (lot_bel _) (by omega) (by omega) hd hn
  have l1 := p1.length_eq
  simp at l1
  have hn2 : m2.length = n := F1.len.trans hn
  obtain ⟨b, G2, m3, t3, p2, F2, S2, ht2, s2⟩ := pop_step S1 (G := G1) (p := .lst (K.map lotW)) (lot_bel _) (by omega) (by omega) hd hn2
  have l2 := p2.length_eq
  simp at l2
  have hn3 : m3.length = n := F2.len.trans hn2
  have pp : G.Perm (a :: b :: G2) := p1.trans (List.Perm.cons a p2)
  have hab : a.length + b.length ≤ 4000 := by
    have := siz_perm pp
    simp [siz] at this hsz
    omega
  obtain ⟨c, hc⟩ : ∃ c, c = srt ltI (a ++ b) := ⟨_, rfl⟩
  have hs : sortW ((a ++ b).map W.int) = c.map W.int := by rw [sortW_map lt_int, hc]
  obtain ⟨v, m4, t4, d1, d2, d3, F3, S3, d4⟩ := draw_in S2 (by omega) [.lst ((G2 ++ [c]).map lotW), .lst (K.map lotW)] 4 (by omega) hd
  have hn4 : m4.length = n := F3.len.trans hn3
  refine ⟨a, b, G2, if 0 < v then K ++ [c] else K, m4, t4, pp, by rw [← hc]; split <;> simp, (F1.trans F2).trans F3, S3, by omega, ?_⟩
  have T1 := s1 [some (.ref 3), some (.int many), some (.ref n), some (.ref (n + 1)), none, none, none, none] rfl rfl
  have T2 := s2 [some (.ref 3), some (.int many), some (.ref n), some (.ref (n + 1)), some (lotW a), none, none, none] rfl rfl
  have f4 := at0 hn3 (.lst (G2.map lotW)) [.lst (K.map lotW)]
  have r4 := recv_app (m3 ++ [.lst (G2.map lotW), .lst (K.map lotW)]) f4
  have a4 := mt_app (m3 ++ [.lst (G2.map lotW), .lst (K.map lotW)]) f4 (by rw [List.length_map]; omega) (lotW c)
  rw [put0 hn3] at a4
  have C5 : Ch (m3 ++ [.lst (G2.map lotW), .lst (K.map lotW)]) (m3 ++ [.lst ((G2 ++ [c]).map lotW), .lst (K.map lotW)]) := (Ch.refl m3).app2 (lot_bel _) (lot_bel _)
  have g5 := gc_ch C5 (w := .non) (by simp)
  have C6 := (F3.ch S3).app [.lst ((G2 ++ [c]).map lotW), .lst (K.map lotW)]
  have g6 := gc_ch C6 (w := .int v) (by simp)
  have gb := fun b => gc_ch C6 (w := .bl b) (by simp)
  have f6 := at0 hn4 (.lst ((G2 ++ [c]).map lotW)) [.lst (K.map lotW)]
  have f7 := at1 hn4 (.lst ((G2 ++ [c]).map lotW)) (.lst (K.map lotW)) []
  have r6 := recv_app (m4 ++ [.lst ((G2 ++ [c]).map lotW), .lst (K.map lotW)]) f7
  have a6 := mt_app (m4 ++ [.lst ((G2 ++ [c]).map lotW), .lst (K.map lotW)]) f7 (by rw [List.length_map]; omega) (lotW c)
  rw [put1 hn4] at a6
  have C7 : Ch (m4 ++ [.lst ((G2 ++ [c]).map lotW), .lst (K.map lotW)]) (m4 ++ [.lst ((G2 ++ [c]).map lotW), .lst ((K ++ [c]).map lotW)]) := (Ch.refl m4).app2 (lot_bel _) (lot_bel _)
  have g7 := gc_ch C7 (w := .non) (by simp)
  have hat : L2.atI ((G2 ++ [c]).map lotW) (-1) = some (lotW c) := by
    rw [List.map_append]
    exact atI_last _ _
  have i6 := idx_lst (m4 ++ [.lst ((G2 ++ [c]).map lotW), .lst (K.map lotW)]) f6 (-1)
  rw [hat] at i6
  have hadd : ∀ M : Store, evBin .add (lotW a) (lotW b) M = .ok (.tup ((a ++ b).map W.int)) M := fun M => by
    simp [lotW]; omega
  have hsort : ∀ M : Store, evSorted (.tup (a.map W.int ++ b.map W.int)) M = .ok (.ref M.length) (M ++ [.lst (c.map W.int)]) := fun M => by
    rw [← List.map_append, sorted_tup _ (cmp_ints _), hs]; rfl
  have htup : ∀ l : List Int, W.tup (l.map W.int) = lotW l := fun _ => rfl
  have ifm : ∀ z : Prop, [Decidable z] → (if z then K ++ [c] else K).map lotW = if z then (K ++ [c]).map lotW else K.map lotW := fun z _ => by split <;> rfl
  rw [← hc]
  have hM4 : ((m3 ++ [.lst (G2.map lotW), .lst (K.map lotW)] : Store)).length = n + 2 := by simp [hn3]
  have hM6 : ((m4 ++ [.lst ((G2 ++ [c]).map lotW), .lst (K.map lotW)] : Store)).length = n + 2 := by simp [hn4]
  have hMd : ((m3 ++ [.lst ((G2 ++ [c]).map lotW), .lst (K.map lotW)] : Store)).length = n + 2 := by simp [hn3]
  have app4 : a4 = a4 := rfl
  have hmm : (G2.map lotW ++ [lotW c]) = (G2 ++ [c]).map lotW := by simp
  have hkk : (K.map lotW ++ [lotW c]) = (K ++ [c]).map lotW := by simp
  rw [hmm] at a4
  rw [hkk] at a6
  clear app4
  by_cases hv : 0 < v
  · simp only [if_pos hv]
    generalize m1 ++ [.lst (G.map lotW), .lst (K.map lotW)] = M0 at *
    generalize m2 ++ [.lst (G1.map lotW), .lst (K.map lotW)] = M2 at *
    generalize m3 ++ [.lst (G2.map lotW), .lst (K.map lotW)] = M3 at *
    generalize m3 ++ [.lst ((G2 ++ [c]).map lotW), .lst (K.map lotW)] = M4 at *
    generalize m4 ++ [.lst ((G2 ++ [c]).map lotW), .lst (K.map lotW)] = M5 at *
    generalize m4 ++ [.lst ((G2 ++ [c]).map lotW), .lst ((K ++ [c]).map lotW)] = M6 at *
    simp [-evE_meth, T1, T2]
    simp [hadd, hsort, htup, r4, a4, g5, d1, g6, gb, hv, r6, a6, i6, g7]
  · simp only [if_neg hv]
    generalize m1 ++ [.lst (G.map lotW), .lst (K.map lotW)] = M0 at *
    generalize m2 ++ [.lst (G1.map lotW), .lst (K.map lotW)] = M2 at *
    generalize m3 ++ [.lst (G2.map lotW), .lst (K.map lotW)] = M3 at *
    generalize m3 ++ [.lst ((G2 ++ [c]).map lotW), .lst (K.map lotW)] = M4 at *
    generalize m4 ++ [.lst ((G2 ++ [c]).map lotW), .lst (K.map lotW)] = M5 at *
    simp [-evE_meth, T1, T2]
    simp [hadd, hsort, htup, r4, a4, g5, d1, g6, gb, hv, r6, a6, i6, g7]
end K74

set_option Elab.async false
set_option linter.all false
set_option maxRecDepth 100000
set_option maxHeartbeats 4000000
/-! Grown trees: the loop, the call. -/
namespace K74
open PySem L2 Ev
open Classical
theorem rangeI_nodup1 (i n : Int) : (rangeI i n).Nodup := List.pairwise_map.mpr (List.Pairwise.imp (fun {a b} h e => h (by omega)) List.nodup_range)
theorem lots_of {K : List (List Int)} : ∀ {L : List W}, (∀ w ∈ L, w ∈ K.map lotW) → ∃ K2 : List (List Int), L = K2.map lotW ∧ ∀ l ∈ K2, l ∈ K
  | [], _ => ⟨[], rfl, by simp⟩
  | w :: r, h => by
    obtain ⟨K2, h1, h2⟩ := lots_of (L := r) fun u hu => h u (List.mem_cons_of_mem _ hu)
    obtain ⟨l, hl, e⟩ := List.mem_map.mp (h w List.mem_cons_self)
    refine ⟨l :: K2, by rw [List.map_cons, e, h1], fun k hk => ?_⟩
    rcases List.mem_cons.mp hk with rfl | hk
    · exact hl
    · exact h2 k hk
theorem grow_loop {m : Store} {n : Nat} (hn : m.length = n) {o p : MObj} (many : Int) {d : Nat} (hd : 1 ≤ d) : ∀ (k : Nat) (G K : List (List Int)) (m1 : Store) (t : Int), G.length = k → Grp G → Fnd G K → siz G ≤ 4000 → K.length + k ≤ 4000 → Fr m m1 → St m1 t → t + 3 * k ≤ 1000000 →
    ∃ G2 K2 m2 t2, whlN (m ++ [o, p]) [4, 5] (evT prog.subc prog.fieldsOf (callN prog d) (mk prog (callN prog d)) growT) (evSs prog.subc prog.fieldsOf (callN prog d) (mk prog (callN prog d)) growB) (k + 1) [some (.ref 3), some (.int many), some (.ref n), some (.ref (n + 1)), none, none, none, none] (m1 ++ [.lst (G.map lotW), .lst (K.map lotW)]) = some (.nx [some (.ref 3), some (.int many), some (.ref n), some (.ref (n + 1)), none, none, none, none] (m2 ++ [.lst G2, .lst (K2.map lotW)])) ∧ Lam K2 ∧ (∀ l ∈ K2, l ≠ []) ∧ K2.length ≤ K.length + k ∧ Fr m m2 ∧ St m2 t2 ∧ t2 ≤ t + 3 * k
  | k, G, K, m1, t, hk, hG, hK, hsz, hl, F, S, ht => by
    have hlt := S.lt
    have hn1 : m1.length = n := F.len.trans hn
    have e0 := at0 hn1 (.lst (G.map lotW)) [.lst (K.map lotW)]
    have hlen0 := len_lst (m1 ++ [.lst (G.map lotW), .lst (K.map lotW)]) e0
    rw [List.length_map] at hlen0
    have test : evT prog.subc prog.fieldsOf (callN prog d) (mk prog (callN prog d)) growT [some (.ref 3), some (.int many), some (.ref n), some (.ref (n + 1)), none, none, none, none] (m1 ++ [.lst (G.map lotW), .lst (K.map lotW)]) = .ok (decide (1 < G.length)) (m1 ++ [.lst (G.map lotW), .lst (K.map lotW)]) := by
      generalize m1 ++ [.lst (G.map lotW), .lst (K.map lotW)] = M at *
      simp [hlen0]
      omega
    by_cases h2 : 1 < G.length
    · obtain ⟨a, b, G2, K2, m2, t2, pp, hK2, F2, S2, ht2, hb⟩ := turn S (G := G) (K := K) (by omega) (by omega) hsz (by omega) hd hn1 many
      obtain ⟨j1, j2, j3⟩ := join pp hG hK (c := srt ltI (a ++ b)) (fun x => by rw [mem_srt, List.mem_append])
      have hl2 := pp.length_eq
      simp only [List.length_cons] at hl2
      have hsz2 : siz (G2 ++ [srt ltI (a ++ b)]) ≤ 4000 := by
        have := siz_perm pp
        have hc := len_srt (lt := ltI) (a ++ b)
        simp [siz] at this hsz ⊢
        simp at hc
        omega
      have hf : Fnd (G2 ++ [srt ltI (a ++ b)]) K2 := by rcases hK2 with rfl | rfl <;> assumption
      have hkl : K2.length ≤ K.length + 1 := by rcases hK2 with rfl | rfl <;> simp
      obtain ⟨k, rfl⟩ : ∃ j, k = j + 1 := ⟨k - 1, by omega⟩
      have hn2 : m2.length = n := F2.len.trans hn1
      obtain ⟨G3, K3, m3, t3, i1, i2, i3, i4, i5, i6, i7⟩ := grow_loop hn many hd (o := o) (p := p) k (G2 ++ [srt ltI (a ++ b)]) K2 m2 t2 (by simp; omega) j1 hf hsz2 (by omega) (F.trans F2) S2 (by omega)
      refine ⟨G3, K3, m3, t3, ?_, i2, i3, by omega, i5, i6, by omega⟩
      have C5 : Ch (m ++ [o, p]) (m2 ++ [.lst ((G2 ++ [srt ltI (a ++ b)]).map lotW), .lst (K2.map lotW)]) := ((F.trans F2).ch S2).app2 (lot_bel _) (lot_bel _)
      have hg := gcE_ch0 (dead := [4, 5]) (en := [some (.ref 3), some (.int many), some (.ref n), some (.ref (n + 1)), some (lotW a), some (lotW b), none, none]) C5 (by simp; omega)
      rw [whlN, test]
      simp only [decide_eq_true h2]
      rw [hb]
      simp only [hg]
      exact i1
    · exact ⟨_, K, m1, t, by rw [whlN, test, decide_eq_false h2], hK.lam, hK.ne, by omega, F, S, by omega⟩
theorem s_grown {m : Store} {t : Int} (S : St m t) (ht : t ≤ 900000) (many : Int) (hm : 1 ≤ many ∧ many ≤ 100) : ∀ d, 2 ≤ d → ∃ K m' t', callN prog d "_law_grown_lots" [.ref 3, .int many] m = .ok (.tup (K.map lotW)) m' ∧ Lam K ∧ Fr m m' ∧ St m' t' ∧ t' ≤ t + 400 := by
  intro d hd
  obtain ⟨d, rfl⟩ : ∃ e, d = e + 1 := ⟨d - 1, by omega⟩
  obtain ⟨G, hG⟩ : ∃ G : List (List Int), G = (rangeI 1 many).map fun i => [i] := ⟨_, rfl⟩
  have hGl : G.length = (many - 1).toNat := by rw [hG, List.length_map, len_rangeI]
  have hlt := S.lt
  have c1 : evE prog.subc prog.fieldsOf (callN prog d) (mk prog (callN prog d)) (.lc [6] (.tup (.cons (.var 6) .nil)) (.cons (.v 6) (.rng (.cons (.int 1) (.cons (.var 1) .nil))) .none .nil)) [some (.ref 3), some (.int many), none, none, none, none, none, none] m = .ok (.ref m.length) (m ++ [.lst (G.map lotW)]) := by
    rw [lcm (f := W.int) (rangeI 1 many) (fun i => lotW [i]) (it_rng2 (by simp) (by simp) (by decide) (by omega)) (by simp) (fun a _ => ⟨[some (.ref 3), some (.int many), none, none, none, none, some (.int a), none], by simp, by simp [lotW]⟩) (by simp) (by rw [len_rangeI]; simp; omega)]
    rw [hG, List.map_map]; rfl
  have g : (m ++ [.lst (G.map lotW)])[m.length]? = some (.lst (G.map lotW)) := by simp
  obtain ⟨K, m1, t1, k1, k2, F1, S1, ht1⟩ := lcd (subc := prog.subc) (fieldsOf := prog.fieldsOf) (call := callN prog d) (make := mk prog (callN prog d)) (en := [some (.ref 3), some (.int many), some (.ref m.length), none, none, none, none, none]) (m := m) (e := [.lst (G.map lotW)]) (own := [7]) (x := .var 7) (t := .v 7) (it := .of (.var 2)) (c := .cmp .eq (.call "_law_draw" (.cons (.var 0) (.cons (.int 2) .nil))) (.int 0)) lotW G S (by omega)
    (it_lst (n := m.length) (by simp) g (by simp)) (fun m1 F1 => by simp [stillAt]; rw [← F1.len]; simp)
    (fun a _ => ⟨[some (.ref 3), some (.int many), some (.ref m.length), none, none, none, none, some (lotW a)], by simp, fun m1 => by simp, fun m1 t1 F1 S1 h1 => by
      obtain ⟨v, m2, t2, d1, d2, d3, F2, S2, d4⟩ := draw_in S1 h1 [.lst (G.map lotW)] 2 (by omega) (d := d) (by omega)
      refine ⟨decide (v = 0), m2, t2, ?_, F2, S2, d4⟩
      have C := (F2.ch S2).app [.lst (G.map lotW)]
      have g6 := gc_ch C (w := .int v) (by simp)
      have gb := fun b => gc_ch C (w := .bl b) (by simp)
      have hl3 := S1.lt
      have hl4 : 3 < (m1 ++ [MObj.lst (G.map lotW)]).length := by simp; omega
      generalize m1 ++ [.lst (G.map lotW)] = M at *
      simp [d1, g6, gb]⟩) (by simp)
  have hGr : Grp G := by
    rw [hG]
    refine ⟨List.pairwise_map.mpr (List.Pairwise.imp (fun {a b} h x hx => ?_) (rangeI_nodup1 1 many)), fun l hl => ?_⟩
    · rw [List.mem_singleton.mp hx]
      simpa using h
    · obtain ⟨i, _, rfl⟩ := List.mem_map.mp hl; simp
  have hKs : ∀ f ∈ K, f ∈ G := fun f hf => k1.subset hf
  have hF : Fnd G K := by
    refine ⟨fun l hl k hk => ?_, fun f hf => ⟨f, hKs f hf, fun _ h => h⟩, fun l hl => hGr.ne l (hKs l hl)⟩
    have h1 := hKs l hl
    have h2 := hKs k hk
    rw [hG] at h1 h2
    obtain ⟨i, _, rfl⟩ := List.mem_map.mp h1
    obtain ⟨j, _, rfl⟩ := List.mem_map.mp h2
    by_cases hij : i = j
    · subst hij; exact .inl fun _ h => h
    · exact .inr (.inr fun x hx y => hij (by rw [← List.mem_singleton.mp hx, List.mem_singleton.mp y]))
  have hsz : siz G = G.length := by
    rw [hG]
    unfold siz
    rw [List.map_map, List.length_map]
    generalize rangeI 1 many = l
    induction l with
    | nil => rfl
    | cons a r ih => simp at ih ⊢; omega
  have hKl := k1.length_le
  obtain ⟨G2, K2, m2, t2, i1, i2, i3, i4, F2, S2, i7⟩ := grow_loop (m := m1) (n := m.length) F1.len many (d := d) (by omega) (o := .lst (G.map lotW)) (p := .lst (K.map lotW)) G.length G K m1 t1 rfl hGr hF (by omega) (by omega) (Fr.refl m1) S1 (by omega)
  obtain ⟨K3, e3, hK3⟩ := lots_of (K := K2) (L := sortW (K2.map lotW)) fun w hw => mem_sortW.mp hw
  refine ⟨K3, m2, t2, ?_, fun l hl k hk => i2 l (hK3 l hl) k (hK3 k hk), F1.trans F2, S2, by omega⟩
  rw [call_one (df := d__law_grown_lots) rfl rfl]
  have hw := whlW_of i1
  simp only [List.append_assoc, List.cons_append, List.nil_append, List.length_append, List.length_cons, List.length_nil] at k2
  have hn2 : m2.length = m.length := (F1.trans F2).len
  have f7 := at1 hn2 (.lst G2) (.lst (K2.map lotW)) []
  have hs := sorted_lst (m2 ++ [.lst G2, .lst (K2.map lotW)]) f7 (cmp_lots i3)
  rw [e3] at hs
  have g9 := gc_ch1 ((F1.trans F2).ch S2) [.lst G2, .lst (K2.map lotW)] (w := .tup (K3.map lotW)) (by simp)
  simp [d__law_grown_lots, startE, c1, k2]
  rw [evS_whl, hw]
  have hl5 : m.length + 1 < (m2 ++ [MObj.lst G2, MObj.lst (K2.map lotW)]).length := by simp; omega
  generalize m2 ++ [.lst G2, .lst (K2.map lotW)] = M at *
  simp [hs, g9]
end K74

set_option Elab.async false
set_option linter.all false
set_option maxRecDepth 100000
set_option maxHeartbeats 4000000
/-! Counting the quartets of a tree of seven valleys. -/
namespace K74
open PySem L2 Ev
def code (q : Q) : Nat := 2 ^ q.1.1.toNat + 2 ^ q.1.2.toNat + 2 ^ q.2.1.toNat + 2 ^ q.2.2.toNat
def codes : List Nat := [15, 23, 27, 29, 30, 39, 43, 45, 46, 51, 53, 54, 57, 58, 60, 71, 75, 77, 78, 83, 85, 86, 89, 90, 92, 99, 101, 102, 105, 106, 108, 113, 114, 116, 120]
def nums7 : List Int := [0, 1, 2, 3, 4, 5, 6]
def cand7 : List Q := nums7.flatMap fun a => nums7.flatMap fun b => nums7.flatMap fun c => (nums7.map fun d => (((a, b), (c, d)) : Q)).filter (okQ 7)
theorem code_in : ∀ q ∈ cand7, code q ∈ codes := by decide +kernel
def otherB (p q : Q) : Bool := !decide (code p = code q) || decide (p = q) || decide (p = four q.1.1 q.2.1 q.1.2 q.2.2) || decide (p = four q.1.1 q.2.2 q.1.2 q.2.1)
theorem code_inj0 : (cand7.all fun p => cand7.all fun q => otherB p q) = true := by decide +kernel
theorem mem7 {x : Int} (h : 0 ≤ x ∧ x < 7) : x ∈ nums7 := by
  simp [nums7]; omega
theorem okQ_mono {a b : Int} (h : a ≤ b) {q : Q} (hq : okQ a q = true) : okQ b q = true := by
  rw [okQ_iff] at hq ⊢
  omega
theorem mem_cand7 {q : Q} (h : okQ 7 q = true) : q ∈ cand7 := by
  obtain ⟨⟨a, b⟩, ⟨c, d⟩⟩ := q
  have h2 := okQ_iff.mp h
  simp only at h2
  unfold cand7
  refine List.mem_flatMap.mpr ⟨a, mem7 (by omega), List.mem_flatMap.mpr ⟨b, mem7 (by omega), List.mem_flatMap.mpr ⟨c, mem7 (by omega), List.mem_filter.mpr ⟨List.mem_map.mpr ⟨d, mem7 (by omega), rfl⟩, h⟩⟩⟩⟩
theorem nodup_le : ∀ {l D : List Nat}, l.Nodup → (∀ x ∈ l, x ∈ D) → l.length ≤ D.length
  | [], _, _, _ => Nat.zero_le _
  | x :: l, D, hn, hs => by
    obtain ⟨h1, h2⟩ := List.nodup_cons.mp hn
    have hx := hs x List.mem_cons_self
    have := nodup_le (D := D.erase x) h2 fun y hy => (List.mem_erase_of_ne fun e => h1 (by rw [← e]; exact hy)).mpr (hs y (List.mem_cons_of_mem _ hy))
    rw [List.length_erase_of_mem hx] at this
    have := List.length_pos_of_mem hx
    rw [List.length_cons]
    omega
theorem count {L : List Q} (hn : L.Nodup) (hok : ∀ q ∈ L, okQ 7 q = true) (A : Alone L) : L.length ≤ 35 := by
  have h := nodup_le (l := L.map code) (D := codes) (List.pairwise_map.mpr (List.Pairwise.imp_of_mem (fun {p q} hp hq hne e => ?_) hn)) (fun x hx => by
    obtain ⟨q, hq, rfl⟩ := List.mem_map.mp hx
    exact code_in q (mem_cand7 (hok q hq)))
  · rw [List.length_map] at h
    exact h
  · have := List.all_eq_true.mp (List.all_eq_true.mp code_inj0 p (mem_cand7 (hok p hp))) q (mem_cand7 (hok q hq))
    simp only [otherB, Bool.or_eq_true, Bool.not_eq_true', decide_eq_false_iff_not, decide_eq_true_eq] at this
    obtain ⟨a1, a2⟩ := A q hq
    rcases this with ((h | h) | h) | h
    · exact h e
    · exact hne h
    · exact a1 (by rw [← h]; exact hp)
    · exact a2 (by rw [← h]; exact hp)
theorem len_quarts {many : Int} (hm : many ≤ 7) {lots : List (List Int)} (hL : Lam lots) : (quartsOf many lots).length ≤ 35 :=
  count ((rise_filter _ (allQ_rise many)).nodup ordQ) (fun q hq => okQ_mono hm (mem_quarts.mp hq).1) (tree_alone hL)
end K74

set_option Elab.async false
set_option linter.all false
set_option maxRecDepth 100000
set_option maxHeartbeats 4000000
/-! Values that are let out of a call. -/
namespace K74
open PySem L2 Ev
open Classical
theorem s_truth (m : Store) (a b : Bool) : ∀ d, 1 ≤ d → callN prog d "_law_is_truth" [.bl a, .bl b] m = .ok (.bl (a == b)) m := by
  refine call_eq (k := 0) (df := d__law_is_truth) rfl rfl fun d _ => ?_
  simp [d__law_is_truth, startE]
  cases a <;> cases b <;> simp
/-- a value of known kinds, what it names names nothing -/
structure Val (M : Store) (w : W) : Prop where
  dok : dok M w
  flat : ∀ r ∈ w.refs, ∃ o, M[r]? = some o ∧ o.refs = []
  len : ∀ ws, w = .tup ws → ws.length ≤ 75
theorem filterMap_at {α β : Type} (f : α → Option β) : ∀ {l : List α}, (∀ a ∈ l, (f a).isSome = true) → ∀ i : Nat, (l.filterMap f)[i]? = (l[i]?).bind f
  | [], _, i => by simp
  | a :: r, h, i => by
    obtain ⟨b, hb⟩ := Option.isSome_iff_exists.mp (h a List.mem_cons_self)
    rw [List.filterMap_cons, hb]
    cases i with
    | zero => simp [hb]
    | succ i => simp [filterMap_at f fun c hc => h c (List.mem_cons_of_mem _ hc)]
mutual
theorem dok_ren {M M2 : Store} {f : Nat → Nat} : ∀ {w : W}, dok M w → (∀ r ∈ w.refs, M2[f r]? = M[r]?) → dok M2 (w.ren f)
  | .non, _, _ => by simp [W.ren]
  | .bl _, _, _ => by simp [W.ren]
  | .int _, _, _ => by simp [W.ren]
  | .str _, _, _ => by simp [W.ren]
  | .tup ws, h, k => by
    rw [W.ren, dok_tup]
    exact dokL_ren (by simpa using h) (by simpa using k)
  | .ref n, h, k => by
    have := k n (by simp)
    simp only [W.ren, dok] at h ⊢
    rw [this]; exact h
  | .obj _ _, h, _ => by simp [dok] at h
  | .exc _ _, h, _ => by simp [dok] at h
theorem dokL_ren {M M2 : Store} {f : Nat → Nat} : ∀ {ws : List W}, dokL M ws → (∀ r ∈ W.refsL ws, M2[f r]? = M[r]?) → dokL M2 (W.renL f ws)
  | [], _, _ => by simp [W.renL]
  | w :: q, h, k => by
    simp only [dokL_cons] at h
    rw [W.renL, dokL_cons]
    exact ⟨dok_ren h.1 fun r hr => k r (by simp [hr]), dokL_ren h.2 fun r hr => k r (by simp [hr])⟩
end
mutual
theorem refs_ren (f : Nat → Nat) : ∀ w : W, (w.ren f).refs = w.refs.map f
  | .non => by simp [W.ren]
  | .bl _ => by simp [W.ren]
  | .int _ => by simp [W.ren]
  | .str _ => by simp [W.ren]
  | .tup ws => by simp [W.ren, refsL_ren f ws]
  | .ref n => by simp [W.ren]
  | .obj _ ws => by simp [W.ren, refsL_ren f ws]
  | .exc _ ws => by simp [W.ren, refsL_ren f ws]
theorem refsL_ren (f : Nat → Nat) : ∀ ws : List W, W.refsL (W.renL f ws) = (W.refsL ws).map f
  | [] => by simp [W.renL]
  | w :: q => by simp [W.renL, refs_ren f w, refsL_ren f q]
end
theorem len_renL (f : Nat → Nat) : ∀ ws : List W, (W.renL f ws).length = ws.length
  | [] => by simp [W.renL]
  | w :: q => by simp [W.renL, len_renL f q]
theorem mem_ddN {x : Nat} : ∀ {l : List Nat}, x ∈ ddN l ↔ x ∈ l
  | [] => by simp [ddN]
  | y :: l => by
    rw [ddN, List.mem_cons, List.mem_filter, mem_ddN, List.mem_cons]
    by_cases h : x = y <;> simp [h]
theorem Val.ren {M M2 : Store} {f : Nat → Nat} {w : W} (h : Val M w) (k : ∀ r ∈ w.refs, M2[f r]? = M[r]?) : Val M2 (w.ren f) := by
  refine ⟨dok_ren h.dok k, fun r hr => ?_, fun ws e => ?_⟩
  · rw [refs_ren] at hr
    obtain ⟨q, hq, rfl⟩ := List.mem_map.mp hr
    rw [k q hq]
    exact h.flat q hq
  · cases w with
    | tup vs =>
      simp only [W.ren, W.tup.injEq] at e
      rw [← e, len_renL]
      exact h.len vs rfl
    | _ => simp [W.ren] at e
theorem gc_val {m m' e : Store} (C : Ch m m') {w : W} (h : Val (m' ++ e) w) : ∃ w2 e2, gc m (.ok w (m' ++ e)) = .ok w2 (m' ++ e2) ∧ Val (m' ++ e2) w2 ∧ ((∀ r ∈ w.refs, m.length ≤ r) → ∀ r ∈ w2.refs, m.length ≤ r) ∧ ∃ f, w2 = w.ren f := by
  unfold gc
  simp only
  have hmem : ∀ r, r ∈ news m.length [w] ↔ r ∈ w.refs ∧ m.length ≤ r := fun r => by
    unfold news
    rw [mem_ddN, List.mem_filter]
    simp
  rw [if_pos ⟨keep_ch C e, fun r hr => by
    obtain ⟨o, h1, h2⟩ := h.flat r ((hmem r).mp hr).1
    exact ⟨o, h1, fun q hq => by rw [h2] at hq; cases hq⟩⟩]
  have ht : (m' ++ e).take m.length = m' := by rw [← C.len]; simp
  rw [ht]
  refine ⟨_, _, rfl, h.ren fun r hr => ?_, fun hall r hr => by
    rw [refs_ren] at hr
    obtain ⟨q, hq, rfl⟩ := List.mem_map.mp hr
    have := hall q hq
    unfold rn
    rw [if_neg (by omega)]
    omega, _, rfl⟩
  by_cases hlt : r < m.length
  · unfold rn
    rw [if_pos hlt, List.getElem?_append_left (by rw [C.len]; exact hlt), List.getElem?_append_left (by rw [C.len]; exact hlt)]
  · have hin : r ∈ news m.length [w] := (hmem r).mpr ⟨hr, by omega⟩
    unfold rn
    rw [if_neg hlt, List.getElem?_append_right (by rw [C.len]; omega), C.len, Nat.add_sub_cancel_left, filterMap_at _ (fun q hq => by
      obtain ⟨o, h1, _⟩ := h.flat q ((hmem q).mp hq).1
      rw [h1]; rfl)]
    have hi : (news m.length [w])[List.idxOf r (news m.length [w])]? = some r := by
      rw [List.getElem?_eq_getElem (List.idxOf_lt_length_of_mem hin), List.getElem_idxOf]
    rw [hi]; rfl
/-- not let go -/
theorem gc_stay {m M : Store} {k : Nat} {o : MObj} (hk : m.length ≤ k) (ho : M[k]? = some o) (h : ∃ r ∈ o.refs, m.length ≤ r) : gc m (.ok (.ref k) M) = .ok (.ref k) M := by
  unfold gc
  simp only
  rw [if_neg]
  rintro ⟨_, h2⟩
  obtain ⟨o2, e2, b2⟩ := h2 k (by unfold news; rw [mem_ddN, List.mem_filter]; simp [hk])
  rw [ho] at e2
  cases e2
  obtain ⟨r, hr, hm⟩ := h
  have := b2 r hr
  omega
end K74

set_option Elab.async false
set_option linter.all false
set_option maxRecDepth 100000
set_option maxHeartbeats 4000000
/-! Bad values. -/
namespace K74
open PySem L2 Ev
open Classical
@[simp] theorem evE_dct0 {subc : String → String → Option Bool} {fieldsOf : String → List String} {call make : Call} {en : En} {m : Store} : evE subc fieldsOf call make (.dct .nil) en m = .ok (.ref m.length) (m ++ [.dct []]) := by
  show (Res.bind (evPs subc fieldsOf call make .nil en m) fun kvs m => if (∀ p ∈ kvs, p.1.keyb = true ∧ p.1.isT = false) ∧ kvs.length ≤ 15 then alloc (.dct (kvs.foldl (fun d p => putK p.1 p.2 d) [])) m else .bad) = _
  show (Res.bind (Res.ok ([] : List (W × W)) m) fun kvs m => if (∀ p ∈ kvs, p.1.keyb = true ∧ p.1.isT = false) ∧ kvs.length ≤ 15 then alloc (.dct (kvs.foldl (fun d p => putK p.1 p.2 d) [])) m else .bad) = _
  simp
abbrev x1 : E := (.lst (.cons .non (.cons (.int 5) (.cons (.tup .nil) (.cons (.str "0123") (.cons (.tup (.cons (.tup (.cons (.int 0) (.cons (.int 1) .nil))) (.cons (.tup (.cons (.int 2) (.cons (.var 1) .nil))) .nil))) (.cons (.tup (.cons (.tup (.cons (.int 0) (.cons (.int 1) .nil))) (.cons (.tup (.cons (.int 1) (.cons (.int 2) .nil))) .nil))) (.cons (.tup (.cons (.tup (.cons (.int 1) (.cons (.int 0) .nil))) (.cons (.tup (.cons (.int 2) (.cons (.int 3) .nil))) .nil))) (.cons (.tup (.cons (.tup (.cons (.int 0) (.cons (.int 1) .nil))) (.cons (.tup (.cons (.int 3) (.cons (.int 2) .nil))) .nil))) (.cons (.dct .nil) .nil))))))))))
abbrev x2 : E := (.bin .add (.var 2) (.lst (.cons (.tup (.cons (.tup (.cons (.int 2) (.cons (.int 3) .nil))) (.cons (.tup (.cons (.int 0) (.cons (.int 1) .nil))) .nil))) (.cons (.lst (.cons (.tup (.cons (.int 0) (.cons (.int 1) .nil))) (.cons (.tup (.cons (.int 2) (.cons (.int 3) .nil))) .nil))) (.cons (.tup (.cons (.lst (.cons (.int 0) (.cons (.int 1) .nil))) (.cons (.tup (.cons (.int 2) (.cons (.int 3) .nil))) .nil))) (.cons (.tup (.cons (.tup (.cons (.int 0) (.cons (.int 1) .nil))) (.cons (.tup (.cons (.int 2) (.cons (.int 3) .nil))) (.cons (.tup (.cons (.int 4) (.cons (.int 5) .nil))) .nil)))) (.cons (.tup (.cons (.tup (.cons (.int 0) (.cons (.int 1) (.cons (.int 2) .nil)))) (.cons (.tup (.cons (.int 3) .nil)) .nil))) .nil)))))))
abbrev x3 : E := (.bin .add (.var 2) (.lst (.cons (.tup (.cons (.tup (.cons (.bl false) (.cons (.int 1) .nil))) (.cons (.tup (.cons (.int 2) (.cons (.int 3) .nil))) .nil))) (.cons (.tup (.cons (.tup (.cons (.int 0) (.cons (.bl true) .nil))) (.cons (.tup (.cons (.int 2) (.cons (.int 3) .nil))) .nil))) (.cons (.tup (.cons (.tup (.cons (.int 0) (.cons (.int 1) .nil))) (.cons (.tup (.cons (.int 2) (.cons .non .nil))) .nil))) (.cons (.tup (.cons (.tup (.cons (.una .neg (.int 1)) (.cons (.int 0) .nil))) (.cons (.tup (.cons (.int 1) (.cons (.int 2) .nil))) .nil))) (.cons (.tup (.cons (.int 0) (.cons (.int 1) (.cons (.int 2) (.cons (.int 3) .nil))))) .nil)))))))
abbrev x4 : E := (.bin .add (.var 2) (.lst (.cons (.tup (.cons (.tup (.cons (.int 0) (.cons (.lst (.cons (.int 1) .nil)) .nil))) (.cons (.tup (.cons (.int 2) (.cons (.int 3) .nil))) .nil))) (.cons (.tup (.cons (.tup (.cons (.int 0) (.cons (.int 1) .nil))) (.cons (.tup (.cons (.dct .nil) (.cons (.int 3) .nil))) .nil))) (.cons (.tup (.cons (.tup (.cons (.int 0) (.cons (.int 1) .nil))) (.cons (.tup (.cons (.int 2) (.cons (.tup (.cons (.int 3) .nil)) .nil))) .nil))) .nil)))))
abbrev x5 : E := (.bin .add (.var 2) (.lst (.cons (.tup (.cons (.tup (.cons (.int 0) (.cons (.int 0) .nil))) (.cons (.tup (.cons (.int 1) (.cons (.int 2) .nil))) .nil))) (.cons (.tup (.cons (.tup (.cons (.int 0) (.cons (.int 1) .nil))) .nil)) .nil))))
abbrev pr (a b : Int) : W := .tup [.int a, .int b]
def B1 (n : Nat) (many : Int) : List W := [.non, .int 5, .tup [], .str (Str.ofString "0123"), .tup [pr 0 1, pr 2 many], .tup [pr 0 1, pr 1 2], .tup [pr 1 0, pr 2 3], .tup [pr 0 1, pr 3 2], .ref n]
def B2 (n : Nat) : List W := [.tup [pr 2 3, pr 0 1], .ref n, .tup [.ref (n + 1), pr 2 3], .tup [pr 0 1, pr 2 3, pr 4 5], .tup [.tup [.int 0, .int 1, .int 2], .tup [.int 3]]]
def B3 : List W := [.tup [.tup [.bl false, .int 1], pr 2 3], .tup [.tup [.int 0, .bl true], pr 2 3], .tup [pr 0 1, .tup [.int 2, .non]], .tup [pr (-1) 0, pr 1 2], .tup [.int 0, .int 1, .int 2, .int 3]]
def B4 (n : Nat) : List W := [.tup [.tup [.int 0, .ref n], pr 2 3], .tup [pr 0 1, .tup [.ref (n + 1), .int 3]], .tup [pr 0 1, .tup [.int 2, .tup [.int 3]]]]
def B5 : List W := [.tup [pr 0 0, pr 1 2], .tup [pr 0 1]]
section
variable {subc : String → String → Option Bool} {fieldsOf : String → List String} {call make : Call}
theorem b1 (m : Store) (many : Int) (s x : Option W) : evE subc fieldsOf call make x1 [s, some (.int many), x] m = .ok (.ref (m.length + 1)) (m ++ [.dct [], .lst (B1 m.length many)]) := by
  simp [B1]
theorem b2 {m : Store} {a : Nat} {A : List W} (ha : m[a]? = some (.lst A)) (hl : A.length ≤ 100) (s t : Option W) : evE subc fieldsOf call make x2 [s, t, some (.ref a)] m = .ok (.ref (m.length + 3)) (m ++ [.lst [pr 0 1, pr 2 3], .lst [.int 0, .int 1], .lst (B2 m.length), .lst (A ++ B2 m.length)]) := by
  have hlt := lt_of_get ha
  have h2 : (m ++ [.lst [pr 0 1, pr 2 3], .lst [.int 0, .int 1], .lst (B2 m.length)])[a]? = some (.lst A) := get_old ha
  have h3 : (m ++ [.lst [pr 0 1, pr 2 3], .lst [.int 0, .int 1], .lst (B2 m.length)])[m.length + 2]? = some (.lst (B2 m.length)) := by simp
  have hadd := bin_add_lst (m ++ [.lst [pr 0 1, pr 2 3], .lst [.int 0, .int 1], .lst (B2 m.length)]) h2 h3 (by simp [B2]; omega)
  have hg := gc_stay (m := m) (M := m ++ [.lst [pr 0 1, pr 2 3], .lst [.int 0, .int 1], .lst (B2 m.length), .lst (A ++ B2 m.length)]) (k := m.length + 3) (by omega) (by simp; rfl) ⟨m.length, by show _ ∈ W.refsL _; simp [B2], Nat.le_refl _⟩
  simp [B2] at hadd hg ⊢
  rw [hadd]
  simp [hg]
theorem b3 {m : Store} {a : Nat} {A : List W} (ha : m[a]? = some (.lst A)) (hl : A.length ≤ 100) (hb : belowL m.length A) (s t : Option W) : evE subc fieldsOf call make x3 [s, t, some (.ref a)] m = .ok (.ref m.length) (m ++ [.lst (A ++ B3)]) := by
  have hlt := lt_of_get ha
  have h2 : (m ++ [.lst B3])[a]? = some (.lst A) := get_old ha
  have h3 : (m ++ [.lst B3])[m.length]? = some (.lst B3) := by simp
  have hadd := bin_add_lst (m ++ [.lst B3]) h2 h3 (by simp [B3]; omega)
  have hg := gc_new1 m (.lst B3) (o := .lst (A ++ B3)) (by simp [B3]; exact hb)
  simp [B3] at hadd hg ⊢
  rw [hadd]
  simp [hg]
theorem b4 {m : Store} {a : Nat} {A : List W} (ha : m[a]? = some (.lst A)) (hl : A.length ≤ 100) (s t : Option W) : evE subc fieldsOf call make x4 [s, t, some (.ref a)] m = .ok (.ref (m.length + 3)) (m ++ [.lst [.int 1], .dct [], .lst (B4 m.length), .lst (A ++ B4 m.length)]) := by
  have hlt := lt_of_get ha
  have h2 : (m ++ [.lst [.int 1], .dct [], .lst (B4 m.length)])[a]? = some (.lst A) := get_old ha
  have h3 : (m ++ [.lst [.int 1], .dct [], .lst (B4 m.length)])[m.length + 2]? = some (.lst (B4 m.length)) := by simp
  have hadd := bin_add_lst (m ++ [.lst [.int 1], .dct [], .lst (B4 m.length)]) h2 h3 (by simp [B4]; omega)
  have hg := gc_stay (m := m) (M := m ++ [.lst [.int 1], .dct [], .lst (B4 m.length), .lst (A ++ B4 m.length)]) (k := m.length + 3) (by omega) (by simp; rfl) ⟨m.length, by show _ ∈ W.refsL _; simp [B4], Nat.le_refl _⟩
  simp [B4] at hadd hg ⊢
  rw [hadd]
  simp [hg]
theorem b5 {m : Store} {a : Nat} {A : List W} (ha : m[a]? = some (.lst A)) (hl : A.length ≤ 100) (hb : belowL m.length A) (s t : Option W) : evE subc fieldsOf call make x5 [s, t, some (.ref a)] m = .ok (.ref m.length) (m ++ [.lst (A ++ B5)]) := by
  have hlt := lt_of_get ha
  have h2 : (m ++ [.lst B5])[a]? = some (.lst A) := get_old ha
  have h3 : (m ++ [.lst B5])[m.length]? = some (.lst B5) := by simp
  have hadd := bin_add_lst (m ++ [.lst B5]) h2 h3 (by simp [B5]; omega)
  have hg := gc_new1 m (.lst B5) (o := .lst (A ++ B5)) (by simp [B5]; exact hb)
  simp [B5] at hadd hg ⊢
  rw [hadd]
  simp [hg]
end
theorem val_bad {M : Store} {n : Nat} {many : Int} (q0 : M[n]? = some (.dct [])) (q2 : M[n + 2]? = some (.lst [pr 0 1, pr 2 3])) (q3 : M[n + 3]? = some (.lst [.int 0, .int 1])) (q7 : M[n + 7]? = some (.lst [.int 1])) (q8 : M[n + 8]? = some (.dct [])) {w : W} (hw5 : w ∈ B1 n many ++ B2 (n + 2) ++ B3 ++ B4 (n + 7) ++ B5) : Val M w ∧ ∀ r ∈ w.refs, n ≤ r := by
  have k : ∀ w : W, dok M w → (∀ r ∈ w.refs, ∃ o, M[r]? = some o ∧ o.refs = []) → (∀ ws, w = .tup ws → ws.length ≤ 75) → (∀ r ∈ w.refs, n ≤ r) → Val M w ∧ ∀ r ∈ w.refs, n ≤ r := fun w a b c d => ⟨⟨a, b, c⟩, d⟩
  simp [B1, B2, B3, B4, B5] at hw5
  have o1 : (MObj.dct []).refs = [] := by simp [MObj.refs]
  have o2 : (MObj.lst [pr 0 1, pr 2 3]).refs = [] := by simp [MObj.refs]
  have o3 : (MObj.lst [.int 0, .int 1]).refs = [] := by simp [MObj.refs]
  have o4 : (MObj.lst [.int 1]).refs = [] := by simp [MObj.refs]
  rcases hw5 with h | h | h | h | h | h | h | h | h | h | h | h | h | h | h | h | h | h | h | h | h | h | h | h
  all_goals subst h
  all_goals refine k _ ?_ ?_ ?_ ?_
  all_goals first
    | (simp [q0, q2, q3, q7, q8, o1, o2, o3, o4]; done)
    | (simp [dok, q0, q2, q3, q7, q8]; done)
    | (intro ws e; cases e; decide)
    | (intro r hr; simp at hr; omega)
theorem s_bad {m : Store} {t : Int} (S : St m t) (ht : t ≤ 900000) (many : Int) : ∀ d, 3 ≤ d → ∃ w m1 e t1, callN prog d "_law_bad_quartet" [.ref 3, .int many] m = .ok w (m1 ++ e) ∧ Val (m1 ++ e) w ∧ (∀ r ∈ w.refs, m.length ≤ r) ∧ Fr m m1 ∧ St m1 t1 ∧ t1 ≤ t + 1 := by
  intro d hd
  obtain ⟨d, rfl⟩ : ∃ e, d = e + 1 := ⟨d - 1, by omega⟩
  have hlt := S.lt
  have len1 : (m ++ [MObj.dct [], MObj.lst (B1 m.length many)]).length = m.length + 2 := by simp
  have f1 := fun s t => b1 (subc := prog.subc) (fieldsOf := prog.fieldsOf) (call := callN prog d) (make := mk prog (callN prog d)) m many s t
  have f2 := fun s t => b2 (subc := prog.subc) (fieldsOf := prog.fieldsOf) (call := callN prog d) (make := mk prog (callN prog d)) (m := m ++ [.dct [], .lst (B1 m.length many)]) (a := m.length + 1) (A := B1 m.length many) (by simp) (by simp [B1]) s t
  obtain ⟨A2, hA2⟩ : ∃ A2, A2 = B1 m.length many ++ B2 (m.length + 2) := ⟨_, rfl⟩
  obtain ⟨M2, hM2⟩ : ∃ M2 : Store, M2 = m ++ [.dct [], .lst (B1 m.length many)] ++ [.lst [pr 0 1, pr 2 3], .lst [.int 0, .int 1], .lst (B2 (m.length + 2)), .lst A2] := ⟨_, rfl⟩
  rw [len1, ← hA2, ← hM2] at f2
  have len2 : M2.length = m.length + 6 := by rw [hM2]; simp
  have g2 : M2[m.length + 5]? = some (.lst A2) := by rw [hM2]; simp
  have low2 : belowL M2.length A2 := by
    rw [hA2, len2]; intro r hr; simp [B1, B2] at hr; omega
  have f3 := fun s t => b3 (subc := prog.subc) (fieldsOf := prog.fieldsOf) (call := callN prog d) (make := mk prog (callN prog d)) (m := M2) (a := m.length + 5) (A := A2) g2 (by rw [hA2]; simp [B1, B2]) low2 s t
  obtain ⟨A3, hA3⟩ : ∃ A3, A3 = A2 ++ B3 := ⟨_, rfl⟩
  obtain ⟨M3, hM3⟩ : ∃ M3 : Store, M3 = M2 ++ [.lst A3] := ⟨_, rfl⟩
  rw [← hA3, ← hM3, len2] at f3
  have len3 : M3.length = m.length + 7 := by rw [hM3]; simp [len2]
  have g3 : M3[m.length + 6]? = some (.lst A3) := by rw [hM3, ← len2]; simp
  have f4 := fun s t => b4 (subc := prog.subc) (fieldsOf := prog.fieldsOf) (call := callN prog d) (make := mk prog (callN prog d)) (m := M3) (a := m.length + 6) (A := A3) g3 (by rw [hA3, hA2]; simp [B1, B2, B3]) s t
  rw [len3] at f4
  obtain ⟨A4, hA4⟩ : ∃ A4, A4 = A3 ++ B4 (m.length + 7) := ⟨_, rfl⟩
  obtain ⟨M4, hM4⟩ : ∃ M4 : Store, M4 = M3 ++ [.lst [.int 1], .dct [], .lst (B4 (m.length + 7)), .lst A4] := ⟨_, rfl⟩
  rw [← hA4, ← hM4] at f4
  have len4 : M4.length = m.length + 11 := by rw [hM4]; simp [len3]
  have g4 : M4[m.length + 10]? = some (.lst A4) := by rw [hM4, List.getElem?_append_right (by omega), len3]; simp
  have low4 : belowL M4.length A4 := by
    rw [hA4, hA3, hA2, len4]; intro r hr; simp [B1, B2, B3, B4] at hr; omega
  have f5 := fun s t => b5 (subc := prog.subc) (fieldsOf := prog.fieldsOf) (call := callN prog d) (make := mk prog (callN prog d)) (m := M4) (a := m.length + 10) (A := A4) g4 (by rw [hA4, hA3, hA2]; simp [B1, B2, B3, B4]) low4 s t
  obtain ⟨A5, hA5⟩ : ∃ A5, A5 = A4 ++ B5 := ⟨_, rfl⟩
  rw [← hA5, len4] at f5
  have low5 : belowL M4.length A5 := by
    rw [hA5, hA4, hA3, hA2, len4]; intro r hr; simp [B1, B2, B3, B4, B5] at hr; omega
  obtain ⟨e4, he4⟩ : ∃ e4, M4 = m ++ e4 := ⟨_, by rw [hM4, hM3, hM2]; simp only [List.append_assoc]; rfl⟩
  have S5 : St (M4 ++ [.lst A5]) t := by rw [he4]; exact (S.app _).app _
  obtain ⟨w, M5, t5, p1, p2, p3, p4, p5⟩ := s_pick (a := m.length + 11) (ws := A5) S5 (by omega) (by rw [← len4]; simp) (by omega) (by omega) (by rw [hA5]; simp [B5]) (by rw [hA5, hA4, hA3, hA2]; simp [B1, B2, B3, B4, B5]) (fun r hr => by have := low5 r hr; simp; omega) d (by omega)
  obtain ⟨M6, rfl, F6⟩ := p3.split (by rw [len4]; omega)
  rw [he4] at F6
  obtain ⟨m1, hM6, F7⟩ := F6.split hlt
  have S7 : St m1 t5 := (p4.cut (by rw [F6.len]; simp; omega) |> fun z => by rw [hM6] at z; exact z.cut (by rw [F7.len]; exact hlt))
  have C6 : Ch M4 M6 := by
    rw [he4, hM6]; exact (F7.ch S7).app _
  have wlow : ∀ r ∈ w.refs, r < M4.length := fun r hr => low5 r (mem_refsL.mpr ⟨w, p2, hr⟩)
  have g6 := gc_ch1 C6 [.lst A5] (w := w) wlow
  have V : Val (m1 ++ e4) w ∧ ∀ r ∈ w.refs, m.length ≤ r := by
    have hup : ∀ i : Nat, m.length ≤ i → (m1 ++ e4)[i]? = M4[i]? := fun i hi => by
      rw [he4, List.getElem?_append_right (by rw [F7.len]; exact hi), List.getElem?_append_right hi, F7.len]
    have q0 : (m1 ++ e4)[m.length]? = some (.dct []) := by rw [hup _ (by omega), hM4, hM3, hM2]; simp
    have q2 : (m1 ++ e4)[m.length + 2]? = some (.lst [pr 0 1, pr 2 3]) := by rw [hup _ (by omega), hM4, hM3, hM2]; simp
    have q3 : (m1 ++ e4)[m.length + 3]? = some (.lst [.int 0, .int 1]) := by rw [hup _ (by omega), hM4, hM3, hM2]; simp
    have q7 : (m1 ++ e4)[m.length + 7]? = some (.lst [.int 1]) := by rw [hup _ (by omega), hM4, List.getElem?_append_right (by omega), len3]; simp
    have q8 : (m1 ++ e4)[m.length + 8]? = some (.dct []) := by rw [hup _ (by omega), hM4, List.getElem?_append_right (by omega), len3]; simp
    have hw5 := p2
    rw [hA5, hA4, hA3, hA2] at hw5
    exact val_bad q0 q2 q3 q7 q8 hw5
  obtain ⟨w2, e2, v1, v2, v3, _⟩ := gc_val (F7.ch S7) V.1
  refine ⟨w2, m1, e2, t5, ?_, v2, v3 V.2, F7, S7, p5⟩
  rw [call_one (df := d__law_bad_quartet) rfl rfl, ← v1, ← hM6]
  have hlt4 : 3 < M4.length := by omega
  have hx : d__law_bad_quartet.body = .cons (.asg (.v 2) x1) (.cons (.asg (.v 2) x2) (.cons (.asg (.v 2) x3) (.cons (.asg (.v 2) x4) (.cons (.rt (.call "_law_pick" (.cons (.var 0) (.cons x5 .nil)))) .nil)))) := rfl
  rw [hx]
  simp only [Nat.add_assoc, Nat.reduceAdd] at f2 f3 f4 f5
  have z1 : evE prog.subc prog.fieldsOf (callN prog d) (mk prog (callN prog d)) (.call "_law_pick" (.cons (.var 0) (.cons x5 .nil))) [some (.ref 3), some (.int many), some (.ref (m.length + 10))] M4 = .ok w M6 := by
    rw [evE_call, evEs_cons, evE_var (h := rfl), kCons_ok, evEs_cons, f5, kCons_ok, evEs_nil]
    simp only [kCons2_ok, kCall_ok]
    rw [p1, g6]
  have z0 : evSs prog.subc prog.fieldsOf (callN prog d) (mk prog (callN prog d)) (.cons (.asg (.v 2) x1) (.cons (.asg (.v 2) x2) (.cons (.asg (.v 2) x3) (.cons (.asg (.v 2) x4) (.cons (.rt (.call "_law_pick" (.cons (.var 0) (.cons x5 .nil)))) .nil))))) [some (.ref 3), some (.int many), none] m = .rt w M6 := by
    rw [evSs_cons, evS_asg, f1, kAsg_ok, bindT_v, if_pos (by simp), kAsg2_some, thn1]
    rw [evSs_cons, evS_asg, List.set, List.set, List.set, f2, kAsg_ok, bindT_v, if_pos (by simp), kAsg2_some, thn1]
    rw [evSs_cons, evS_asg, List.set, List.set, List.set, f3, kAsg_ok, bindT_v, if_pos (by simp), kAsg2_some, thn1]
    rw [evSs_cons, evS_asg, List.set, List.set, List.set, f4, kAsg_ok, bindT_v, if_pos (by simp), kAsg2_some, thn1]
    rw [evSs_cons, evS_rt, List.set, List.set, List.set, z1, kRt_ok, thn2]
  show gc m (outD (evSs prog.subc prog.fieldsOf (callN prog d) (mk prog (callN prog d)) _ [some (.ref 3), some (.int many), none] m)) = _
  rw [z0, outD2]
end K74

set_option Elab.async false
set_option linter.all false
set_option maxRecDepth 100000
set_option maxHeartbeats 4000000
/-! Bent lots. -/
namespace K74
open PySem L2 Ev
open Classical
abbrev bn0 : Ev.S := (.asg (.t [(.v 3), (.v 4)]) (.tup (.cons (.call "_law_draw" (.cons (.var 0) (.cons (.int 8) .nil))) (.cons (.bi .list (.cons (.var 2) .nil)) .nil))))
abbrev bn1 : Ev.S := (.ite (.cmp .eq (.var 3) (.int 0)) (.cons (.asg (.v 5) (.lst (.cons .non (.cons (.var 4) (.cons (.dct .nil) (.cons (.str "0123") (.cons (.bin .add (.var 2) (.tup (.cons .non .nil))) (.cons (.int 5) (.cons (.bl true) (.cons (.bin .add (.var 2) (.slc (.var 2) .none (.some (.int 1)))) .nil)))))))))) (.cons (.rt (.call "_law_pick" (.cons (.var 0) (.cons (.bin .add (.var 5) (.lst (.cons (.tup (.cons (.var 2) .nil)) (.cons (.tup (.cons (.tup (.cons (.int 0) (.cons (.int 1) .nil))) (.cons (.tup (.cons (.int 2) (.cons (.int 3) .nil))) .nil))) .nil)))) .nil)))) .nil)) .nil)
abbrev bn1t : Ss := (.cons (.asg (.v 5) (.lst (.cons .non (.cons (.var 4) (.cons (.dct .nil) (.cons (.str "0123") (.cons (.bin .add (.var 2) (.tup (.cons .non .nil))) (.cons (.int 5) (.cons (.bl true) (.cons (.bin .add (.var 2) (.slc (.var 2) .none (.some (.int 1)))) .nil)))))))))) (.cons (.rt (.call "_law_pick" (.cons (.var 0) (.cons (.bin .add (.var 5) (.lst (.cons (.tup (.cons (.var 2) .nil)) (.cons (.tup (.cons (.tup (.cons (.int 0) (.cons (.int 1) .nil))) (.cons (.tup (.cons (.int 2) (.cons (.int 3) .nil))) .nil))) .nil)))) .nil)))) .nil))
abbrev bn2 : Ev.S := (.asg (.v 6) (.call "_law_quartets_of" (.cons (.var 1) (.cons (.call "_law_grown_lots" (.cons (.var 0) (.cons (.var 1) .nil))) .nil))))
abbrev bn3 : Ev.S := (.ite (.cmp .eq (.var 3) (.int 1)) (.cons (.rt (.bi .tuple (.cons (.lc [8] (.var 8) (.cons (.v 8) (.of (.var 2)) (.some (.cmp .inn (.var 8) (.var 6))) .nil)) .nil))) .nil) .nil)
abbrev bn3t : Ss := (.cons (.rt (.bi .tuple (.cons (.lc [8] (.var 8) (.cons (.v 8) (.of (.var 2)) (.some (.cmp .inn (.var 8) (.var 6))) .nil)) .nil))) .nil)
abbrev bn4 : Ev.S := (.ite (.cmp .eq (.var 3) (.int 2)) (.cons (.rt (.bi .tuple (.cons (.bi .sortset (.cons (.bin .add (.var 4) (.var 6)) .nil)) .nil))) .nil) .nil)
abbrev bn4t : Ss := (.cons (.rt (.bi .tuple (.cons (.bi .sortset (.cons (.bin .add (.var 4) (.var 6)) .nil)) .nil))) .nil)
abbrev bn5 : Ev.S := (.ite (.cmp .eq (.var 3) (.int 3)) (.cons (.rt (.bi .tuple (.cons (.call "_law_mixed" (.cons (.var 0) (.cons (.var 4) .nil))) .nil))) .nil) .nil)
abbrev bn5t : Ss := (.cons (.rt (.bi .tuple (.cons (.call "_law_mixed" (.cons (.var 0) (.cons (.var 4) .nil))) .nil))) .nil)
abbrev bn6 : Ev.S := (.ite (.and (.cmp .eq (.var 3) (.int 4)) (.cmp .ne (.var 4) (.lst .nil))) (.cons (.aset (.var 4) (.call "_law_draw" (.cons (.var 0) (.cons (.bi .len (.cons (.var 4) .nil)) .nil))) (.call "_law_bad_quartet" (.cons (.var 0) (.cons (.var 1) .nil)))) (.cons (.rt (.bi .tuple (.cons (.var 4) .nil))) .nil)) .nil)
abbrev bn6t : Ss := (.cons (.aset (.var 4) (.call "_law_draw" (.cons (.var 0) (.cons (.bi .len (.cons (.var 4) .nil)) .nil))) (.call "_law_bad_quartet" (.cons (.var 0) (.cons (.var 1) .nil)))) (.cons (.rt (.bi .tuple (.cons (.var 4) .nil))) .nil))
abbrev bn7 : Ev.S := (.for_ (.v 7) (.rng (.cons (.bin .add (.int 1) (.call "_law_draw" (.cons (.var 0) (.cons (.int 2) .nil)))) .nil)) (.cons (.asg (.v 8) (.call "_law_pick" (.cons (.var 0) (.cons (.call "_law_quartets" (.cons (.var 1) .nil)) .nil)))) (.cons (.asg (.v 4) (.ite (.cmp .inn (.var 8) (.var 4)) (.lc [9] (.var 9) (.cons (.v 9) (.of (.var 4)) (.some (.cmp .ne (.var 9) (.var 8))) .nil)) (.bin .add (.var 4) (.lst (.cons (.var 8) .nil))))) .nil)) [7, 8])
abbrev bn8 : Ev.S := (.rt (.bi .tuple (.cons (.bi .sorted (.cons (.var 4) .nil)) .nil)))
theorem bn_body : d__law_bent_lot.body = .cons bn0 (.cons bn1 (.cons bn2 (.cons bn3 (.cons bn4 (.cons bn5 (.cons bn6 (.cons bn7 (.cons bn8 (.nil))))))))) := rfl
def Out (r : SR) (m : Store) (t k : Int) : Prop := ∃ w m2 e t2, r = .rt w (m2 ++ e) ∧ Val (m2 ++ e) w ∧ Fr m m2 ∧ St m2 t2 ∧ t2 ≤ t + k
mutual
theorem dok_pi {M : Store} : ∀ {w : W}, w.pi = true → dok M w
  | .non, _ => by simp
  | .bl _, _ => by simp
  | .int _, _ => by simp
  | .str _, _ => by simp
  | .tup ws, h => by rw [dok_tup]; exact dokL_pi (by simpa using h)
  | .ref _, h => by simp [W.pi] at h
  | .obj _ _, h => by simp [W.pi] at h
  | .exc _ _, h => by simp [W.pi] at h
theorem dokL_pi {M : Store} : ∀ {ws : List W}, W.piL ws = true → dokL M ws
  | [], _ => by simp
  | w :: r, h => by
    simp only [piL_cons, Bool.and_eq_true] at h
    exact (dokL_cons M w r).mpr ⟨dok_pi h.1, dokL_pi h.2⟩
end
theorem val_flat {M : Store} {w : W} (h : w.pi = true) (hl : ∀ ws, w = .tup ws → ws.length ≤ 75) : Val M w := ⟨dok_pi h, fun r hr => absurd hr (by rw [pi_refs h]; simp), hl⟩
section
variable {d : Nat} {m1 : Store} {t : Int} (S : St m1 t) (ht : t ≤ 800000) {L : List Q} (hL : L.length ≤ 35) {n : Nat} (hn : m1.length = n) (many v : Int)
def e1 (L : List Q) (n : Nat) (many v : Int) (x : Option W) : En := [some (.ref 3), some (.int many), some (.tup (L.map qW)), some (.int v), some (.ref n), none, x, none, none, none]
include S ht hL hn in
theorem bent_0 (hd : 2 ≤ d) : Out (evSs prog.subc prog.fieldsOf (callN prog d) (mk prog (callN prog d)) bn1t (e1 L n many v none) (m1 ++ [.lst (L.map qW)])) m1 t 1 := by
  obtain ⟨Bd, hBd⟩ : ∃ Bd : List W, Bd = [.non, .ref n, .ref (n + 1), .str (Str.ofString "0123"), .tup (L.map qW ++ [.non]), .int 5, .bl true, .tup (L.map qW ++ (L.map qW).take 1)] := ⟨_, rfl⟩
  obtain ⟨Be, hBe⟩ : ∃ Be : List W, Be = [.tup [.tup (L.map qW)], .tup [pr 0 1, pr 2 3]] := ⟨_, rfl⟩
  have hlt := S.lt
  have hlr : W.refsL (L.map qW) = [] := by simp
  have hlt1 : W.refsL ((L.map qW).take 1) = [] := refsL_take 1 hlr
  obtain ⟨M1, hM1⟩ : ∃ M1, M1 = m1 ++ [.lst (L.map qW)] := ⟨_, rfl⟩
  have len1 : M1.length = n + 1 := by rw [hM1]; simp [hn]
  have q1 : evE prog.subc prog.fieldsOf (callN prog d) (mk prog (callN prog d)) (.lst (.cons .non (.cons (.var 4) (.cons (.dct .nil) (.cons (.str "0123") (.cons (.bin .add (.var 2) (.tup (.cons .non .nil))) (.cons (.int 5) (.cons (.bl true) (.cons (.bin .add (.var 2) (.slc (.var 2) .none (.some (.int 1)))) .nil))))))))) (e1 L n many v none) M1 = .ok (.ref (n + 2)) (M1 ++ [.dct [], .lst Bd]) := by
    have c1 : L.length + 1 ≤ 16777216 := by omega
    have c2 : ∀ k : Nat, L.length + min k L.length ≤ 16777216 := fun k => by omega
    simp [e1, len1, hlr, hlt1, c1, c2]
    rw [hBd]
  obtain ⟨M2, hM2⟩ : ∃ M2, M2 = M1 ++ [.dct [], .lst Bd] := ⟨_, rfl⟩
  have len2 : M2.length = n + 3 := by rw [hM2]; simp [len1]
  rw [← hM2] at q1
  have a2 : M2[n + 2]? = some (.lst Bd) := by rw [hM2, List.getElem?_append_right (by omega), len1]; simp
  have lowB : belowL M2.length (Bd ++ Be) := by
    rw [hBd, hBe, len2]; intro r hr; simp [hlr, hlt1] at hr; omega
  have q2 : evE prog.subc prog.fieldsOf (callN prog d) (mk prog (callN prog d)) (.bin .add (.var 5) (.lst (.cons (.tup (.cons (.var 2) .nil)) (.cons (.tup (.cons (.tup (.cons (.int 0) (.cons (.int 1) .nil))) (.cons (.tup (.cons (.int 2) (.cons (.int 3) .nil))) .nil))) .nil)))) ((e1 L n many v none).set 5 (some (.ref (n + 2)))) M2 = .ok (.ref (n + 3)) (M2 ++ [.lst (Bd ++ Be)]) := by
    have h3 : (M2 ++ [.lst Be])[M2.length]? = some (.lst Be) := by simp
    have hadd := bin_add_lst (M2 ++ [.lst Be]) (get_old a2) h3 (by rw [hBd, hBe]; simp)
    have hg := gc_new1 M2 (.lst Be) (o := .lst (Bd ++ Be)) (by rw [bel_lst]; exact lowB)
    simp [e1]
    rw [← hBe, hadd]
    rw [len2] at hg
    simp [hg, len2]
  have S3 : St (M2 ++ [.lst (Bd ++ Be)]) t := by rw [hM2, hM1]; exact (((S.app _).app _).app _)
  obtain ⟨w, M5, t5, p1, p2, p3, p4, p5⟩ := s_pick (a := n + 3) (ws := Bd ++ Be) S3 (by omega) (by rw [← len2]; simp) (by omega) (by omega) (by rw [hBe]; simp) (by rw [hBd, hBe]; simp) (fun r hr => by have := lowB r hr; simp; omega) d (by omega)
  obtain ⟨M6, rfl, F6⟩ := p3.split (by omega)
  obtain ⟨e2, he2⟩ : ∃ e2, M2 = m1 ++ e2 := ⟨_, by rw [hM2, hM1]; simp only [List.append_assoc]; rfl⟩
  rw [he2] at F6
  obtain ⟨m2, hM6, F7⟩ := F6.split hlt
  have S7 : St m2 t5 := (p4.cut (by rw [F6.len]; simp; omega) |> fun z => by rw [hM6] at z; exact z.cut (by rw [F7.len]; exact hlt))
  have C6 : Ch M2 M6 := by
    rw [he2, hM6]; exact (F7.ch S7).app _
  have wlow : ∀ r ∈ w.refs, r < M2.length := fun r hr => lowB r (mem_refsL.mpr ⟨w, p2, hr⟩)
  have g6 := gc_ch1 C6 [.lst (Bd ++ Be)] (w := w) wlow
  have hup : ∀ i : Nat, n ≤ i → (m2 ++ e2)[i]? = M2[i]? := fun i hi => by
    rw [he2, List.getElem?_append_right (by rw [F7.len]; omega), List.getElem?_append_right (by omega), F7.len]
  have u0 : (m2 ++ e2)[n]? = some (.lst (L.map qW)) := by rw [hup _ (by omega), hM2, hM1, ← hn]; simp
  have u1 : (m2 ++ e2)[n + 1]? = some (.dct []) := by rw [hup _ (by omega), hM2, ← len1]; simp
  have V : Val (m2 ++ e2) w := by
    rw [hBd, hBe] at p2
    generalize m2 ++ e2 = M at u0 u1
    have k : ∀ w : W, dok M w → (∀ r ∈ w.refs, ∃ o, M[r]? = some o ∧ o.refs = []) → (∀ ws, w = .tup ws → ws.length ≤ 75) → Val M w := fun w a b c => ⟨a, b, c⟩
    have o1 : (MObj.dct []).refs = [] := by simp [MObj.refs]
    have o2 : (MObj.lst (L.map qW)).refs = [] := by simp [MObj.refs]
    have dk : dokL M (L.map qW) := dokL_pi (by simp)
    have dk1 : dokL M (L.map qW ++ [.non]) := dokL_iff.mpr fun w hw => by
      rcases List.mem_append.mp hw with h | h
      · exact dokL_iff.mp dk w h
      · rw [List.mem_singleton.mp h]; simp
    have dk2 : dokL M (L.map qW ++ (L.map qW).take 1) := dokL_iff.mpr fun w hw => by
      rcases List.mem_append.mp hw with h | h
      · exact dokL_iff.mp dk w h
      · exact dokL_iff.mp dk w (List.mem_of_mem_take h)
    simp only [List.cons_append, List.nil_append, List.mem_cons, List.not_mem_nil, or_false] at p2
    rcases p2 with h | h | h | h | h | h | h | h | h | h
    · subst h; exact k _ (by simp) (by simp) (by simp)
    · subst h; exact k _ (by simp [dok, u0]) (by simp [u0, o2]) (by simp)
    · subst h; exact k _ (by simp [dok, u1]) (by simp [u1, o1]) (by simp)
    · subst h; exact k _ (by simp) (by simp) (by simp)
    · subst h; exact k _ (by rw [dok_tup]; exact dk1) (by simp [hlr]) (by intro ws e; cases e; simp; omega)
    · subst h; exact k _ (by simp) (by simp) (by simp)
    · subst h; exact k _ (by simp) (by simp) (by simp)
    · subst h; exact k _ (by rw [dok_tup]; exact dk2) (by simp [hlr, hlt1]) (by intro ws e; cases e; simp; omega)
    · subst h; exact k _ (by rw [dok_tup, dokL_cons, dok_tup]; exact ⟨dk, by simp⟩) (by simp [hlr]) (by intro ws e; cases e; simp)
    · subst h; exact k _ (by simp) (by simp) (by intro ws e; cases e; simp)
  refine ⟨w, m2, e2, t5, ?_, V, F7, S7, p5⟩
  rw [← hM6, ← hM1]
  have z1 : evE prog.subc prog.fieldsOf (callN prog d) (mk prog (callN prog d)) (.call "_law_pick" (.cons (.var 0) (.cons (.bin .add (.var 5) (.lst (.cons (.tup (.cons (.var 2) .nil)) (.cons (.tup (.cons (.tup (.cons (.int 0) (.cons (.int 1) .nil))) (.cons (.tup (.cons (.int 2) (.cons (.int 3) .nil))) .nil))) .nil)))) .nil))) ((e1 L n many v none).set 5 (some (.ref (n + 2)))) M2 = .ok w M6 := by
    rw [evE_call, evEs_cons, evE_var (h := rfl), kCons_ok, evEs_cons, q2, kCons_ok, evEs_nil]
    simp only [kCons2_ok, kCall_ok]
    rw [p1, g6]
  rw [evSs_cons, evS_asg, q1, kAsg_ok, bindT_v, if_pos (by simp [e1]), kAsg2_some, thn1, evSs_cons, evS_rt, z1, kRt_ok, thn2]
end
end K74

set_option Elab.async false
set_option linter.all false
set_option maxRecDepth 100000
set_option maxHeartbeats 4000000
/-! Bent lots: the other fashions. -/
namespace K74
open PySem L2 Ev
open Classical
theorem gc_ch_new' {m m' : Store} {n : Nat} (F : Ch m m') (hn : m.length = n) {o : MObj} (hb : o.bel n) (e : Store) {k : Nat} (hk : k = n + e.length) : gc m (.ok (.ref k) (m' ++ e ++ [o])) = .ok (.ref n) (m' ++ [o]) := by
  subst hk
  have := gc_ch_new F (e := e ++ [o]) (k := e.length) (o := o) (by simp) (by rw [hn]; exact hb)
  rw [F.len, hn] at this
  simpa using this
section
variable {d : Nat} {m1 : Store} {t : Int} (S : St m1 t) (ht : t ≤ 800000) {L : List Q} (hL : L.length ≤ 35) {n : Nat} (hn : m1.length = n) (many v : Int)
include S ht hL hn in
theorem bent_other (hm : 4 ≤ many ∧ many ≤ 7) (hd : 3 ≤ d) : ∃ K m2 t2, Lam K ∧ Fr m1 m2 ∧ St m2 t2 ∧ t2 ≤ t + 400 ∧ evS prog.subc prog.fieldsOf (callN prog d) (mk prog (callN prog d)) bn2 (e1 L n many v none) (m1 ++ [.lst (L.map qW)]) = .nx (e1 L n many v (some (.ref (n + 1)))) (m2 ++ [.lst (L.map qW), .lst ((quartsOf many K).map qW)]) := by
  have hlt := S.lt
  obtain ⟨K, M2, t2, g1, g2, g3, g4, g5⟩ := s_grown (S.app [.lst (L.map qW)]) (by omega) many (by omega) d (by omega)
  obtain ⟨m2, rfl, F⟩ := g3.split hlt
  have S2 := g4.cut (by rw [F.len]; exact hlt)
  have C := (F.ch S2).app [.lst (L.map qW)]
  refine ⟨K, m2, t2, g2, F, S2, g5, ?_⟩
  have k1 := gc_ch C (w := .tup (K.map lotW)) (by simp)
  have k2 := s_quartets_of (m2 ++ [.lst (L.map qW)]) many K (by omega) d hd
  have k3 := gc_ch_new' C (n := n + 1) (by simp [hn]) (o := .lst ((quartsOf many K).map qW)) (bel_flat (by simp)) [] (k := n + 1) (by simp)
  have len2 : (m2 ++ [MObj.lst (L.map qW)]).length = n + 1 := by simp [F.len, hn]
  rw [len2] at k2
  simp only [List.append_nil] at k3
  rw [evS_asg, evE_call, evEs_cons, evE_var (h := rfl), kCons_ok, evEs_cons, evE_call, evEs_cons, evE_var (h := rfl), kCons_ok, evEs_cons, evE_var (h := rfl), kCons_ok, evEs_nil]
  simp only [kCons2_ok, kCall_ok]
  rw [g1, k1, kCons_ok, evEs_nil]
  simp only [kCons2_ok, kCall_ok]
  rw [k2, k3, kAsg_ok, bindT_v, if_pos (by simp [e1]), kAsg2_some]
  simp [e1]
variable {O : List Q} (hO : O.length ≤ 35)
include S ht hL hn hO
theorem out_flat {w : W} {r : SR} {m2 e : Store} {t2 k : Int} (h : r = .rt w (m2 ++ e)) (hw : w.pi = true) (hl : ∀ ws, w = .tup ws → ws.length ≤ 75) (F : Fr m1 m2) (S2 : St m2 t2) (h2 : t2 ≤ t + k) : Out r m1 t k :=
  ⟨w, m2, e, t2, h, val_flat hw hl, F, S2, h2⟩
theorem bent_1 : Out (evSs prog.subc prog.fieldsOf (callN prog d) (mk prog (callN prog d)) bn3t (e1 L n many v (some (.ref (n + 1)))) (m1 ++ [.lst (L.map qW), .lst (O.map qW)])) m1 t 100 := by
  have f1 := at1 hn (.lst (L.map qW)) (.lst (O.map qW)) []
  have hin : ∀ q, evIn (qW q) (.ref (n + 1)) (m1 ++ [.lst (L.map qW), .lst (O.map qW)]) = some (decide (q ∈ O)) := fun q => by
    rw [in_lst f1 (by simp) (by simp) (by simp) (Nat.le_trans (depL_map qW O (n := 2) (by simp)) (by decide))]
    congr 1
    exact decide_eq_decide.mpr (mem_map_inj qW_inj)
  have hlm := lt_of_get f1
  refine out_flat S ht hL hn hO (w := .tup ((L.filter fun q => decide (q ∈ O)).map qW)) (e := [.lst (L.map qW), .lst (O.map qW)]) ?_ (by simp) (fun ws e => by cases e; have := List.length_filter_le (fun q => decide (q ∈ O)) L; simp at this ⊢; omega) (Fr.refl m1) S (by omega)
  generalize m1 ++ [.lst (L.map qW), .lst (O.map qW)] = M at *
  have c := lcf (subc := prog.subc) (fieldsOf := prog.fieldsOf) (call := callN prog d) (make := mk prog (callN prog d)) (en := e1 L n many v (some (.ref (n + 1)))) (m := M) (own := [8]) (x := .var 8) (t := .v 8) (it := .of (.var 2)) (c := .cmp .inn (.var 8) (.var 6)) (f := qW) L (fun q => decide (q ∈ O)) qW (it_tup (by simp [e1]) (by simp)) (by simp)
    (fun q _ => ⟨(e1 L n many v (some (.ref (n + 1)))).set 8 (some (qW q)), by simp [e1], by simp [e1, hin, hlm], fun _ => by simp [e1]⟩) (by simp) (by simp; omega)
  rw [evSs_cons, evS_rt, evE_bi, evEs_cons, c]
  simp
theorem bent_2 : Out (evSs prog.subc prog.fieldsOf (callN prog d) (mk prog (callN prog d)) bn4t (e1 L n many v (some (.ref (n + 1)))) (m1 ++ [.lst (L.map qW), .lst (O.map qW)])) m1 t 100 := by
  have f0 := at0 hn (.lst (L.map qW)) [.lst (O.map qW)]
  have f1 := at1 hn (.lst (L.map qW)) (.lst (O.map qW)) []
  have hlm := lt_of_get f1
  have hone : (once (L ++ O)).length ≤ 75 := by
    have : (once (L ++ O)).length ≤ (L ++ O).length := by
      have e := len_dedup ((L ++ O).map qW)
      rw [dedup_map qW_inj] at e
      simpa using e
    simp at this
    omega
  refine out_flat S ht hL hn hO (w := .tup ((srt ltQ (once (L ++ O))).map qW)) (e := [.lst (L.map qW), .lst (O.map qW)]) ?_ (by simp) (fun ws e => by cases e; rw [List.length_map, len_srtQ]; exact hone) (Fr.refl m1) S (by omega)
  generalize m1 ++ [.lst (L.map qW), .lst (O.map qW)] = M at *
  have hadd := bin_add_lst M f0 f1 (by simp; omega)
  have hset : evSortset (.ref M.length) (M ++ [.lst (L.map qW ++ O.map qW)]) = .ok (.ref (M.length + 1)) (M ++ [.lst (L.map qW ++ O.map qW), .lst ((srt ltQ (once (L ++ O))).map qW)]) := by
    unfold evSortset
    have : seqOf (M ++ [.lst (L.map qW ++ O.map qW)]) (.ref M.length) = some (L.map qW ++ O.map qW) := by simp [iterOf]
    rw [this]
    simp only [Res.of_some, Res.bind1]
    rw [← List.map_append, dedup_map qW_inj, if_pos ⟨⟨cmp_qs _, isT_qs _⟩, by simp; omega, by simpa using hone⟩, sortW_map lt_qW]
    simp
  simp [e1, hadd, hset]
theorem bent_3 (hd : 2 ≤ d) : Out (evSs prog.subc prog.fieldsOf (callN prog d) (mk prog (callN prog d)) bn5t (e1 L n many v (some (.ref (n + 1)))) (m1 ++ [.lst (L.map qW), .lst (O.map qW)])) m1 t 100 := by
  have hlt := S.lt
  have f0 := at0 hn (.lst (L.map qW)) [.lst (O.map qW)]
  obtain ⟨us, M2, t2, g1, g2, g3, g4, g5, g6⟩ := s_mixed (S.app [.lst (L.map qW), .lst (O.map qW)]) f0 (by simp) (Nat.le_trans (depL_map qW L (n := 2) (by simp)) (by decide)) (by simp; omega) (by simp; omega) d hd
  obtain ⟨m2, rfl, F⟩ := g4.split hlt
  have S2 := g5.cut (by rw [F.len]; exact hlt)
  have C := (F.ch S2).app [.lst (L.map qW), .lst (O.map qW)]
  have hpi : W.piL us = true := piL_sub (ws := L.map qW) (by simp) g2
  simp at g3 g6
  refine out_flat S ht hL hn hO (w := .tup us) (e := [.lst (L.map qW), .lst (O.map qW)]) ?_ (by simp [hpi]) (fun ws e => by cases e; omega) F S2 (by omega)
  have k3 := gc_ch_new' C (n := n + 2) (by simp [hn]) (o := .lst us) (bel_pi hpi) [] (k := n + 2) (by simp)
  have len2 : (m1 ++ [MObj.lst (L.map qW), MObj.lst (O.map qW)]).length = n + 2 := by simp [hn]
  have len3 : (m2 ++ [MObj.lst (L.map qW), MObj.lst (O.map qW)]).length = n + 2 := by simp [F.len, hn]
  have k4 := gc_ch1 C [.lst us] (w := .tup us) (by simp [piL_refs hpi])
  rw [len2] at g1
  simp only [List.append_nil] at k3
  have u1 : (m2 ++ [.lst (L.map qW), .lst (O.map qW)] ++ [.lst us])[n + 2]? = some (.lst us) := at0 len3 _ _
  generalize m1 ++ [.lst (L.map qW), .lst (O.map qW)] = M at *
  generalize m2 ++ [.lst (L.map qW), .lst (O.map qW)] = M2 at *
  rw [evSs_cons, evS_rt, evE_bi, evEs_cons, evE_call, evEs_cons, evE_var (h := rfl), kCons_ok, evEs_cons, evE_var (h := rfl), kCons_ok, evEs_nil]
  simp only [kCons2_ok, kCall_ok]
  rw [g1, k3, kCons_ok, evEs_nil]
  simp [u1, k4]
end
end K74

set_option Elab.async false
set_option linter.all false
set_option maxRecDepth 100000
set_option maxHeartbeats 4000000
/-! Bent lots: a bad one put in; some taken out or put in. -/
namespace K74
open PySem L2 Ev
open Classical
mutual
theorem ren_id : ∀ w : W, w.ren id = w
  | .non => by simp [W.ren]
  | .bl _ => by simp [W.ren]
  | .int _ => by simp [W.ren]
  | .str _ => by simp [W.ren]
  | .tup ws => by rw [W.ren, renL_id ws]
  | .ref n => by simp [W.ren]
  | .obj _ ws => by rw [W.ren, renL_id ws]
  | .exc _ ws => by rw [W.ren, renL_id ws]
theorem renL_id : ∀ ws : List W, W.renL id ws = ws
  | [] => by simp [W.renL]
  | w :: q => by rw [W.renL, ren_id w, renL_id q]
end
section
variable {d : Nat} {m1 : Store} {t : Int} (S : St m1 t) (ht : t ≤ 800000) {L : List Q} (hL : L.length ≤ 35) {n : Nat} (hn : m1.length = n) (many v : Int) {O : List Q} (hO : O.length ≤ 35)
include S ht hL hn hO
theorem bent_4 (hne : L ≠ []) (hd : 3 ≤ d) : Out (evSs prog.subc prog.fieldsOf (callN prog d) (mk prog (callN prog d)) bn6t (e1 L n many v (some (.ref (n + 1)))) (m1 ++ [.lst (L.map qW), .lst (O.map qW)])) m1 t 100 := by
  have hlt := S.lt
  have hpos : 0 < L.length := List.length_pos_iff.mpr hne
  have len1 : (m1 ++ [MObj.lst (L.map qW), MObj.lst (O.map qW)]).length = n + 2 := by simp [hn]
  obtain ⟨w, M2, e, t2, g1, g2, g3, g4, g5, g6⟩ := s_bad (S.app [.lst (L.map qW), .lst (O.map qW)]) (by omega) many d hd
  obtain ⟨m2, rfl, F⟩ := g4.split hlt
  have S2 := g5.cut (by rw [F.len]; exact hlt)
  have C := (F.ch S2).app [.lst (L.map qW), .lst (O.map qW)]
  obtain ⟨w2, e2, v1, v2, v3, _⟩ := gc_val C g2
  have v3 := v3 g3
  rw [len1] at v3
  have hn2 : m2.length = n := F.len.trans hn
  obtain ⟨r, m3, t3, d1, d2, d3, F3, S3, d4⟩ := draw_in S2 (by omega) (MObj.lst (L.map qW) :: MObj.lst (O.map qW) :: e2) (L.length : Int) (by omega) (d := d) (by omega)
  have hn3 : m3.length = n := F3.len.trans hn2
  have C3 := (F3.ch S3).app (MObj.lst (L.map qW) :: MObj.lst (O.map qW) :: e2)
  have g7 := gc_ch C3 (w := .int r) (by simp)
  have f3 := at0 hn3 (.lst (L.map qW)) (.lst (O.map qW) :: e2)
  have f2 := at0 hn2 (.lst (L.map qW)) (.lst (O.map qW) :: e2)
  have hlen0 := len_lst (m2 ++ MObj.lst (L.map qW) :: MObj.lst (O.map qW) :: e2) f2
  rw [List.length_map] at hlen0
  obtain ⟨ws, hws⟩ : ∃ ws, ws = (L.map qW).set r.toNat w2 := ⟨_, rfl⟩
  have hset : evSet (.ref n) (.int r) w2 (m3 ++ MObj.lst (L.map qW) :: MObj.lst (O.map qW) :: e2) = .ok .non (m3 ++ MObj.lst ws :: MObj.lst (O.map qW) :: e2) := by
    have h1 : L2.ixN (L.map qW).length r = some r.toNat := by unfold L2.ixN; rw [if_pos d2, if_pos (by simpa using d3)]
    simp only [evSet, f3, h1, Res.of_some, Res.bind1]
    rw [put0 hn3, hws]
  have hmw : ∀ u ∈ ws, u = w2 ∨ u ∈ L.map qW := fun u hu => by
    rw [hws] at hu
    exact (List.mem_or_eq_of_mem_set hu).symm
  have hwl : ws.length = L.length := by rw [hws]; simp
  have hup : ∀ i : Nat, n + 2 ≤ i → (m3 ++ MObj.lst ws :: MObj.lst (O.map qW) :: e2)[i]? = (m2 ++ [.lst (L.map qW), .lst (O.map qW)] ++ e2)[i]? := fun i hi => by
    obtain ⟨j, rfl⟩ : ∃ j, i = n + 2 + j := ⟨i - (n + 2), by omega⟩
    rw [List.getElem?_append_right (by omega), List.getElem?_append_right (by simp; omega)]
    have e1 : n + 2 + j - m3.length = j + 2 := by omega
    have e2 : n + 2 + j - (m2 ++ [MObj.lst (L.map qW), MObj.lst (O.map qW)]).length = j := by simp; omega
    rw [e1, e2]
    simp
  have dw : dok (m3 ++ MObj.lst ws :: MObj.lst (O.map qW) :: e2) w2 := by
    have := dok_ren (M := m2 ++ [MObj.lst (L.map qW), MObj.lst (O.map qW)] ++ e2) (M2 := m3 ++ MObj.lst ws :: MObj.lst (O.map qW) :: e2) (f := id) v2.dok (fun r hr => hup r (v3 r hr))
    rw [ren_id] at this
    exact this
  have V : Val (m3 ++ MObj.lst ws :: MObj.lst (O.map qW) :: e2) (.tup ws) := by
    refine ⟨(dok_tup _ _).mpr (dokL_iff.mpr fun u hu => ?_), fun q hq => ?_, fun us e => by cases e; omega⟩
    · rcases hmw u hu with rfl | h
      · exact dw
      · obtain ⟨x, _, rfl⟩ := List.mem_map.mp h
        exact dok_pi (by simp)
    · rw [refs_tup] at hq
      obtain ⟨u, hu, hq⟩ := mem_refsL.mp hq
      rcases hmw u hu with rfl | h
      · rw [hup q (v3 q hq)]
        exact v2.flat q hq
      · obtain ⟨x, _, rfl⟩ := List.mem_map.mp h
        simp at hq
  have wlow : ∀ q ∈ W.refsL ws, q < (m3 ++ MObj.lst ws :: MObj.lst (O.map qW) :: e2).length := dokL_low ((dok_tup _ _).mp V.dok)
  refine ⟨.tup ws, m3, MObj.lst ws :: MObj.lst (O.map qW) :: e2, t3, ?_, V, F.trans F3, S3, by omega⟩
  have f4 := at0 hn3 (.lst ws) (.lst (O.map qW) :: e2)
  have asc : ∀ x : Store, m2 ++ [MObj.lst (L.map qW), MObj.lst (O.map qW)] ++ x = m2 ++ MObj.lst (L.map qW) :: MObj.lst (O.map qW) :: x := fun x => by simp
  rw [asc, asc] at v1
  rw [asc] at g1
  generalize m1 ++ [.lst (L.map qW), .lst (O.map qW)] = M1 at *
  generalize m2 ++ MObj.lst (L.map qW) :: MObj.lst (O.map qW) :: e2 = M2 at *
  generalize m3 ++ MObj.lst (L.map qW) :: MObj.lst (O.map qW) :: e2 = M3 at *
  generalize m3 ++ MObj.lst ws :: MObj.lst (O.map qW) :: e2 = M4 at *
  have g8 := gc_lowk M4 (w := .tup ws) (by simpa using wlow)
  simp [e1, g1, v1, hlen0, d1, g7, hset, f4, g8]
end
end K74

set_option Elab.async false
set_option linter.all false
set_option maxRecDepth 100000
set_option maxHeartbeats 4000000
/-! Bent lots: some taken out or put in. -/
namespace K74
open PySem L2 Ev
open Classical
theorem len_allQ7 {many : Int} (hm : many ≤ 7) : (allQ many).length ≤ 2401 := by
  have h1 := len_pairs (rangeI 0 many)
  have h2 : (rangeI 0 many).length ≤ 7 := by rw [len_rangeI]; omega
  have h3 : (rangeI 0 many).length * (rangeI 0 many).length ≤ 7 * 7 := Nat.mul_le_mul h2 h2
  have h4 := len_flat (candP (pairsL (rangeI 0 many))) (pairsL (rangeI 0 many)).length (pairsL (rangeI 0 many)) fun p _ => len_candP _ _
  have h5 : (pairsL (rangeI 0 many)).length * (pairsL (rangeI 0 many)).length ≤ 49 * 49 := Nat.mul_le_mul (by omega) (by omega)
  unfold allQ
  rw [len_srtQ]
  unfold candQ
  omega
theorem gcE_cong {m0 m' M : Store} {dead : List Nat} {en : En} (hl : m'.length = m0.length) (h1 : keepOld m0 M) (h2 : keepOld m' M) : gcE m0 dead en M = gcE m' dead en M := by
  unfold gcE
  rw [hl]
  simp only [h1, h2, true_and]
theorem gcE_ch_one {m0 m' e : Store} (C : Ch m0 m') {dead : List Nat} {en : En} {k j : Nat} {o : MObj} (he : e[k]? = some o) (hb : o.bel m0.length) (hj : (wipeE en dead)[j]? = some (some (.ref (m0.length + k)))) (hlow : enLow m0.length ((wipeE en dead).set j none)) :
    gcE m0 dead en (m' ++ e) = ((wipeE en dead).set j (some (.ref m0.length)), m' ++ [o]) := by
  rw [gcE_cong C.len (keep_ch C e) (keepOld_app m' e)]
  rw [← C.len] at hb hj hlow ⊢
  exact gcE_one he hb hj hlow
abbrev bn7b : Ss := (.cons (.asg (.v 8) (.call "_law_pick" (.cons (.var 0) (.cons (.call "_law_quartets" (.cons (.var 1) .nil)) .nil)))) (.cons (.asg (.v 4) (.ite (.cmp .inn (.var 8) (.var 4)) (.lc [9] (.var 9) (.cons (.v 9) (.of (.var 4)) (.some (.cmp .ne (.var 9) (.var 8))) .nil)) (.bin .add (.var 4) (.lst (.cons (.var 8) .nil))))) .nil))
def e2 (L : List Q) (many v : Int) (a o : Nat) (x y : Option W) : En := [some (.ref 3), some (.int many), some (.tup (L.map qW)), some (.int v), some (.ref a), none, some (.ref o), x, y, none]
theorem lap {d : Nat} {M : Store} {t : Int} (S : St M t) (ht : t ≤ 900000) {many : Int} (hm : 4 ≤ many ∧ many ≤ 7) {F L : List Q} {a o : Nat} (ha : M[a]? = some (.lst (F.map qW))) (h2 : a ≠ 2) (h3 : a ≠ 3) (hF : F.length ≤ 100) (v : Int) (x : Option W) (hd : 3 ≤ d) :
    ∃ (q : Q) (F2 : List Q) (M2 : Store) (t2 : Int), F2.length ≤ F.length + 1 ∧ Fr M M2 ∧ St M2 t2 ∧ t2 ≤ t + 1 ∧ evSs prog.subc prog.fieldsOf (callN prog d) (mk prog (callN prog d)) bn7b (e2 L many v a o x none) M = .nx (e2 L many v M.length o x (some (qW q))) (M2 ++ [.lst (F2.map qW)]) := by
  have hlt := S.lt
  have k1 := s_quartets M many (by omega) d (by omega)
  have k2 := gc_new M (o := .lst ((allQ many).map qW)) (bel_flat (by simp))
  have hne : (allQ many).map qW ≠ [] := by
    have : ((0, 1), (2, 3)) ∈ allQ many := mem_allQ.mpr (by rw [okQ_iff]; simp; omega)
    intro z
    rw [List.map_eq_nil_iff] at z
    rw [z] at this
    cases this
  obtain ⟨w, M3, t2, p1, p2, p3, p4, p5⟩ := s_pick (S.app [.lst ((allQ many).map qW)]) (by omega) (a := M.length) (ws := (allQ many).map qW) (by simp) (by omega) (by omega) hne (by have := len_allQ7 hm.2; rw [List.length_map]; omega) (belowL_nil (by simp)) d (by omega)
  obtain ⟨q, hq, rfl⟩ := List.mem_map.mp p2
  obtain ⟨M2, rfl, F3⟩ := p3.split hlt
  have S2 := p4.cut (by rw [F3.len]; exact hlt)
  have g3 := gc_ch1 (F3.ch S2) [.lst ((allQ many).map qW)] (w := qW q) (by simp)
  have ha2 : M2[a]? = some (.lst (F.map qW)) := by rw [F3.at_ a h2 h3]; exact ha
  have hin : evIn (qW q) (.ref a) M2 = some (decide (q ∈ F)) := by
    rw [in_lst ha2 (by simp) (by simp) (by simp) (Nat.le_trans (depL_map qW F (n := 2) (by simp)) (by decide))]
    congr 1
    exact decide_eq_decide.mpr (mem_map_inj qW_inj)
  have hl2 : M2.length = M.length := F3.len
  have z1 : evE prog.subc prog.fieldsOf (callN prog d) (mk prog (callN prog d)) (.call "_law_pick" (.cons (.var 0) (.cons (.call "_law_quartets" (.cons (.var 1) .nil)) .nil))) (e2 L many v a o x none) M = .ok (qW q) M2 := by
    rw [evE_call, evEs_cons, evE_var (h := rfl), kCons_ok, evEs_cons, evE_call, evEs_cons, evE_var (h := rfl), kCons_ok, evEs_nil]
    simp only [kCons2_ok, kCall_ok]
    rw [k1, k2, kCons_ok, evEs_nil]
    simp only [kCons2_ok, kCall_ok]
    rw [p1, g3]
  by_cases hqF : q ∈ F
  · refine ⟨q, F.filter fun u => decide (u ≠ q), M2, t2, by have := List.length_filter_le (fun u => decide (u ≠ q)) F; omega, F3, S2, p5, ?_⟩
    have c := lcf (subc := prog.subc) (fieldsOf := prog.fieldsOf) (call := callN prog d) (make := mk prog (callN prog d)) (en := e2 L many v a o x (some (qW q))) (m := M2) (own := [9]) (x := .var 9) (t := .v 9) (it := .of (.var 4)) (c := .cmp .ne (.var 9) (.var 8)) (f := qW) F (fun u => decide (u ≠ q)) qW (it_lst (n := a) (by simp [e2]) ha2 (by simp)) (by simp [stillAt, ha2])
      (fun u _ => ⟨(e2 L many v a o x (some (qW q))).set 9 (some (qW u)), by simp [e2], by
        have := eqD_pi M2 (a := qW u) (b := qW q) (by simp) (by simp) (by simp) (by simp)
        have e : (qW u = qW q) = (u = q) := propext ⟨qW_inj _ _, fun h => by rw [h]⟩
        simp [e2, this, e], fun _ => by simp [e2]⟩) (by simp) (by simp; omega)
    have tst : evE prog.subc prog.fieldsOf (callN prog d) (mk prog (callN prog d)) (.cmp .inn (.var 8) (.var 4)) (e2 L many v a o x (some (qW q))) M2 = .ok (.bl true) M2 := by
      simp [e2, hin, hqF]
    rw [evSs_cons, evS_asg, z1, kAsg_ok, bindT_v, if_pos (by simp [e2]), kAsg2_some, thn1]
    have s1 : (e2 L many v a o x none).set 8 (some (qW q)) = e2 L many v a o x (some (qW q)) := by simp [e2]
    rw [s1, evSs_cons, evS_asg, evE_ite, tst]
    simp only [kIte_ok, truth_bl, kIte2_some, if_true]
    rw [c, kAsg_ok, bindT_v, if_pos (by simp [e2]), kAsg2_some, thn1]
    simp [e2, hl2]
  · refine ⟨q, F ++ [q], M2, t2, by simp, F3, S2, p5, ?_⟩
    have h3 : (M2 ++ [.lst [qW q]])[M2.length]? = some (.lst [qW q]) := by simp
    have hadd := bin_add_lst (M2 ++ [.lst [qW q]]) (get_old ha2) h3 (by simp; omega)
    have hg := gc_new1 M2 (.lst [qW q]) (o := .lst (F.map qW ++ [qW q])) (bel_flat (by simp))
    have c : evE prog.subc prog.fieldsOf (callN prog d) (mk prog (callN prog d)) (.bin .add (.var 4) (.lst (.cons (.var 8) .nil))) (e2 L many v a o x (some (qW q))) M2 = .ok (.ref M2.length) (M2 ++ [.lst (F.map qW ++ [qW q])]) := by
      simp [e2]
      rw [hadd]
      simp [hg]
    have tst : evE prog.subc prog.fieldsOf (callN prog d) (mk prog (callN prog d)) (.cmp .inn (.var 8) (.var 4)) (e2 L many v a o x (some (qW q))) M2 = .ok (.bl false) M2 := by
      simp [e2, hin, hqF]
    rw [evSs_cons, evS_asg, z1, kAsg_ok, bindT_v, if_pos (by simp [e2]), kAsg2_some, thn1]
    have s1 : (e2 L many v a o x none).set 8 (some (qW q)) = e2 L many v a o x (some (qW q)) := by simp [e2]
    rw [s1, evSs_cons, evS_asg, evE_ite, tst]
    simp only [kIte_ok, truth_bl, kIte2_some]
    rw [if_neg (by simp), c, kAsg_ok, bindT_v, if_pos (by simp [e2]), kAsg2_some, thn1]
    simp [e2, hl2]
end K74

set_option Elab.async false
set_option linter.all false
set_option maxRecDepth 100000
set_option maxHeartbeats 4000000
/-! Bent lots: put together. -/
namespace K74
open PySem L2 Ev
open Classical
theorem it_rngC {subc : String → String → Option Bool} {fieldsOf : String → List String} {call make : Call} {en : En} {m m' : Store} {a : E} {n : Int} (C : Ch m m') (h : evE subc fieldsOf call make a en m = .ok (.int n) m') (hn : -(2 ^ 62) ≤ n ∧ n < 2 ^ 62) : evIt subc fieldsOf call make (.rng (.cons a .nil)) en m = .ok ⟨(rangeI 0 n).map W.int, []⟩ m' := by
  show ((evEs subc fieldsOf call make (.cons a .nil) en m).bind fun ws m1 => (Res.of (ends ws) m1).bind fun p m1 => if -(2 ^ 62) ≤ p.1 ∧ p.1 < 2 ^ 62 ∧ -(2 ^ 62) ≤ p.2 ∧ p.2 < 2 ^ 62 then Res.ok (Walked.mk (rangeW p.1 p.2) []) m1 else .bad).bind (fun its m1 => gcI m its m1) = _
  rw [evEs_cons, h]
  simp only [kCons_ok, evEs_nil, kCons2_ok, Res.bind1, ends, Res.of_some]
  rw [if_pos ⟨by decide, by decide, hn.1, hn.2⟩, Res.bind1, rangeW_eq]
  unfold gcI
  have hk : keepOld m m' := by simpa using keep_ch C []
  rw [if_pos ⟨hk, belowL_nil (by simp)⟩, ← C.len]
  simp
section
variable {d : Nat} {m1 : Store} {t : Int} (S : St m1 t) (ht : t ≤ 800000) {L : List Q} (hL : L.length ≤ 35) {n : Nat} (hn : m1.length = n) (many v : Int) {O : List Q} (hO : O.length ≤ 35)
include S ht hL hn hO
theorem bent_end {F : List Q} {M : Store} {a : Nat} (ha : M[a]? = some (.lst (F.map qW))) (en : En) (he : en[4]? = some (some (.ref a))) : evSs prog.subc prog.fieldsOf (callN prog d) (mk prog (callN prog d)) (.cons bn8 .nil) en M = .rt (.tup ((srt ltQ F).map qW)) M := by
  have hs := sorted_lst M ha (cmp_qs F)
  rw [sortW_map lt_qW] at hs
  have hlt := lt_of_get ha
  have hv : ∀ (subc : String → String → Option Bool) (fieldsOf : String → List String) (call make : Call), evE subc fieldsOf call make (.var 4) en M = .ok (.ref a) M := fun _ _ _ _ => evE_var (h := he) ..
  simp [hv, hs]
theorem bent_5 (hm : 4 ≤ many ∧ many ≤ 7) (hd : 3 ≤ d) : Out (evSs prog.subc prog.fieldsOf (callN prog d) (mk prog (callN prog d)) (.cons bn7 (.cons bn8 .nil)) (e1 L n many v (some (.ref (n + 1)))) (m1 ++ [.lst (L.map qW), .lst (O.map qW)])) m1 t 100 := by
  have hlt := S.lt
  obtain ⟨r, m2, t2, d1, d2, d3, F2, S2, d4⟩ := draw_in S (by omega) [.lst (L.map qW), .lst (O.map qW)] 2 (by omega) (d := d) (by omega)
  have hn2 : m2.length = n := F2.len.trans hn
  have C2 := (F2.ch S2).app [.lst (L.map qW), .lst (O.map qW)]
  have g2 := fun i => gc_ch C2 (w := .int i) (by simp)
  have hr : evE prog.subc prog.fieldsOf (callN prog d) (mk prog (callN prog d)) (.bin .add (.int 1) (.call "_law_draw" (.cons (.var 0) (.cons (.int 2) .nil)))) (e1 L n many v (some (.ref (n + 1)))) (m1 ++ [.lst (L.map qW), .lst (O.map qW)]) = .ok (.int (1 + r)) (m2 ++ [.lst (L.map qW), .lst (O.map qW)]) := by
    generalize m1 ++ [.lst (L.map qW), .lst (O.map qW)] = M at *
    simp [e1, d1, g2]
  have it := it_rngC C2 hr (by omega)
  have f0 := at0 hn2 (.lst (L.map qW)) [.lst (O.map qW)]
  obtain ⟨M2, hM2⟩ : ∃ M2, M2 = m2 ++ [MObj.lst (L.map qW), MObj.lst (O.map qW)] := ⟨_, rfl⟩
  rw [← hM2] at it f0
  have len2 : M2.length = n + 2 := by rw [hM2]; simp [hn2]
  have SM2 : St M2 t2 := by rw [hM2]; exact S2.app _
  obtain ⟨q1, F1, M3, t3, l1, FM3, SM3, l2, l3⟩ := lap SM2 (by omega) hm f0 (by omega) (by omega) (by omega) v (o := n + 1) (L := L) (some (.int 0)) hd
  have len3 : M3.length = n + 2 := FM3.len.trans len2
  have C3 := FM3.ch SM3
  have g3 := gcE_ch_one C3 (e := [.lst (F1.map qW)]) (dead := [7, 8]) (en := e2 L many v M2.length (n + 1) (some (.int 0)) (some (qW q1))) (k := 0) (j := 4) rfl (bel_flat (by simp)) (by simp [e2]) (by simp [e2]; omega)
  rw [hM2] at FM3
  obtain ⟨m3, hM3, F3⟩ := FM3.split (by omega)
  have S3 : St m3 t3 := by rw [hM3] at SM3; exact SM3.cut (by rw [F3.len]; omega)
  have e12 : (e1 L n many v (some (.ref (n + 1)))).set 7 (some (.int 0)) = e2 L many v n (n + 1) (some (.int 0)) none := by simp [e1, e2]
  have turn1 : forL M2 [7, 8] (stillAt []) (.v 7) (evSs prog.subc prog.fieldsOf (callN prog d) (mk prog (callN prog d)) bn7b) = forL M2 [7, 8] (stillAt []) (.v 7) (evSs prog.subc prog.fieldsOf (callN prog d) (mk prog (callN prog d)) bn7b) := rfl
  have one : ∀ rest, forL M2 [7, 8] (stillAt []) (.v 7) (evSs prog.subc prog.fieldsOf (callN prog d) (mk prog (callN prog d)) bn7b) (.int 0 :: rest) (e1 L n many v (some (.ref (n + 1)))) M2 = forL M2 [7, 8] (stillAt []) (.v 7) (evSs prog.subc prog.fieldsOf (callN prog d) (mk prog (callN prog d)) bn7b) rest (e2 L many v (n + 2) (n + 1) none none) (M3 ++ [.lst (F1.map qW)]) := fun rest => by
    rw [forL_cons (en1 := e2 L many v n (n + 1) (some (.int 0)) none) _ _ (stillAt_nil _) (by rw [bindT_v, if_pos (by simp [e1]), e12]), l3, forR_nx, g3]
    simp [e2, len2]
  clear turn1
  rw [evSs_cons, evS_for _ _ _ _ it]
  have hr01 : r = 0 ∨ r = 1 := by omega
  rcases hr01 with rfl | rfl
  · have hi : (rangeI 0 (1 + 0)).map W.int = [.int 0] := rfl
    rw [hi, one, forL_nil _ _ (stillAt_nil _), thn1, bent_end S ht hL hn hO (F := F1) (a := n + 2) (by rw [← len3]; simp) _ (by simp [e2])]
    refine out_flat S ht hL hn hO (w := .tup ((srt ltQ F1).map qW)) (m2 := m3) (e := [.lst (L.map qW), .lst (O.map qW)] ++ [.lst (F1.map qW)]) ?_ (by simp) (fun ws e => by cases e; rw [List.length_map, len_srtQ]; omega) (F2.trans F3) S3 (by omega)
    rw [hM3, List.append_assoc]
  · have hi : (rangeI 0 (1 + 1)).map W.int = [.int 0, .int 1] := rfl
    rw [hi, one]
    obtain ⟨q4, F4, M4, t4, k1, FM4, SM4, k2, k3⟩ := lap (M := M3 ++ [.lst (F1.map qW)]) (SM3.app _) (by omega) hm (F := F1) (a := n + 2) (by rw [← len3]; simp) (by omega) (by omega) (by omega) v (o := n + 1) (L := L) (some (.int 1)) hd
    obtain ⟨M5, rfl, FM5⟩ := FM4.split (by omega)
    have SM5 : St M5 t4 := SM4.cut (by rw [FM5.len]; omega)
    have C5 := C3.trans (FM5.ch SM5)
    have len4 : (M3 ++ [MObj.lst (F1.map qW)]).length = n + 3 := by simp [len3]
    rw [len4] at k3
    have g5 := gcE_ch_one C5 (e := [.lst (F1.map qW), .lst (F4.map qW)]) (dead := [7, 8]) (en := e2 L many v (n + 3) (n + 1) (some (.int 1)) (some (qW q4))) (k := 1) (j := 4) rfl (bel_flat (by simp)) (by simp [e2]; omega) (by simp [e2]; omega)
    have e22 : (e2 L many v (n + 2) (n + 1) none none).set 7 (some (.int 1)) = e2 L many v (n + 2) (n + 1) (some (.int 1)) none := by simp [e2]
    have asc : M5 ++ [.lst (F1.map qW)] ++ [.lst (F4.map qW)] = M5 ++ [.lst (F1.map qW), .lst (F4.map qW)] := by simp
    rw [hM3] at FM5
    obtain ⟨m5, hM5, F5⟩ := FM5.split (by rw [F3.len]; omega)
    have S5 : St m5 t4 := by rw [hM5] at SM5; exact SM5.cut (by rw [F5.len, F3.len]; omega)
    have len5 : M5.length = n + 2 := by rw [hM5]; simp [F5.len, F3.len, hn2]
    rw [forL_cons (en1 := e2 L many v (n + 2) (n + 1) (some (.int 1)) none) _ _ (stillAt_nil _) (by rw [bindT_v, if_pos (by simp [e2]), e22]), k3, forR_nx, asc, g5, forL_nil _ _ (stillAt_nil _), thn1, bent_end S ht hL hn hO (F := F4) (a := n + 2) (by rw [← len5]; simp) _ (by simp [e2, len2])]
    refine out_flat S ht hL hn hO (w := .tup ((srt ltQ F4).map qW)) (m2 := m5) (e := [.lst (L.map qW), .lst (O.map qW)] ++ [.lst (F4.map qW)]) ?_ (by simp) (fun ws e => by cases e; rw [List.length_map, len_srtQ]; omega) ((F2.trans F3).trans F5) S5 (by omega)
    rw [hM5, List.append_assoc]
end
end K74

set_option Elab.async false
set_option linter.all false
set_option maxRecDepth 100000
set_option maxHeartbeats 4000000
/-! Bent lots: the call. -/
namespace K74
open PySem L2 Ev
open Classical
theorem iteq {subc : String → String → Option Bool} {fieldsOf : String → List String} {call make : Call} {en : En} {M : Store} {v : Int} (k : Int) (a : Ss) (h : en[3]? = some (some (.int v))) : evS subc fieldsOf call make (.ite (.cmp .eq (.var 3) (.int k)) a .nil) en M = if v = k then evSs subc fieldsOf call make a en M else .nx en M := by
  have hv : evE subc fieldsOf call make (.var 3) en M = .ok (.int v) M := evE_var (h := h) ..
  simp [hv]
theorem Out.thn {r : SR} {m : Store} {t k : Int} {subc : String → String → Option Bool} {fieldsOf : String → List String} {call make : Call} (h : Out r m t k) (s : Ss) : Out (Ev.thn subc fieldsOf call make s r) m t k := by
  obtain ⟨w, m2, e, t2, rfl, h⟩ := h
  exact ⟨w, m2, e, t2, rfl, h⟩
theorem Out.up {r : SR} {m m1 : Store} {t t1 k k1 : Int} (h : Out r m1 t1 k1) (F : Fr m m1) (ht : t1 + k1 ≤ t + k) : Out r m t k := by
  obtain ⟨w, m2, e, t2, h1, h2, h3, h4, h5⟩ := h
  exact ⟨w, m2, e, t2, h1, h2, F.trans h3, h4, by omega⟩
theorem bent_body {d : Nat} {m : Store} {t : Int} (S : St m t) (ht : t ≤ 700000) {many : Int} (hm : 4 ≤ many ∧ many ≤ 7) {L : List Q} (hL : L.length ≤ 35) (hd : 3 ≤ d) : Out (evSs prog.subc prog.fieldsOf (callN prog d) (mk prog (callN prog d)) d__law_bent_lot.body [some (.ref 3), some (.int many), some (.tup (L.map qW)), none, none, none, none, none, none, none] m) m t 600 := by
  have hlt := S.lt
  obtain ⟨v, m1, t1, d1, d2, d3, F1, S1, d4⟩ := s_draw S (by omega) 8 (by omega) d (by omega)
  have hn1 : m1.length = m.length := F1.len
  have C1 := F1.ch S1
  have g1 := gc_ch C1 (w := .int v) (by simp)
  have z0 : evS prog.subc prog.fieldsOf (callN prog d) (mk prog (callN prog d)) bn0 [some (.ref 3), some (.int many), some (.tup (L.map qW)), none, none, none, none, none, none, none] m = .nx (e1 L m.length many v none) (m1 ++ [.lst (L.map qW)]) := by
    simp [d1, g1, e1, hn1]
    rw [← hn1, gc_new m1 (bel_flat (by simp))]
    simp
  rw [bn_body, evSs_cons, z0, thn1, evSs_cons, iteq 0 bn1t (v := v) (by simp [e1])]
  by_cases h0 : v = 0
  · rw [if_pos h0]
    exact ((bent_0 S1 (by omega) hL hn1 many v (by omega)).thn _).up F1 (by omega)
  rw [if_neg h0, thn1]
  obtain ⟨K, m2, t2, hK, F2, S2, h2, z2⟩ := bent_other S1 (by omega) hL hn1 many v hm hd
  have hn2 : m2.length = m.length := F2.len.trans hn1
  have hO := len_quarts hm.2 hK
  rw [evSs_cons, z2, thn1, evSs_cons, iteq 1 bn3t (v := v) (by simp [e1])]
  by_cases h1 : v = 1
  · rw [if_pos h1]
    exact ((bent_1 S2 (by omega) hL hn2 many v hO).thn _).up (F1.trans F2) (by omega)
  rw [if_neg h1, thn1, evSs_cons, iteq 2 bn4t (v := v) (by simp [e1])]
  by_cases h2 : v = 2
  · rw [if_pos h2]
    exact ((bent_2 S2 (by omega) hL hn2 many v hO).thn _).up (F1.trans F2) (by omega)
  rw [if_neg h2, thn1, evSs_cons, iteq 3 bn5t (v := v) (by simp [e1])]
  by_cases h3 : v = 3
  · rw [if_pos h3]
    exact ((bent_3 S2 (by omega) hL hn2 many v hO (by omega)).thn _).up (F1.trans F2) (by omega)
  rw [if_neg h3, thn1, evSs_cons]
  have z6 : evS prog.subc prog.fieldsOf (callN prog d) (mk prog (callN prog d)) bn6 (e1 L m.length many v (some (.ref (m.length + 1)))) (m2 ++ [.lst (L.map qW), .lst ((quartsOf many K).map qW)]) = if v = 4 ∧ L ≠ [] then evSs prog.subc prog.fieldsOf (callN prog d) (mk prog (callN prog d)) bn6t (e1 L m.length many v (some (.ref (m.length + 1)))) (m2 ++ [.lst (L.map qW), .lst ((quartsOf many K).map qW)]) else .nx (e1 L m.length many v (some (.ref (m.length + 1)))) (m2 ++ [.lst (L.map qW), .lst ((quartsOf many K).map qW)]) := by
    have f0 := at0 hn2 (.lst (L.map qW)) [.lst ((quartsOf many K).map qW)]
    have en3 : (e1 L m.length many v (some (.ref (m.length + 1))))[3]? = some (some (.int v)) := by simp [e1]
    have en4 : (e1 L m.length many v (some (.ref (m.length + 1))))[4]? = some (some (.ref m.length)) := by simp [e1]
    generalize m2 ++ [.lst (L.map qW), .lst ((quartsOf many K).map qW)] = M at *
    generalize e1 L m.length many v (some (.ref (m.length + 1))) = en at *
    have hv3 : evE prog.subc prog.fieldsOf (callN prog d) (mk prog (callN prog d)) (.var 3) en M = .ok (.int v) M := evE_var (h := en3) ..
    have hv4 : evE prog.subc prog.fieldsOf (callN prog d) (mk prog (callN prog d)) (.var 4) en M = .ok (.ref m.length) M := evE_var (h := en4) ..
    have heq := eqD_lst (m := M ++ [.lst []]) (a := m.length) (b := M.length) (xs := L.map qW) (ys := []) (get_old f0) (by simp) (by simp) (by simp) (Nat.le_trans (depL_map qW L (n := 2) (by simp)) (by decide)) (by simp)
    by_cases h4 : v = 4 <;> by_cases hl : L = [] <;> simp [hv3, hv4, heq, h4, hl]
  rw [z6]
  by_cases h4 : v = 4 ∧ L ≠ []
  · rw [if_pos h4]
    exact ((bent_4 S2 (by omega) hL hn2 many v hO h4.2 hd).thn _).up (F1.trans F2) (by omega)
  rw [if_neg h4, thn1]
  exact (bent_5 S2 (by omega) hL hn2 many v hO hm hd).up (F1.trans F2) (by omega)
theorem s_bent {m : Store} {t : Int} (S : St m t) (ht : t ≤ 700000) {many : Int} (hm : 4 ≤ many ∧ many ≤ 7) {L : List Q} (hL : L.length ≤ 35) : ∀ d, 4 ≤ d → ∃ w m' e t', callN prog d "_law_bent_lot" [.ref 3, .int many, .tup (L.map qW)] m = .ok w (m' ++ e) ∧ Val (m' ++ e) w ∧ Fr m m' ∧ St m' t' ∧ t' ≤ t + 600 := by
  intro d hd
  obtain ⟨d, rfl⟩ : ∃ e, d = e + 1 := ⟨d - 1, by omega⟩
  obtain ⟨w, m2, e, t2, h1, h2, h3, h4, h5⟩ := bent_body S ht hm hL (d := d) (by omega)
  obtain ⟨w2, e2, v1, v2, _⟩ := gc_val (h3.ch h4) h2
  refine ⟨w2, m2, e2, t2, ?_, v2, h3, h4, h5⟩
  rw [call_one (df := d__law_bent_lot) rfl rfl, ← v1]
  show gc m (outD (evSs prog.subc prog.fieldsOf (callN prog d) (mk prog (callN prog d)) d__law_bent_lot.body [some (.ref 3), some (.int many), some (.tup (L.map qW)), none, none, none, none, none, none, none] m)) = _
  rw [h1, outD2]
end K74

set_option Elab.async false
set_option linter.all false
set_option maxRecDepth 100000
set_option maxHeartbeats 4000000
/-! Begun; the law. -/
namespace K74
open PySem L2 Ev
open Classical
def ab (i : Int) : Int := if i < 0 then -i else i
theorem it_any {subc : String → String → Option Bool} {fieldsOf : String → List String} {call make : Call} {en : En} {m : Store} {a : E} {n : Nat} {ws : List W} {o : MObj} (h : evE subc fieldsOf call make a en m = .ok (.ref n) m) (e : m[n]? = some o) (ho : o = .lst ws ∨ o = .lock ws) (hb : W.refsL ws = []) : evIt subc fieldsOf call make (.of a) en m = .ok ⟨ws, [(n, some o)]⟩ m := by
  have e1 : iterOf m (.ref n) = some ws := by rcases ho with rfl | rfl <;> simp [iterOf, e]
  rw [it_of, h, Res.bind1, e1, Res.of_some, Res.bind1, Res.bind1, gcI_keep m hb]
  have := lt_of_get e
  simp only [srcOf, e, List.filter_cons, decide_eq_true this, if_true, List.filter_nil]
section
variable {subc : String → String → Option Bool} {fieldsOf : String → List String} {call make : Call} {en : En} {m : Store}
@[simp] theorem evPs_nil : evPs subc fieldsOf call make .nil en m = .ok [] m := nr rfl
@[simp] theorem evPs_cons (k x : E) (r : Ps) : evPs subc fieldsOf call make (.cons k x r) en m = (evE subc fieldsOf call make k en m).bind fun kw m => (evE subc fieldsOf call make x en m).bind fun w m => (evPs subc fieldsOf call make r en m).bind fun ps m => .ok ((kw, w) :: ps) m := nr rfl
theorem evE_dct (ps : Ps) : evE subc fieldsOf call make (.dct ps) en m = (evPs subc fieldsOf call make ps en m).bind fun kvs m => if (∀ p ∈ kvs, p.1.keyb = true ∧ p.1.isT = false) ∧ kvs.length ≤ 15 then alloc (.dct (kvs.foldl (fun d p => putK p.1 p.2 d) [])) m else .bad := nr rfl
theorem dct_S {a b : E} (ha : evE subc fieldsOf call make a en m = .ok (.ref 2) m) (hb : evE subc fieldsOf call make b en m = .ok (.ref 1) m) : evE subc fieldsOf call make (.dct (.cons (.str "large") a (.cons (.str "cells") b (.cons (.str "left") (.int 0) (.cons (.str "turn") (.int 0) .nil))))) en m = .ok (.ref m.length) (m ++ [.dct (kvsS 0 0)]) := by
  rw [evE_dct]
  simp [ha, hb, W.keyb, W.isT, kvsS, Ev.putK]
  rintro x y (⟨rfl, _⟩ | ⟨rfl, _⟩ | ⟨rfl, _⟩ | ⟨rfl, _⟩) <;> simp
end
theorem s_begun {o : MObj} {ns : List Int} (ho : o = .lst (ns.map W.int) ∨ o = .lock (ns.map W.int)) (hl : ns.length ≤ 63) : ∃ m : Store, m.length = 4 ∧ St m 0 ∧ ∀ d, 1 ≤ d → callN prog d "_law_begun" [.ref 0] [o] = .ok (.ref 3) m ∧ gc [o] (.ok (.ref 3) m) = .ok (.ref 3) m := by
  obtain ⟨cs, hcs⟩ : ∃ cs, cs = ns.map ab := ⟨_, rfl⟩
  obtain ⟨ls, hls⟩ : ∃ ls, ls = (cs.filter fun c => decide (10 ^ 18 ≤ c)).map fun c => c - 10 ^ 18 := ⟨_, rfl⟩
  refine ⟨[o, .lst (cs.map W.int), .lst (ls.map W.int), .dct (kvsS 0 0)], rfl, ⟨cs, ls, 0, ⟨rfl, rfl, rfl⟩, by omega, fun x hx => ?_, by omega⟩, fun d hd => ?_⟩
  · rw [hls] at hx
    obtain ⟨c, hc, rfl⟩ := List.mem_map.mp hx
    have := (List.mem_filter.mp hc).2
    simp at this ⊢
    omega
  have hg : gc [o] (.ok (.ref 3) [o, .lst (cs.map W.int), .lst (ls.map W.int), .dct (kvsS 0 0)]) = .ok (.ref 3) [o, .lst (cs.map W.int), .lst (ls.map W.int), .dct (kvsS 0 0)] :=
    gc_stay (by simp) (o := .dct (kvsS 0 0)) rfl ⟨2, by show _ ∈ W.refsL ((kvsS 0 0).map (·.1)) ++ W.refsL ((kvsS 0 0).map (·.2)); simp [kvsS], by simp⟩
  refine ⟨?_, hg⟩
  obtain ⟨d, rfl⟩ : ∃ e, d = e + 1 := ⟨d - 1, by omega⟩
  have c1 := lcm (subc := prog.subc) (fieldsOf := prog.fieldsOf) (call := callN prog d) (make := mk prog (callN prog d)) (en := [some (.ref 0), none, none, none]) (m := [o]) (own := [3]) (x := .bi .abs (.cons (.var 3) .nil)) (t := .v 3) (it := .of (.var 0)) W.int ns (fun i => .int (ab i)) (it_any (n := 0) (o := o) (by simp) rfl ho (by simp)) (by simp)
    (fun i _ => ⟨[some (.ref 0), none, none, some (.int i)], by simp, by simp [ab]⟩) (by simp) (by simp; omega)
  have c2 := lcf (subc := prog.subc) (fieldsOf := prog.fieldsOf) (call := callN prog d) (make := mk prog (callN prog d)) (en := [some (.ref 0), some (.ref 1), none, none]) (m := [o, .lst (cs.map W.int)]) (own := [3]) (x := .bin .sub (.var 3) (.bin .pow (.int 10) (.int 18))) (t := .v 3) (it := .of (.var 1)) (c := .cmp .ge (.var 3) (.bin .pow (.int 10) (.int 18))) W.int cs (fun c => decide (10 ^ 18 ≤ c)) (fun c => .int (c - 10 ^ 18)) (it_lst (n := 1) (by simp) rfl (by simp)) (by simp)
    (fun i _ => ⟨[some (.ref 0), some (.ref 1), none, some (.int i)], by simp, by
      have : L2.CPow 10 18 := ⟨by decide, by decide, by decide⟩
      simp [evBin, intOp, this], fun _ => by
      have : L2.CPow 10 18 := ⟨by decide, by decide, by decide⟩
      simp [evBin, intOp, this]⟩) (by simp) (by rw [hcs]; simp; omega)
  have e1 : ns.map (fun i => W.int (ab i)) = cs.map W.int := by rw [hcs, List.map_map]; rfl
  have e2 : (cs.filter fun c => decide (10 ^ 18 ≤ c)).map (fun c => W.int (c - 10 ^ 18)) = ls.map W.int := by rw [hls, List.map_map]; rfl
  rw [e1] at c1
  rw [e2] at c2
  rw [call_one (df := d__law_begun) rfl rfl, ← hg]
  congr 1
  simp [d__law_begun, startE]
  simp at c1
  rw [c1]
  simp
  simp at c2
  rw [c2, kAsg_ok, bindT_v, if_pos (by simp), kAsg2_some, thn1, evSs_cons, evS_rt, dct_S (by simp) (by simp)]
  simp
end K74

set_option Elab.async false
set_option linter.all false
set_option maxRecDepth 100000
set_option maxHeartbeats 4000000
/-! The law. -/
namespace K74
open PySem L2 Ev
open Classical
abbrev lw0 : Ev.S := (.asg (.v 1) (.call "_law_begun" (.cons (.var 0) .nil)))
abbrev lw1 : Ev.S := (.asg (.v 2) (.bin .add (.int 4) (.call "_law_draw" (.cons (.var 1) (.cons (.int 4) .nil)))))
abbrev lw2 : Ev.S := (.asg (.v 3) (.bi .tuple (.cons (.call "_law_quartets_of" (.cons (.var 2) (.cons (.call "_law_grown_lots" (.cons (.var 1) (.cons (.var 2) .nil))) .nil))) .nil)))
abbrev lw3 : Ev.S := (.ite (.cmp .isn (.callk "are_quartets" (.cons (.var 2) (.cons (.var 3) .nil))) (.bl true)) (.cons (.rt (.bl false)) .nil) .nil)
abbrev lw3t : Ss := (.cons (.rt (.bl false)) .nil)
abbrev lw4 : Ev.S := (.for_ (.v 4) (.rng (.cons (.int 5) .nil)) (.cons (.asg (.v 5) (.call "_law_bent_lot" (.cons (.var 1) (.cons (.var 2) (.cons (.var 3) .nil))))) (.cons (.ite (.una .not (.call "_law_is_truth" (.cons (.call "are_quartets" (.cons (.var 2) (.cons (.var 5) .nil))) (.cons (.call "_law_are_quartets" (.cons (.var 2) (.cons (.var 5) .nil))) .nil)))) (.cons (.rt (.bl false)) .nil) .nil) .nil)) [4, 5])
abbrev lw5 : Ev.S := (.asg (.v 6) (.bi .tuple (.cons (.bi .sorted (.cons (.lc [9] (.var 9) (.cons (.v 9) (.of (.var 3)) (.some (.cmp .gt (.call "_law_draw" (.cons (.var 1) (.cons (.int 3) .nil))) (.int 0))) .nil)) .nil)) .nil)))
abbrev lw6 : Ev.S := (.ite (.and (.call "_law_first_rule" (.cons (.var 6) .nil)) (.and (.call "_law_third_rule" (.cons (.var 2) (.cons (.var 6) .nil))) (.una .not (.call "_law_second_rule" (.cons (.var 2) (.cons (.var 6) .nil)))))) (.cons (.rt (.bl false)) .nil) .nil)
abbrev lw6t : Ss := (.cons (.rt (.bl false)) .nil)
abbrev lw7 : Ev.S := (.asg (.v 7) (.call "_law_pick" (.cons (.var 1) (.cons (.lst (.cons (.int 1) (.cons (.int 2) (.cons (.int 3) (.cons (.bin .sub (.var 2) (.int 1)) (.cons (.bin .add (.var 2) (.int 1)) (.cons (.int 12) .nil))))))) .nil))))
abbrev lw8 : Ev.S := (.ite (.una .not (.call "_law_is_truth" (.cons (.call "are_quartets" (.cons (.var 7) (.cons (.var 3) .nil))) (.cons (.call "_law_are_quartets" (.cons (.var 7) (.cons (.var 3) .nil))) .nil)))) (.cons (.rt (.bl false)) .nil) .nil)
abbrev lw8t : Ss := (.cons (.rt (.bl false)) .nil)
abbrev lw9 : Ev.S := (.asg (.v 8) (.call "_law_pick" (.cons (.var 1) (.cons (.lst (.cons (.int 0) (.cons (.int 13) (.cons (.una .neg (.int 1)) (.cons .non (.cons (.bl true) (.cons (.str "5") (.cons (.tup (.cons (.int 5) .nil)) (.cons (.lst (.cons (.int 5) .nil)) .nil))))))))) .nil))))
abbrev lw10 : Ev.S := (.rt (.isi (.caught "FoundError" (.call "are_quartets" (.cons (.var 8) (.cons (.var 3) .nil)))) (.cls "BadMany")))
theorem lw_body : d_law.body = .cons lw0 (.cons lw1 (.cons lw2 (.cons lw3 (.cons lw4 (.cons lw5 (.cons lw6 (.cons lw7 (.cons lw8 (.cons lw9 (.cons lw10 (.nil))))))))))) := rfl
def en9 (x2 x3 x6 x7 x8 : Option W) : En := [some (.ref 0), some (.ref 3), x2, x3, none, none, x6, x7, x8, none]
theorem isIn_ren (w : W) (f : Nat → Nat) (a b : Int) : isIn (w.ren f) a b = isIn w a b := by cases w <;> simp [W.ren, isIn]
theorem once_le (L : List Q) : (once L).length ≤ L.length := by
  have e := len_dedup (L.map qW)
  rw [dedup_map qW_inj] at e
  simpa using e
section
variable {d : Nat} {m : Store} {t : Int} (S : St m t) (ht : t ≤ 600000) (hd : 6 ≤ d)
include S ht hd
theorem st1 : ∃ (many : Int) (m1 : Store) (t1 : Int), (4 ≤ many ∧ many ≤ 7) ∧ Fr m m1 ∧ St m1 t1 ∧ t1 ≤ t + 1 ∧ evS prog.subc prog.fieldsOf (callN prog d) (mk prog (callN prog d)) lw1 (en9 none none none none none) m = .nx (en9 (some (.int many)) none none none none) m1 := by
  have hlt := S.lt
  obtain ⟨v, m1, t1, d1, d2, d3, F1, S1, d4⟩ := s_draw S (by omega) 4 (by omega) d (by omega)
  have C1 := F1.ch S1
  have g1 := fun i => gc_ch C1 (w := .int i) (by simp)
  refine ⟨4 + v, m1, t1, by omega, F1, S1, d4, ?_⟩
  simp [en9, d1, g1]
theorem st2 {many : Int} (hm : 4 ≤ many ∧ many ≤ 7) : ∃ (K : List (List Int)) (m2 : Store) (t2 : Int), Lam K ∧ Fr m m2 ∧ St m2 t2 ∧ t2 ≤ t + 400 ∧ evS prog.subc prog.fieldsOf (callN prog d) (mk prog (callN prog d)) lw2 (en9 (some (.int many)) none none none none) m = .nx (en9 (some (.int many)) (some (.tup ((quartsOf many K).map qW))) none none none) m2 := by
  have hlt := S.lt
  obtain ⟨K, m2, t2, g1, g2, F, S2, g5⟩ := s_grown S (by omega) many (by omega) d (by omega)
  have C := F.ch S2
  refine ⟨K, m2, t2, g2, F, S2, g5, ?_⟩
  have k1 := gc_ch C (w := .tup (K.map lotW)) (by simp)
  have k2 := s_quartets_of m2 many K (by omega) d (by omega)
  have k3 := gc_ch_new' C (n := m.length) rfl (o := .lst ((quartsOf many K).map qW)) (bel_flat (by simp)) [] (k := m.length) (by simp)
  have k4 := gc_ch1 C [.lst ((quartsOf many K).map qW)] (w := .tup ((quartsOf many K).map qW)) (by simp)
  rw [F.len] at k2
  simp only [List.append_nil] at k3
  have u : (m2 ++ [.lst ((quartsOf many K).map qW)])[m.length]? = some (.lst ((quartsOf many K).map qW)) := at0 F.len _ _
  rw [evS_asg, evE_bi, evEs_cons, evE_call, evEs_cons, evE_var (h := rfl), kCons_ok, evEs_cons, evE_call, evEs_cons, evE_var (h := rfl), kCons_ok, evEs_cons, evE_var (h := rfl), kCons_ok, evEs_nil]
  simp only [kCons2_ok, kCall_ok]
  rw [g1, k1, kCons_ok, evEs_nil]
  simp only [kCons2_ok, kCall_ok]
  rw [k2, k3, kCons_ok, evEs_nil]
  simp [u, k4, en9]
theorem st3 {many : Int} (hm : 4 ≤ many ∧ many ≤ 7) {K : List (List Int)} (hK : Lam K) : evS prog.subc prog.fieldsOf (callN prog d) (mk prog (callN prog d)) lw3 (en9 (some (.int many)) (some (.tup ((quartsOf many K).map qW))) none none none) m = .nx (en9 (some (.int many)) (some (.tup ((quartsOf many K).map qW))) none none none) m := by
  have hl := len_quarts hm.2 hK
  have h1 := s_are (m := m) (w := .tup ((quartsOf many K).map qW)) (dok_pi (by simp)) many (by omega) (fun ws e => by cases e; simp; omega) d (by omega)
  have h2 : ansA many (.tup ((quartsOf many K).map qW)) = true := by
    have h3 := tree_rules (many := many) hK
    have h4 : ((quartsOf many K).map qW).all (isQ many) = true := by
      rw [List.all_map, List.all_eq_true]
      intro q hq
      exact isQ_some.mpr ⟨q, rfl, (mem_quarts.mp hq).1⟩
    have h5 : ((quartsOf many K).map qW).map toQ = quartsOf many K := by
      rw [List.map_map]
      conv => rhs; rw [← List.map_id (quartsOf many K)]
      rfl
    simp only [ansA, h4, h5, h3, Bool.and_self]
  rw [h2] at h1
  simp [en9, h1]
theorem st8 {x2 x6 : Option W} {many : Int} (hm : 1 ≤ many ∧ many ≤ 12) {L : List Q} (hL : L.length ≤ 35) : evS prog.subc prog.fieldsOf (callN prog d) (mk prog (callN prog d)) lw8 (en9 x2 (some (.tup (L.map qW))) x6 (some (.int many)) none) m = .nx (en9 x2 (some (.tup (L.map qW))) x6 (some (.int many)) none) m := by
  have h1 := s_are (m := m) (w := .tup (L.map qW)) (dok_pi (by simp)) many (by omega) (fun ws e => by cases e; simp; omega) d (by omega)
  have h2 := s_are2 (m := m) (w := .tup (L.map qW)) (dok_pi (by simp)) many (by omega) (fun ws e => by cases e; simp; omega) (fun L2 e _ => by
    simp only [W.tup.injEq] at e
    rw [← (map_inj qW_inj).mp e]
    have := once_le L
    omega) d (by omega)
  have h3 := s_truth m (ansA many (.tup (L.map qW))) (ansB many (.tup (L.map qW))) d (by omega)
  rw [ans_eq] at h1 h3
  simp [en9, h1, h2, h3]
end
end K74

set_option Elab.async false
set_option linter.all false
set_option maxRecDepth 100000
set_option maxHeartbeats 4000000
/-! The law: laps, the rest. -/
namespace K74
open PySem L2 Ev
open Classical
abbrev lapB : Ss := (.cons (.asg (.v 5) (.call "_law_bent_lot" (.cons (.var 1) (.cons (.var 2) (.cons (.var 3) .nil))))) (.cons (.ite (.una .not (.call "_law_is_truth" (.cons (.call "are_quartets" (.cons (.var 2) (.cons (.var 5) .nil))) (.cons (.call "_law_are_quartets" (.cons (.var 2) (.cons (.var 5) .nil))) .nil)))) (.cons (.rt (.bl false)) .nil) .nil) .nil))
section
variable {d : Nat} (hd : 6 ≤ d)
include hd
theorem lap_turn {m : Store} {t : Int} (S : St m t) (ht : t ≤ 600000) {many : Int} (hm : 4 ≤ many ∧ many ≤ 7) {L : List Q} (hL : L.length ≤ 35) (x : Option W) : ∃ w m1 e t1, Fr m m1 ∧ St m1 t1 ∧ t1 ≤ t + 600 ∧ evSs prog.subc prog.fieldsOf (callN prog d) (mk prog (callN prog d)) lapB [some (.ref 0), some (.ref 3), some (.int many), some (.tup (L.map qW)), x, none, none, none, none, none] m = .nx [some (.ref 0), some (.ref 3), some (.int many), some (.tup (L.map qW)), x, some w, none, none, none, none] (m1 ++ e) := by
  have hlt := S.lt
  obtain ⟨w0, m1, e0, t1, h1, h2, F, S1, h5⟩ := s_bent S (by omega) hm hL d (by omega)
  obtain ⟨w, e, v1, v2, _⟩ := gc_val (F.ch S1) h2
  refine ⟨w, m1, e, t1, F, S1, h5, ?_⟩
  have k1 := s_are v2.dok many (by omega) (fun ws e => by have := v2.len ws e; omega) d (by omega)
  have k2 := s_are2 v2.dok many (by omega) (fun ws e => by have := v2.len ws e; omega) (fun L2 e _ => by
    have := v2.len _ e
    have := once_le L2
    simp at *
    omega) d (by omega)
  have k3 := s_truth (m1 ++ e) (ansA many w) (ansB many w) d (by omega)
  rw [ans_eq] at k1 k3
  have wl := dok_low v2.dok
  generalize m1 ++ e = M at *
  simp [h1, v1, k1, k2, k3]
theorem law_loop {m : Store} {many : Int} (hm : 4 ≤ many ∧ many ≤ 7) {L : List Q} (hL : L.length ≤ 35) : ∀ (ws : List W), (∀ w ∈ ws, w.refs = []) → ∀ (M : Store) (t : Int), Fr m M → St M t → t + 600 * ws.length ≤ 600000 →
    ∃ M2 t2, forL m [4, 5] (stillAt []) (.v 4) (evSs prog.subc prog.fieldsOf (callN prog d) (mk prog (callN prog d)) lapB) ws (en9 (some (.int many)) (some (.tup (L.map qW))) none none none) M = .nx (en9 (some (.int many)) (some (.tup (L.map qW))) none none none) M2 ∧ Fr m M2 ∧ St M2 t2 ∧ t2 ≤ t + 600 * ws.length
  | [], _, M, t, F, S, _ => ⟨M, t, forL_nil _ _ (stillAt_nil _), F, S, by simp⟩
  | w :: r, hw, M, t, F, S, ht => by
    simp only [List.length_cons] at ht
    have hlt := S.lt
    obtain ⟨u, m1, e, t1, F1, S1, h1, h2⟩ := lap_turn hd S (by omega) hm hL (some w)
    obtain ⟨M2, t2, i1, i2, i3, i4⟩ := law_loop hm hL r (fun v hv => hw v (List.mem_cons_of_mem _ hv)) m1 t1 (F.trans F1) S1 (by omega)
    refine ⟨M2, t2, ?_, i2, i3, by simp only [List.length_cons]; omega⟩
    have hl := F.len
    have hg := gcE_ch ((F.trans F1).ch S1) e (dead := [4, 5]) (en := [some (.ref 0), some (.ref 3), some (.int many), some (.tup (L.map qW)), some w, some u, none, none, none, none]) (by simp; omega)
    rw [forL_cons (en1 := [some (.ref 0), some (.ref 3), some (.int many), some (.tup (L.map qW)), some w, none, none, none, none, none]) _ _ (stillAt_nil _) (by simp [en9]), h2, forR_nx, hg, ← i1]
    simp [en9]
theorem st4 {m : Store} {t : Int} (S : St m t) (ht : t ≤ 500000) {many : Int} (hm : 4 ≤ many ∧ many ≤ 7) {L : List Q} (hL : L.length ≤ 35) : ∃ m2 t2, Fr m m2 ∧ St m2 t2 ∧ t2 ≤ t + 3000 ∧ evS prog.subc prog.fieldsOf (callN prog d) (mk prog (callN prog d)) lw4 (en9 (some (.int many)) (some (.tup (L.map qW))) none none none) m = .nx (en9 (some (.int many)) (some (.tup (L.map qW))) none none none) m2 := by
  obtain ⟨M2, t2, h1, h2, h3, h4⟩ := law_loop hd (m := m) hm hL ((rangeI 0 5).map W.int) (fun w hw => by obtain ⟨i, _, rfl⟩ := List.mem_map.mp hw; simp) m t (Fr.refl m) S (by rw [List.length_map, len_rangeI]; omega)
  rw [List.length_map, len_rangeI] at h4
  refine ⟨M2, t2, h2, h3, by omega, ?_⟩
  rw [evS_for _ _ _ _ (it_rng1 (n := 5) (by simp) (by decide)), h1]
theorem st5 {m : Store} {t : Int} (S : St m t) (ht : t ≤ 500000) {many : Int} {L : List Q} (hL : L.length ≤ 35) : ∃ (R : List Q) (m2 : Store) (t2 : Int), (∀ q ∈ R, q ∈ L) ∧ Fr m m2 ∧ St m2 t2 ∧ t2 ≤ t + 100 ∧ evS prog.subc prog.fieldsOf (callN prog d) (mk prog (callN prog d)) lw5 (en9 (some (.int many)) (some (.tup (L.map qW))) none none none) m = .nx (en9 (some (.int many)) (some (.tup (L.map qW))) (some (.tup (R.map qW))) none none) m2 := by
  have hlt := S.lt
  obtain ⟨k, m1, t1, k1, k2, F1, S1, ht1⟩ := lcd (subc := prog.subc) (fieldsOf := prog.fieldsOf) (call := callN prog d) (make := mk prog (callN prog d)) (en := en9 (some (.int many)) (some (.tup (L.map qW))) none none none) (m := m) (e := []) (own := [9]) (x := .var 9) (t := .v 9) (it := .of (.var 3)) (c := .cmp .gt (.call "_law_draw" (.cons (.var 1) (.cons (.int 3) .nil))) (.int 0)) (srcs := []) qW L S (by omega)
    (it_tup (by simp [en9]) (by simp)) (fun m1 F1 => by simp)
    (fun a _ => ⟨(en9 (some (.int many)) (some (.tup (L.map qW))) none none none).set 9 (some (qW a)), by simp [en9], fun m1 => by simp [en9], fun m1 t1 F1 S1 h1 => by
      obtain ⟨v, m2, t2, d1, d2, d3, F2, S2, d4⟩ := s_draw S1 h1 3 (by omega) d (by omega)
      refine ⟨decide (0 < v), m2, t2, ?_, F2, S2, d4⟩
      have C := F2.ch S2
      have g6 := gc_ch C (w := .int v) (by simp)
      have gb := fun b => gc_ch C (w := .bl b) (by simp)
      have hl3 := S1.lt
      simp [en9, d1, g6, gb]⟩) (by simp)
  simp only [List.append_nil] at k2
  refine ⟨srt ltQ k, m1, t1, fun q hq => k1.subset (mem_srt.mp hq), F1, S1, by omega, ?_⟩
  have u : (m1 ++ [.lst (k.map qW)])[m.length]? = some (.lst (k.map qW)) := at0 F1.len _ _
  have hs := sorted_lst (m1 ++ [.lst (k.map qW)]) u (cmp_qs k)
  rw [sortW_map lt_qW] at hs
  have g1 := gc_ch_new' (F1.ch S1) (n := m.length) rfl (o := .lst ((srt ltQ k).map qW)) (bel_flat (by simp)) [.lst (k.map qW)] (k := m.length + 1) (by simp)
  have g2 := gc_ch1 (F1.ch S1) [.lst ((srt ltQ k).map qW)] (w := .tup ((srt ltQ k).map qW)) (by simp)
  have len1 : (m1 ++ [MObj.lst (k.map qW)]).length = m.length + 1 := by simp [F1.len]
  have u2 : (m1 ++ [.lst ((srt ltQ k).map qW)])[m.length]? = some (.lst ((srt ltQ k).map qW)) := at0 F1.len _ _
  rw [evS_asg, evE_bi, evEs_cons, evE_bi, evEs_cons, k2, kCons_ok, evEs_nil]
  simp only [kCons2_ok, kBi_ok, bi_sorted]
  rw [hs, alloc_eq, len1, g1, kCons_ok, evEs_nil]
  simp [u2, g2, en9]
theorem st6 {m : Store} {many : Int} (hm : 4 ≤ many ∧ many ≤ 7) {x3 : Option W} {R : List Q} (hR : ∀ q ∈ R, okQ many q = true) : evS prog.subc prog.fieldsOf (callN prog d) (mk prog (callN prog d)) lw6 (en9 (some (.int many)) x3 (some (.tup (R.map qW))) none none) m = .nx (en9 (some (.int many)) x3 (some (.tup (R.map qW))) none none) m := by
  have h1 := s_first m R d (by omega)
  have h2 := s_second m R many (by omega) d (by omega)
  have h3 := s_third m R many (by omega) d (by omega)
  have h4 := rules13 (many := many) hR
  generalize (R.all fun q => (waysOf q).all fun n => (fifthsOf many q).all fun e => secB R n e) = g2 at *
  generalize (R.all fun q => (waysOf q).all fun n => (fifthsOf many q).all fun e => thiB R n e) = g3 at *
  generalize R.all (aloneB R) = g1 at *
  have e : evT prog.subc prog.fieldsOf (callN prog d) (mk prog (callN prog d)) (.and (.call "_law_first_rule" (.cons (.var 6) .nil)) (.and (.call "_law_third_rule" (.cons (.var 2) (.cons (.var 6) .nil))) (.una .not (.call "_law_second_rule" (.cons (.var 2) (.cons (.var 6) .nil)))))) (en9 (some (.int many)) x3 (some (.tup (R.map qW))) none none) m = .ok false m := by
    cases g1 <;> cases g3 <;> simp [en9, h1, h2, h3] at h4 ⊢
    simp [h4]
  rw [evS_ite, e]
  simp
theorem st7 {m : Store} {t : Int} (S : St m t) (ht : t ≤ 500000) {many : Int} (hm : 4 ≤ many ∧ many ≤ 7) {x3 x6 : Option W} : ∃ (wide : Int) (m2 : Store) (t2 : Int), (1 ≤ wide ∧ wide ≤ 12) ∧ Fr m m2 ∧ St m2 t2 ∧ t2 ≤ t + 1 ∧ evS prog.subc prog.fieldsOf (callN prog d) (mk prog (callN prog d)) lw7 (en9 (some (.int many)) x3 x6 none none) m = .nx (en9 (some (.int many)) x3 x6 (some (.int wide)) none) m2 := by
  have hlt := S.lt
  obtain ⟨w, M2, t2, p1, p2, p3, p4, p5⟩ := s_pick (S.app [.lst [.int 1, .int 2, .int 3, .int (many - 1), .int (many + 1), .int 12]]) (by omega) (a := m.length) (ws := [.int 1, .int 2, .int 3, .int (many - 1), .int (many + 1), .int 12]) (by simp) (by omega) (by omega) (by simp) (by simp) (belowL_nil (by simp)) d (by omega)
  obtain ⟨m2, rfl, F⟩ := p3.split hlt
  have S2 := p4.cut (by rw [F.len]; exact hlt)
  have hw : ∃ i : Int, w = .int i ∧ 1 ≤ i ∧ i ≤ 12 := by
    simp only [List.mem_cons, List.not_mem_nil, or_false] at p2
    rcases p2 with h | h | h | h | h | h <;> subst h <;> exact ⟨_, rfl, by omega, by omega⟩
  obtain ⟨i, rfl, hi⟩ := hw
  have g := gc_ch1 (F.ch S2) [.lst [.int 1, .int 2, .int 3, .int (many - 1), .int (many + 1), .int 12]] (w := .int i) (by simp)
  refine ⟨i, m2, t2, hi, F, S2, p5, ?_⟩
  simp [en9]
  rw [p1, g]
  simp
theorem st9 {m : Store} {t : Int} (S : St m t) (ht : t ≤ 500000) {x2 x3 x6 x7 : Option W} : ∃ (w : W) (m2 e : Store) (t2 : Int), isIn w 1 12 = false ∧ Val (m2 ++ e) w ∧ evS prog.subc prog.fieldsOf (callN prog d) (mk prog (callN prog d)) lw9 (en9 x2 x3 x6 x7 none) m = .nx (en9 x2 x3 x6 x7 (some w)) (m2 ++ e) := by
  have hlt := S.lt
  obtain ⟨B, hB⟩ : ∃ B : List W, B = [.int 0, .int 13, .int (-1), .non, .bl true, .str (Str.ofString "5"), .tup [.int 5], .ref m.length] := ⟨_, rfl⟩
  have lenm : (m ++ [MObj.lst [W.int 5]]).length = m.length + 1 := by simp
  obtain ⟨w, M2, t2, p1, p2, p3, p4, p5⟩ := s_pick (S.app [.lst [.int 5], .lst B]) (by omega) (a := m.length + 1) (ws := B) (by simp) (by omega) (by omega) (by rw [hB]; simp) (by rw [hB]; simp) (fun r hr => by rw [hB] at hr; simp at hr; simp; omega) d (by omega)
  obtain ⟨m2, rfl, F⟩ := p3.split hlt
  have S2 := p4.cut (by rw [F.len]; exact hlt)
  have q0 : (m2 ++ [.lst [.int 5], .lst B])[m.length]? = some (.lst [.int 5]) := at0 F.len _ _
  have hw : isIn w 1 12 = false ∧ Val (m2 ++ [.lst [.int 5], .lst B]) w := by
    rw [hB] at p2
    generalize m2 ++ [.lst [.int 5], .lst B] = M at *
    simp only [List.mem_cons, List.not_mem_nil, or_false] at p2
    have o4 : (MObj.lst [.int 5]).refs = [] := by simp [MObj.refs]
    rcases p2 with h | h | h | h | h | h | h | h <;> subst h
    · exact ⟨by decide, ⟨by simp, by simp, by simp⟩⟩
    · exact ⟨by decide, ⟨by simp, by simp, by simp⟩⟩
    · exact ⟨by decide, ⟨by simp, by simp, by simp⟩⟩
    · exact ⟨by simp [isIn], ⟨by simp, by simp, by simp⟩⟩
    · exact ⟨by simp [isIn], ⟨by simp, by simp, by simp⟩⟩
    · exact ⟨by simp [isIn], ⟨by simp, by simp, by simp⟩⟩
    · exact ⟨by simp [isIn], ⟨by simp, by simp, by intro ws e; cases e; simp⟩⟩
    · exact ⟨by simp [isIn], ⟨by simp [dok, q0], by simp [q0, o4], by simp⟩⟩
  obtain ⟨w2, e2, v1, v2, _, f, v4⟩ := gc_val (F.ch S2) hw.2
  refine ⟨w2, m2, e2, t2, by rw [v4, isIn_ren]; exact hw.1, v2, ?_⟩
  simp [en9]
  rw [← hB, p1, v1]
  simp
theorem st10 {m : Store} {w : W} (hw : isIn w 1 12 = false) (hv : dok m w) {x2 x6 x7 : Option W} {L : List Q} : evS prog.subc prog.fieldsOf (callN prog d) (mk prog (callN prog d)) lw10 (en9 x2 (some (.tup (L.map qW))) x6 x7 (some w)) m = .rt (.bl true) m := by
  have h1 := s_are_bad hv (w := .tup (L.map qW)) (dok_pi (by simp)) hw d (by omega)
  have s1 : prog.subc "BadMany" "FoundError" = some true := by decide
  have s2 : prog.subc "BadMany" "BadMany" = some true := by decide
  simp [en9, h1, cgt, s1, s2]
end
theorem gc_blX (m M : Store) (b : Bool) : ∃ M2, gc m (.ok (.bl b) M) = .ok (.bl b) M2 := by
  unfold gc
  simp only
  split
  · exact ⟨_, by simp [W.ren]; rfl⟩
  · exact ⟨_, rfl⟩
theorem s_law {o : MObj} {ns : List Int} (ho : o = .lst (ns.map W.int) ∨ o = .lock (ns.map W.int)) (hl : ns.length ≤ 63) {d : Nat} (hd : 6 ≤ d) : ∃ m, callN prog (d + 1) "law" [.ref 0] [o] = .ok (.bl true) m := by
  obtain ⟨m, lm, S, hb⟩ := s_begun ho hl
  obtain ⟨b1, b2⟩ := hb d (by omega)
  have z0 : evS prog.subc prog.fieldsOf (callN prog d) (mk prog (callN prog d)) lw0 [some (.ref 0), none, none, none, none, none, none, none, none, none] [o] = .nx (en9 none none none none none) m := by
    rw [evS_asg, evE_call, evEs_cons, evE_var (h := rfl), kCons_ok, evEs_nil]
    simp only [kCons2_ok, kCall_ok]
    rw [b1, b2]
    simp [en9]
  obtain ⟨many, m1, t1, hm, F1, S1, h1, z1⟩ := st1 S (by omega) hd
  obtain ⟨K, m2, t2, hK, F2, S2, h2, z2⟩ := st2 S1 (by omega) hd hm
  have z3 := st3 S2 (by omega) hd hm hK
  have hL := len_quarts hm.2 hK
  have hok : ∀ q ∈ quartsOf many K, okQ many q = true := fun q hq => (mem_quarts.mp hq).1
  generalize quartsOf many K = L at *
  obtain ⟨m4, t4, F4, S4, h4, z4⟩ := st4 hd S2 (by omega) hm hL
  obtain ⟨R, m5, t5, hR, F5, S5, h5, z5⟩ := st5 hd S4 (by omega) (many := many) hL
  have z6 := st6 hd (m := m5) hm (x3 := some (.tup (L.map qW))) (R := R) fun q hq => hok q (hR q hq)
  obtain ⟨wide, m7, t7, hw, F7, S7, h7, z7⟩ := st7 hd S5 (by omega) hm (x3 := some (.tup (L.map qW))) (x6 := some (.tup (R.map qW)))
  have z8 := st8 S7 (by omega) hd (x2 := some (.int many)) (x6 := some (.tup (R.map qW))) hw hL
  obtain ⟨w, m9, e9, t9, i9, v9, z9⟩ := st9 hd S7 (by omega) (x2 := some (.int many)) (x3 := some (.tup (L.map qW))) (x6 := some (.tup (R.map qW))) (x7 := some (.int wide))
  have z10 := st10 hd i9 v9.dok (x2 := some (.int many)) (x6 := some (.tup (R.map qW))) (x7 := some (.int wide)) (L := L)
  have key : evSs prog.subc prog.fieldsOf (callN prog d) (mk prog (callN prog d)) d_law.body [some (.ref 0), none, none, none, none, none, none, none, none, none] [o] = .rt (.bl true) (m9 ++ e9) := by
    rw [lw_body, evSs_cons, z0, thn1, evSs_cons, z1, thn1, evSs_cons, z2, thn1, evSs_cons, z3, thn1, evSs_cons, z4, thn1, evSs_cons, z5, thn1, evSs_cons, z6, thn1, evSs_cons, z7, thn1, evSs_cons, z8, thn1, evSs_cons, z9, thn1, evSs_cons, z10, thn2]
  obtain ⟨M2, hM⟩ := gc_blX [o] (m9 ++ e9) true
  refine ⟨M2, ?_⟩
  rw [call_one (df := d_law) rfl rfl, ← hM]
  show gc [o] (outD (evSs prog.subc prog.fieldsOf (callN prog d) (mk prog (callN prog d)) d_law.body [some (.ref 0), none, none, none, none, none, none, none, none, none] [o])) = _
  rw [key, outD2]
end K74

set_option Elab.async false
set_option linter.all false
set_option maxRecDepth 1000000
set_option maxHeartbeats 0
namespace K74
open PySem L2 Ev
/-! the head -/
abbrev rR : PySem.W.OpenRow := PySem.W.OpenLaw.row PySem.Challenge.rw_oncefound_k74_lots_of_quartets_judged
abbrev hk : PySem.W.Hook := hookX law 3
def ob (s : PySem.W.SharedT) : Alx := obsX law 3 (HandSHeadRun.getT s)
theorem ob_eq (s : PySem.W.SharedT) : ob s = hk.obs s.abs := obsX_eq (HandSHeadRun.getT_eq s)
def loose0 : List Str := ["FoundError", "BadMany", "is_between", "is_rising_pair", "is_quartet", "need_many_valleys", "quartet_told", "namings", "keeps_rules", "is_alone", "are_quartets_of", "are_quartets", "_law_begun", "_law_draw", "_law_pick", "_law_mixed"]
def loose1 : List Str := ["_law_caught", "_law_is_whole", "_law_is_below", "_law_pairs", "_law_parted", "_law_four", "_law_quartets", "_law_quartets_of", "_law_is_quartet", "_law_fifths", "_law_ways_told", "_law_first_rule", "_law_second_rule", "_law_third_rule", "_law_are_quartets", "_law_grown_lots"]
def loose2 : List Str := ["_law_is_truth", "_law_bad_quartet", "_law_bent_lot"]
abbrev loose : List Str := loose0 ++ loose1 ++ loose2
theorem run (w : World) : HandSHeadRun.RunEq rR (PySem.W.view rR.prog [39]) hk ob 4000 loose w := by
  intro os
  kernel_rfl
end K74
open PySem PySem.W PySem.Calls PyProof.Rows
theorem K74.holds_of (S0 : ∀ (p : Program) (w : World) (K : PySem.W.Frag), Ev.SetOk (K74.law.cf p w K)) {d : Nat} (hd : 5 * (d + 1) ≤ 200) (hlaw : ∀ (o : Ev.MObj) (ns : List Int), (o = .lst (ns.map Ev.W.int) ∨ o = .lock (ns.map Ev.W.int)) → ns.length ≤ 63 → (∀ z ∈ ns, Builtin.Int.intBits z ≤ 1048576) → ∃ m, Ev.callN K74.prog (d + 1) "law" [.ref 0] [o] = .ok (.bl true) m) : PySem.Challenge.rw_oncefound_k74_lots_of_quartets_judged.Holds := by
  w_on; o_law
  refine HandSHeadRun.head_any (r := OpenLaw.row PySem.Challenge.rw_oncefound_k74_lots_of_quartets_judged) (q := view (OpenLaw.row PySem.Challenge.rw_oncefound_k74_lots_of_quartets_judged).prog [39]) (H := K74.hk) (ob := K74.ob) (M := 4000) (loose := K74.loose) (d := HandSHeadRun.topDef (OpenLaw.row PySem.Challenge.rw_oncefound_k74_lots_of_quartets_judged).prog 39) (kwd := []) K74.ob_eq
    (by kernel_rfl) (fun s => by kernel_rfl) K74.run (by kernel_rfl) (by kernel_rfl) (by kernel_rfl) (by rfl) (by first | assumption | decide +kernel) (by decide +kernel) ⟨rfl, rfl, rfl, rfl, rfl, by decide +kernel⟩ ?hw ?hc
  case hw => w_witness2
  case hc =>
    refine LamX.walk_ofTsE (l := PySem.Challenge.rw_oncefound_k74_lots_of_quartets_judged) (n := 63) (k := 5 * (d + 1)) (x := "_law_script") (CX := fun w => L2.CX (PySem.Challenge.rw_oncefound_k74_lots_of_quartets_judged).prog w) rfl (by decide) (by kernel_rfl) ⟨rfl, ?hdp, ?hun⟩ ?F ?X
    case hdp => show 1 + claimMargin + 3 * (5 * (d + 1)) + 5 < recursionLimit; have : recursionLimit = 1000 := rfl; have : claimMargin = 300 := rfl; omega
    case hun => show 4 + 16 * (5 * (d + 1)) + 200 < cLine; have : cLine = 9900 := rfl; omega
    case F =>
      intro w mg fa h Y G hmg0
      have hmg : mg ("law" : PySem.Str) = some (.ref fa) := by
        have e : (HandSHeadRun.topDef (OpenLaw.row PySem.Challenge.rw_oncefound_k74_lots_of_quartets_judged).prog 39).name = ("law" : PySem.Str) := by kernel_rfl
        rw [← e]
        exact hmg0
      exact Ev.law_at (n := 3) K74.ok S0 "_law_script" (df := K74.d_law) rfl rfl Y G hmg hlaw
    case X =>
      rintro w H s e s' ⟨_, _, _, _, _, _, _, _, _, _, _, _, z⟩
      exact z

set_option Elab.async false
set_option linter.all false
set_option maxRecDepth 1000000
set_option maxHeartbeats 0
theorem PySem.Challenge.cw_oncefound_k74_lots_of_quartets_judged_holds : PySem.Challenge.rw_oncefound_k74_lots_of_quartets_judged.Holds := by
  exact K74.holds_of (fun p w K => Ev.setOk _) (d := 6) (by decide) fun o ns ho hl _ => K74.s_law ho hl (by decide)

