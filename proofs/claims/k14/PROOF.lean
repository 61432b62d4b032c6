import PyProof.Rows.All
import Wide.All
import OpenK.AllK
import Wide.FinOn
import HandS.ForMost
import HandS.IsInst
import HandS.Deep
import HandS.Wide
import HandS.Conv
import HandS.Style
import PyProof.SliceList
import HandS.Iter
import HandS.NoneIn
import HandS.TupAny
import HandS.SetFor
import HandS.Text
import HandS.SortInts
import PyProof.ReprReads
import KE.SortData
import KE.DataMinMax
import KE.DataCmp
import HandS.Ends
import HandS.Words
import HandS.RaiseMore
import PyProof.ReprRoads
import PySem.Challenge.RW_wordscancel_k14_one_commutator
set_option Elab.async false
set_option linter.all false
set_option maxRecDepth 100000
set_option maxHeartbeats 1000000
/-! PySx: slices with a step: a rule of our own. -/
namespace L2
open PySem PySem.Spec PyProof.Rows
/-- the items of xs[lo:hi:k] -/
def pickL {α : Type} (xs : List α) (lo hi : Option Int) (k : Int) : List α := (sliceRange (sliceBounds lo hi (some k) xs.length).1 (sliceBounds lo hi (some k) xs.length).2.1 (sliceBounds lo hi (some k) xs.length).2.2).filterMap (xs[·]?)
theorem vals_pick {xs : List V} {its : List Value} (r : Vals xs its) (is : List Nat) : Vals (is.filterMap (xs[·]?)) (is.filterMap (its[·]?)) := by
  induction is with
  | nil => exact .nil
  | cons i is ih =>
    rw [List.filterMap_cons, List.filterMap_cons]
    have key : ∀ {xs : List V} {its : List Value} (i : Nat), Vals xs its → (xs[i]? = none ∧ its[i]? = none) ∨ ∃ x v, xs[i]? = some x ∧ its[i]? = some v ∧ RelV x v := by
      intro xs its i r
      induction r generalizing i with
      | nil => exact .inl ⟨rfl, rfl⟩
      | cons r t ih =>
        cases i with
        | zero => exact .inr ⟨_, _, rfl, rfl, r⟩
        | succ i => simpa using ih i
    rcases key i r with ⟨e1, e2⟩ | ⟨x, v, e1, e2, rv⟩
    · rw [e1, e2]; exact ih
    · rw [e1, e2]; exact .cons rv ih
section
variable {X : Cx} {e : Expr} {lo hi : Option Expr} {te : TE} {tl th : TO} {p1 p2 pos : Pos} {c : Nat} {k : Int}
def tStp (K : PySem.W.Frag) (k : Int) (te : TE) (tl th : TO) : TE := fun σ H Q => te σ H fun x H1 => tl σ H1 fun l H2 => th σ H2 fun u H3 => ∃ a xs, x = .ref a ∧ SqL K H3 a xs ∧ (pickL xs l u k).length ≤ sizeLine ∧ ∀ p, H3 p = none → Q (.ref p) (upd H3 p (.lst (pickL xs l u k)))
theorem pe_step (h0 : k ≠ 0) (he : PE X e te) (hl : PO X lo tl) (hu : PO X hi th) : PE X (.Subscript e (.Slice lo hi (some (.Constant (.int k) c p1)) p2) pos) (tStp X.K k te tl th) := by
  refine ⟨fun pins s σ H Q I h => ?_⟩
  refine Subscript_ (thn (he.run pins s σ H _ I h) fun v s1 ⟨x, H1, I1, r1, q1⟩ => ?_)
  have hst : PO X (some (.Constant (.int k) c p1)) (tPart (tC (.int k))) := po_some pe_int
  refine wpAny_Slice (thn (hl.run pins s1 σ H1 _ I1 q1) fun vl s2 ⟨l, H2, I2, pl, q2⟩ => thn (hu.run pins s2 σ H2 _ I2 q2) fun vu s3 ⟨u, H3, I3, pu, q3⟩ => ?_)
  refine thn (hst.run pins s3 σ H3 (fun o H4 => o = some k ∧ H4 = H3) I3 ⟨k, rfl, rfl, rfl⟩) fun vs s4 ⟨o, H4, I4, ps, eo, e4⟩ => ?_
  subst eo e4
  obtain ⟨a, xs, ex, hx, hz2, q⟩ := q3
  subst ex
  cases r1
  have I5 : Inv X pins σ H4 { s4 with heap := s4.heap.push { cls := .type "slice", data := .fields #[vl, vu, vs] } } := I4.kept (t' := s4.toks) fun b ob q => Heap.get?_push_of_some _ q
  obtain ⟨its, r, ht, hz⟩ := I5.list hx
  have hlen := r.length
  show wpAny (model X.prog X.w) X.A (subscriptTail e (.Slice lo hi (some (.Constant (.int k) c p1)) p2) (.ref a) (.ref s4.heap.objs.size)) (EP X pins σ Q) X.xe { s4 with heap := s4.heap.push { cls := .type "slice", data := .fields #[vl, vu, vs] } }
  refine tail_any (ops := [.ref a, .ref s4.heap.objs.size]) ht.isList.typeIs (PySem.slot_list_getitem.lookup) ?_ (by with_unfolding_all rfl)
  refine wpAny_getItem_list_slice ht.isList (Heap.IsSliceOf.new _ vl vu vs) pl pu ps (by simpa using h0) ?_ (by rw [List.size_toArray]; omega)
  have ep : slicePick its.toArray l u (some k) = ((sliceRange (sliceBounds l u (some k) xs.length).1 (sliceBounds l u (some k) xs.length).2.1 (sliceBounds l u (some k) xs.length).2.2).filterMap (its[·]?)).toArray := by
    unfold slicePick
    rw [List.size_toArray, hlen]
    have : (fun i : Nat => its.toArray[i]?) = fun i => its[i]? := funext fun i => by simp
    rw [this]
  rw [ep]
  refine ⟨.ref _, _, I5.laid (t' := s4.toks) (o := .lst (pickL xs l u k)) (fun b ob q => Heap.get?_push_of_some _ q) (Nat.le_refl _) ?_, rfl, q _ (I5.hok.fresh (Nat.le_refl _))⟩
  exact ⟨hz2, _, 0, vals_pick r _, Heap.get?_push_size _ rfl⟩
end
end L2
/-! PyDef: value trees with ownership, the combinators, and the compile of the syntax into them. -/
namespace PY
open PySem L2

abbrev D := PyData
/-- what a slot holds: frozen data, a fresh list or tuple that nothing else reaches -/
inductive O where
  | frz (d : D)
  | own (os : List O)
  | otup (os : List O)
mutual
def O.d : O → D
  | .frz d => d
  | .own os => .list (O.ds os)
  | .otup os => .tuple (O.ds os)
def O.ds : List O → List D
  | [] => []
  | o :: os => o.d :: O.ds os
end
theorem O.ds_map : ∀ os : List O, O.ds os = os.map O.d
  | [] => rfl
  | o :: os => by rw [List.map_cons, ← O.ds_map os]; rfl
def scalar : D → Bool
  | .none | .bool _ | .int _ | .str _ => true
  | _ => false
mutual
/-- no frozen part but scalars -/
def O.self : O → Bool
  | .frz d => scalar d
  | .own os => O.selfs os
  | .otup os => O.selfs os
def O.selfs : List O → Bool
  | [] => true
  | o :: os => o.self && O.selfs os
end
def O.isFrz : O → Bool
  | .frz _ => true
  | _ => false
def O.flat : O → Bool
  | .frz _ => true
  | .own os => os.all O.isFrz
  | .otup os => os.all O.isFrz
abbrev Env := List (Option O)
/-- a value: frozen, fresh, or the very value of a slot -/
inductive R where
  | frz (d : D)
  | own (o : O)
  | bor (i : Nat) (d : D)
def R.d : R → D
  | .frz d => d
  | .own o => o.d
  | .bor _ d => d
abbrev Ev := Env → Option (R × Env)
abbrev Tst := Env → Option (Bool × Env)
abbrev Itw := Env → Option (List D × Env)
inductive Ctl where
  | next (e : Env)
  | brk (e : Env)
  | cont (e : Env)
  | ret (o : O)
abbrev Stm := Env → Option Ctl

def fz : R → Env → D × Env
  | .frz d, env => (d, env)
  | .own o, env => (o.d, env)
  | .bor i d, env => (d, env.set i (some (.frz d)))
def tk : R → Env → O × Env
  | .frz d, env => (.frz d, env)
  | .own o, env => (o, env)
  | .bor i d, env => (.frz d, env.set i (some (.frz d)))
def flatAt (env : Env) (i : Nat) : Bool := match env[i]? with
  | some (some o) => o.flat
  | _ => false
def sh : R → Env → D × Env
  | .frz d, env => (d, env)
  | .own o, env => (o.d, env)
  | .bor i d, env => if flatAt env i then (d, env) else (d, env.set i (some (.frz d)))
def fzs : List R → Env → List D × Env
  | [], env => ([], env)
  | r :: rs, env => ((fz r env).1 :: (fzs rs (fz r env).2).1, (fzs rs (fz r env).2).2)
def tks : List R → Env → List O × Env
  | [], env => ([], env)
  | r :: rs, env => ((tk r env).1 :: (tks rs (tk r env).2).1, (tks rs (tk r env).2).2)
/-- a new list of frozen items -/
def mkL (ds : List D) : R := .own (.own (ds.map .frz))
def mkT (ds : List D) : R := .own (.otup (ds.map .frz))
def ofO : O → R
  | .frz d => .frz d
  | o => .own o

/-! ### operators by values -/
def binV : Operator → D → D → Option R
  | .Add, .int i, .int j => some (.frz (.int (i + j)))
  | .Add, .list xs, .list ys => if xs.length + ys.length ≤ sizeLine then some (mkL (xs ++ ys)) else none
  | .Add, .str x, .str y => if x.length + y.length ≤ sizeLine then some (.frz (.str (x ++ y))) else none
  | .Sub, .int i, .int j => some (.frz (.int (i - j)))
  | .Mult, .int i, .int j => if (-(2 ^ 64) < i ∧ i < 2 ^ 64) ∨ (-(2 ^ 64) < j ∧ j < 2 ^ 64) then some (.frz (.int (i * j))) else
      if i.natAbs.log2 + j.natAbs.log2 < 1000000 then some (.frz (.int (i * j))) else none
  | .Mult, .list xs, .int k => if -(2 ^ 63) ≤ k ∧ k < 2 ^ 63 ∧ xs.length * k.toNat ≤ sizeLine then some (mkL (List.replicate k.toNat xs).flatten) else none
  | .FloorDiv, .int i, .int j => if j ≠ 0 ∧ j.natAbs < 1073741824 then some (.frz (.int (i.fdiv j))) else none
  | .Mod, .int i, .int j => if j ≠ 0 then some (.frz (.int (i.fmod j))) else none
  | .Pow, .int i, .int j => if 0 ≤ j ∧ j ≤ 1000000 ∧ i.natAbs < 2 ^ 64 then some (.frz (.int (i ^ j.toNat))) else none
  | _, _, _ => none
/-- tuples one behind the other: frozen -/
def catT (op : Operator) (a b : D) : Option D := match op, a, b with
  | .Add, .tuple xs, .tuple ys => if xs.length + ys.length ≤ sizeLine then some (.tuple (xs ++ ys)) else none
  | _, _, _ => none
def eqD (a b : D) : Option Bool := match a, b with
  | .str x, .str y => some (decide (x = y))
  | .int i, .int j => some (decide (i = j))
  | .bool i, .bool j => some (decide (i = j))
  | a, b => if SeqAt.shaped a = true ∧ SeqAt.shaped b = true then some (PyData.eqv a b) else none
def isNoneD : D → Bool
  | .none => true
  | _ => false
/-- lists and tuples compared -/
def seqOrd (a b : D) : Bool := (match a with
  | .list _ => true
  | .tuple _ => true
  | _ => false) && PySem.W.alike a b && decide (a.depth ≤ 60)
def ordV : CmpOp → D → D → Option Bool
  | .Lt, a, b => if seqOrd a b = true then some (PySem.W.dataLt a b) else none
  | .LtE, a, b => if seqOrd a b = true then some (!PySem.W.dataLt b a) else none
  | .Gt, a, b => if seqOrd a b = true then some (PySem.W.dataLt b a) else none
  | .GtE, a, b => if seqOrd a b = true then some (!PySem.W.dataLt a b) else none
  | _, _, _ => none
def cmpV : CmpOp → D → D → Option Bool
  | .Eq, a, b => eqD a b
  | .NotEq, a, b => (eqD a b).map (!·)
  | .Lt, .int i, .int j => some (decide (i < j))
  | .LtE, .int i, .int j => some (decide (i ≤ j))
  | .Gt, .int i, .int j => some (decide (j < i))
  | .GtE, .int i, .int j => some (decide (j ≤ i))
  | .Is, a, .none => some (isNoneD a)
  | .IsNot, a, .none => some (!isNoneD a)
  | .Is, .bool a, .bool b => some (a == b)
  | .IsNot, .bool a, .bool b => some (!(a == b))
  | .In, a, .list ys => if SeqAt.shaped a = true ∧ SeqAt.shaped (.list ys) = true then some (ys.any fun y => PyData.eqv y a) else none
  | .NotIn, a, .list ys => if SeqAt.shaped a = true ∧ SeqAt.shaped (.list ys) = true then some (!ys.any fun y => PyData.eqv y a) else none
  | op, a, b => ordV op a b
def ixV : D → D → Option D
  | .list xs, .int i => atI xs i
  | .tuple xs, .int i => atI xs i
  | .str z, .int i => if z.length ≤ sizeLine then (atI z.cps.toList i).map fun c => .str ⟨#[c]⟩ else none
  | _, _ => none
def cutD (xs : List D) (lo hi : Option Int) : List D := (xs.drop (HT.sIx xs.length 0 lo)).take (HT.sIx xs.length xs.length hi - HT.sIx xs.length 0 lo)
def slV : D → Option Int → Option Int → Option R
  | .list xs, lo, hi => some (mkL (cutD xs lo hi))
  | _, _, _ => none
/-- a part of a tuple: frozen -/
def cutT : D → Option Int → Option Int → Option D
  | .tuple xs, lo, hi => some (.tuple (cutD xs lo hi))
  | _, _, _ => none
def asInt : D → Option Int
  | .int i => some i
  | _ => none
def asBool : D → Option Bool
  | .bool b => some b
  | _ => none
def lenV : D → Option Int
  | .list xs => some xs.length
  | .tuple xs => some xs.length
  | .str z => if z.length ≤ sizeLine then some z.length else none
  | _ => none
def tyName : D → Option String
  | .none => some "NoneType"
  | .bool _ => some "bool"
  | .int _ => some "int"
  | .str _ => some "str"
  | .list _ => some "list"
  | .tuple _ => some "tuple"
  | .dict _ => none
def isInst (t : String) (d : D) : Option Bool := (tyName d).bind fun a => kitB a t
def intsOf : List D → Option (List Int)
  | [] => some []
  | .int i :: r => (intsOf r).map (i :: ·)
  | _ :: _ => none
def minL : Int → List Int → Int
  | m, [] => m
  | m, a :: r => minL (if a < m then a else m) r
def maxL : Int → List Int → Int
  | m, [] => m
  | m, a :: r => maxL (if m < a then a else m) r
def minI : List Int → Option Int
  | [] => none
  | m :: r => some (minL m r)
def maxI : List Int → Option Int
  | [] => none
  | m :: r => some (maxL m r)
/-- built-in functions whose answer is a scalar -/
def biV (x : String) (ds : List D) : Option D := match x, ds with
  | "len", [d] => (lenV d).map .int
  | "abs", [.int i] => some (.int (if i < 0 then -i else i))
  | "int", [.int i] => some (.int i)
  | "int", [.bool b] => some (.int (if b then 1 else 0))
  | "max", [.int i, .int j] => some (.int (if j > i then j else i))
  | "min", [.int i, .int j] => some (.int (if j < i then j else i))
  | "sum", [.list ds] => (intsOf ds).map fun ns => .int ns.sum
  | "max", [.list ds] => (intsOf ds).bind fun ns => (maxI ns).map .int
  | "min", [.list ds] => (intsOf ds).bind fun ns => (minI ns).map .int
  | "repr", [d] => if d.canLay0 = true ∧ d.showable = true ∧ d.depth ≤ 60 ∧ d.shown.length ≤ sizeLine then some (.str d.shown) else none
  | _, _ => none
def insI (a : Int) : List Int → List Int
  | [] => [a]
  | b :: r => if a ≤ b then a :: b :: r else b :: insI a r
def sortI : List Int → List Int
  | [] => []
  | a :: r => insI a (sortI r)
/-- data that can be sorted -/
def tupNE : D → Bool
  | .tuple (_ :: _) => true
  | _ => false
def notNT : D → Bool
  | .none => false
  | .tuple _ => false
  | _ => true
def sortOk (xs : List D) : Bool := (xs.all fun d => xs.all fun e => PySem.W.alike d e) && (xs.all tupNE || xs.all notNT) && xs.all fun d => decide (d.depth ≤ 60)
def sortD (xs : List D) : List D := xs.mergeSort (PySem.W.dataLe false fun d => d)
/-- data of which the least can be told -/
def alikeOk (xs : List D) : Bool := (xs.all fun d => xs.all fun e => PySem.W.alike d e) && (xs.all fun d => !isNoneD d) && decide (PyData.depthAll xs ≤ 60)
def minV : D → Option D
  | .list (d :: ds) => if alikeOk (d :: ds) = true then some (PySem.W.minD d ds) else none
  | _ => none
def flatO : O → Bool
  | .own os => os.all fun o => match o with
    | .frz d => scalar d
    | _ => false
  | _ => false
def flatR : R → Bool
  | .own (.own os) => os.all flatO
  | _ => false
def canO : D → O
  | .list ds => .own (ds.map .frz)
  | d => .frz d
/-- .. a new list or tuple of the argument's items -/
def biS (x : String) (ds : List D) : Option R := match x, ds with
  | "list", [.list xs] => some (mkL xs)
  | "list", [.tuple xs] => some (mkL xs)
  | "tuple", [.list xs] => some (mkT xs)
  | "sorted", [.list xs] => match intsOf xs with
    | some ns => some (mkL ((sortI ns).map .int))
    | none => if sortOk xs = true then some (mkL (sortD xs)) else none
  | _, _ => none

/-! ### expressions -/
def eName (i : Nat) : Ev := fun env => match env[i]? with
  | some (some (.frz d)) => some (.frz d, env)
  | some (some o) => some (.bor i o.d, env)
  | _ => none
def eD (d : D) : Ev := fun env => some (.frz d, env)
def eNone : Ev := fun _ => none
def eBin (op : Operator) (a b : Ev) : Ev := fun env => (a env).bind fun x => (b x.2).bind fun y => match catT op x.1.d y.1.d with
  | some d => some (.frz d, (fz y.1 (fz x.1 y.2).2).2)
  | none => (binV op (sh x.1 y.2).1 (sh y.1 (sh x.1 y.2).2).1).map fun r => (r, (sh y.1 (sh x.1 y.2).2).2)
def eNeg (a : Ev) : Ev := fun env => (a env).bind fun x => (asInt x.1.d).map fun i => (.frz (.int (-i)), x.2)
def eNot (a : Ev) : Ev := fun env => (a env).bind fun x => (asBool x.1.d).map fun b => (.frz (.bool (!b)), x.2)
def eAnd (a b : Ev) : Ev := fun env => (a env).bind fun x => (asBool x.1.d).bind fun c => if c then b x.2 else some (.frz (.bool false), x.2)
def eOr (a b : Ev) : Ev := fun env => (a env).bind fun x => (asBool x.1.d).bind fun c => if c then some (.frz (.bool true), x.2) else b x.2
def eCmp (op : CmpOp) (a b : Ev) : Ev := fun env => (a env).bind fun x => (b x.2).bind fun y => (cmpV op x.1.d y.1.d).map fun c => (.frz (.bool c), y.2)
def eCmp2 (op op' : CmpOp) (a b c : Ev) : Ev := fun env => (a env).bind fun x => (b x.2).bind fun y => (cmpV op x.1.d y.1.d).bind fun k =>
  if k then (c y.2).bind fun z => (cmpV op' y.1.d z.1.d).map fun k' => (.frz (.bool k'), z.2) else some (.frz (.bool false), y.2)
/-- the item itself, of a fresh list or tuple that is not kept -/
def pickO (r : R) (i : D) : Option O := match r, i with
  | .own (.own os), .int k => atI os k
  | .own (.otup os), .int k => atI os k
  | _, _ => none
def ixF (r : R) (i : D) (env : Env) (d : D) : R × Env := if scalar d = true then (.frz d, env) else match pickO r i with
  | some o => (ofO o, env)
  | none => (.frz d, (sh r env).2)
def eIx (a b : Ev) : Ev := fun env => (a env).bind fun x => (b x.2).bind fun y => (ixV x.1.d y.1.d).map (ixF x.1 y.1.d y.2)
def ePart (o : Option Ev) (env : Env) : Option (Option Int × Env) := match o with
  | none => some (none, env)
  | some a => (a env).bind fun x => (asInt x.1.d).map fun i => (some i, x.2)
def eSl (a : Ev) (lo hi : Option Ev) : Ev := fun env => (a env).bind fun x => (ePart lo x.2).bind fun l => (ePart hi l.2).bind fun h => match cutT x.1.d l.1 h.1 with
  | some d => some (.frz d, (fz x.1 h.2).2)
  | none => (slV (sh x.1 h.2).1 l.1 h.1).map fun r => (r, (sh x.1 h.2).2)
def stpV : D → Option Int → Option Int → Int → Option R
  | .list xs, lo, hi, k => if (pickL xs lo hi k).length ≤ sizeLine then some (mkL (pickL xs lo hi k)) else none
  | _, _, _, _ => none
/-- a[lo:hi:k], k a number -/
def eStp (a : Ev) (lo hi : Option Ev) (k : Int) : Ev := fun env => (a env).bind fun x => (ePart lo x.2).bind fun l => (ePart hi l.2).bind fun h =>
  (stpV (sh x.1 h.2).1 l.1 h.1 k).map fun r => (r, (sh x.1 h.2).2)
def eRev (a : Ev) : Ev := fun env => (a env).bind fun x => match (sh x.1 x.2).1 with
  | .list xs => some (mkL xs.reverse, (sh x.1 x.2).2)
  | _ => none
def evs : List Ev → Env → Option (List R × Env)
  | [], env => some ([], env)
  | f :: fs, env => (f env).bind fun x => (evs fs x.2).map fun y => (x.1 :: y.1, y.2)
def eCall (call : List D → Option O) (as : List Ev) : Ev := fun env => (evs as env).bind fun x => (call (fzs x.1 x.2).1).map fun o =>
  (ofO o, if o.self then x.2 else (fzs x.1 x.2).2)
def eBi (x : String) (as : List Ev) : Ev := fun env => (evs as env).bind fun y => (biV x (y.1.map R.d)).map fun d => (.frz d, y.2)
/-- min(a): a scalar, or the least of data -/
def eMin (f : Ev) : Ev := fun env => match eBi "min" [f] env with
  | some r => some r
  | none => (f env).bind fun y => (minV y.1.d).map fun d => if flatR y.1 = true then (.own (canO d), y.2) else (.frz d, (sh y.1 y.2).2)
/-- methods whose answer is a scalar -/
def metV (x : String) (d : D) (ds : List D) : Option D := match x, d, ds with
  | "upper", .str a, [] => if a.length ≤ 5592405 then some (.str (Txt.upper a)) else none
  | "count", .list xs, [.int k] => (intsOf xs).map fun ns => .int (ns.count k : Nat)
  | "index", .list xs, [d] => if SeqAt.shaped (.list xs) = true ∧ SeqAt.shaped d = true then (xs.findIdx? fun y => PyData.eqv y d).map fun (j : Nat) => .int (j : Int) else none
  | _, _, _ => none
def eMet0 (x : String) (o : Ev) : Ev := fun env => (o env).bind fun y => (metV x y.1.d []).map fun d => (.frz d, y.2)
def eMet1 (x : String) (o a : Ev) : Ev := fun env => (o env).bind fun y => (a y.2).bind fun z => (metV x y.1.d [z.1.d]).map fun d => (.frz d, z.2)
/-- .. of a fresh one: the items stay fresh -/
def biM (x : String) (r : R) : Option R := match x, r with
  | "list", .own (.own os) => some (.own (.own os))
  | "list", .own (.otup os) => some (.own (.own os))
  | "tuple", .own (.own os) => some (.own (.otup os))
  | _, _ => none
def eBiS (x : String) (a : Ev) : Ev := fun env => (a env).bind fun y => match biM x y.1 with
  | some r => some (r, y.2)
  | none => (biS x [(sh y.1 y.2).1]).map fun r => (r, (sh y.1 y.2).2)
def eIsi (t : String) (a : Ev) : Ev := fun env => (a env).bind fun x => (isInst t x.1.d).map fun b => (.frz (.bool b), x.2)
def eList (as : List Ev) : Ev := fun env => (evs as env).bind fun x => if x.1.length ≤ sizeLine then some (.own (.own (tks x.1 x.2).1), (tks x.1 x.2).2) else none
def eTup (as : List Ev) : Ev := fun env => (evs as env).bind fun x => if x.1.length ≤ sizeLine then some (.own (.otup (tks x.1 x.2).1), (tks x.1 x.2).2) else none

/-! ### tests -/
def tV0 (a : Ev) : Tst := fun env => (a env).bind fun x => (asBool x.1.d).map fun b => (b, x.2)
/-- all slots frozen -/
def frzAll (env : Env) : Env := env.map fun x => x.map fun o => O.frz o.d
/-- a test is read with all slots frozen: its answer is its own, the slots stay as they were -/
def tV (a : Ev) : Tst := fun env => (tV0 a (frzAll env)).map fun x => (x.1, env)
def selfR : R → Bool
  | .frz d => scalar d
  | .own o => o.self
  | .bor _ _ => false
/-- read with all slots frozen; an answer that is all its own leaves the slots as they were -/
def eTm (f : Ev) : Ev := fun env => (f (frzAll env)).bind fun x => if selfR x.1 = true then some (x.1, env) else f env
def tNot' (a : Tst) : Tst := fun env => (a env).map fun x => (!x.1, x.2)
def tAnd' (a b : Tst) : Tst := fun env => (a env).bind fun x => if x.1 then b x.2 else some (false, x.2)
def tOr' (a b : Tst) : Tst := fun env => (a env).bind fun x => if x.1 then some (true, x.2) else b x.2

/-! ### what is walked -/
def iV (a : Ev) : Itw := fun env => (a env).bind fun x => match (fz x.1 x.2).1 with
  | .list xs => some (xs, (fz x.1 x.2).2)
  | .tuple xs => some (xs, (fz x.1 x.2).2)
  | _ => none
def rangeD (lo : Int) (n : Nat) : List D := (List.range n).map fun (i : Nat) => PyData.int (lo + (i : Int))
def iR1 (a : Ev) : Itw := fun env => (a env).bind fun x => (asInt x.1.d).bind fun j => if -(2 ^ 62) ≤ j ∧ j < 2 ^ 62 then some (rangeD 0 j.toNat, x.2) else none
def iR2 (a b : Ev) : Itw := fun env => (a env).bind fun x => (b x.2).bind fun y => (asInt x.1.d).bind fun i => (asInt y.1.d).bind fun j =>
  if -(2 ^ 62) ≤ i ∧ i < 2 ^ 62 ∧ -(2 ^ 62) ≤ j ∧ j < 2 ^ 62 then some (rangeD i (j - i).toNat, y.2) else none
/-- list(range(..)) -/
def eLRg (it : Itw) : Ev := fun env => (it env).bind fun x => if x.1.length ≤ 10000 then some (mkL x.1, x.2) else none
def downD (lo : Int) (n : Nat) : List D := (List.range n).map fun (i : Nat) => PyData.int (lo - (i : Int))
/-- range(a, b, -1) -/
def iR3 (a b c : Ev) : Itw := fun env => (a env).bind fun x => (b x.2).bind fun y => (c y.2).bind fun z => (asInt x.1.d).bind fun i => (asInt y.1.d).bind fun j => (asInt z.1.d).bind fun k =>
  if k = -1 ∧ -(2 ^ 62) ≤ i ∧ i < 2 ^ 62 ∧ -(2 ^ 62) ≤ j ∧ j < 2 ^ 62 then some (downD i (i - j).toNat, z.2) else none
def iRv (a : Ev) : Itw := fun env => (a env).bind fun x => match (fz x.1 x.2).1 with
  | .list xs => some (xs.reverse, (fz x.1 x.2).2)
  | _ => none
inductive Tgt where
  | one (i : Nat)
  | many (is : List Nat)
def Tgt.slots : Tgt → List Nat
  | .one i => [i]
  | .many is => is
def setMany : List Nat → List D → Env → Option Env
  | [], [], env => some env
  | i :: is, d :: ds, env => setMany is ds (env.set i (some (.frz d)))
  | _, _, _ => none
def assignT : Tgt → D → Env → Option Env
  | .one i, d, env => some (env.set i (some (.frz d)))
  | .many is, .tuple ds, env => setMany is ds env
  | .many is, .list ds, env => setMany is ds env
  | _, _, _ => none
/-! ### comprehensions -/
def wipeE (env : Env) : List Nat → Env
  | [] => env
  | v :: vs => (wipeE env vs).set v none
def ownAt (env : Env) (i : Nat) : Bool := match env[i]? with
  | some (some (.frz _)) => false
  | some (some _) => true
  | _ => false
def lcGo (vs : List Nat) (tg : Tgt) (tst : Tst) (elt : Ev) : List D → Env → List O → Option (List O × Env)
  | [], w, acc => some (acc, w)
  | d :: ds, w, acc => (assignT tg d w).bind fun w1 => (tst w1).bind fun b =>
      if b.1 then (elt b.2).bind fun r => if acc.length < sizeLine then lcGo vs tg tst elt ds (wipeE (tk r.1 r.2).2 vs) (acc ++ [(tk r.1 r.2).1]) else none
      else lcGo vs tg tst elt ds (wipeE b.2 vs) acc
def restE (env w : Env) : List Nat → Env
  | [] => w
  | v :: vs => (restE env w vs).set v (env[v]?.getD none)
def tTrue : Tst := fun env => some (true, env)
def eLC (vs : List Nat) (tg : Tgt) (it : Itw) (tst : Tst) (elt : Ev) : Ev := fun env => (it env).bind fun x =>
  if vs.all (fun i => !ownAt x.2 i && decide (i < x.2.length)) then (lcGo vs tg tst elt x.1 (wipeE x.2 vs) []).map fun y => (.own (.own y.1), restE x.2 y.2 vs) else none

/-- [elt for tg in it if tst for tg1 in it1 if tst1] -/
def lc2Go (vs : List Nat) (tg : Tgt) (tst : Tst) (it1 : Itw) (vs1 : List Nat) (tg1 : Tgt) (tst1 : Tst) (elt : Ev) : List D → Env → List O → Option (List O × Env)
  | [], w, acc => some (acc, w)
  | d :: ds, w, acc => (assignT tg d w).bind fun w1 => (tst w1).bind fun b =>
      if b.1 then (it1 b.2).bind fun x => (lcGo vs1 tg1 tst1 elt x.1 (wipeE x.2 vs1) acc).bind fun y => lc2Go vs tg tst it1 vs1 tg1 tst1 elt ds (wipeE y.2 vs) y.1
      else lc2Go vs tg tst it1 vs1 tg1 tst1 elt ds (wipeE b.2 vs) acc
def eLC2 (vs : List Nat) (tg : Tgt) (it : Itw) (tst : Tst) (it1 : Itw) (vs1 : List Nat) (tg1 : Tgt) (tst1 : Tst) (elt : Ev) : Ev := fun env => (it env).bind fun x =>
  if vs.all (fun i => !ownAt x.2 i && decide (i < x.2.length)) then (lc2Go vs tg tst it1 vs1 tg1 tst1 elt x.1 (wipeE x.2 vs) []).map fun y => (.own (.own y.1), restE x.2 y.2 vs) else none

/-! ### statements -/
def sSet (i : Nat) (a : Ev) : Stm := fun env => (a env).map fun x => .next ((tk x.1 x.2).2.set i (some (tk x.1 x.2).1))
def putMany : List Nat → List O → Env → Option Env
  | [], [], env => some env
  | i :: is, o :: os, env => putMany is os (env.set i (some o))
  | _, _, _ => none
def unpackO : O → Option (List O)
  | .frz (.tuple ds) => some (ds.map .frz)
  | .otup os => some os
  | .frz (.list ds) => some (ds.map .frz)
  | .own os => some os
  | _ => none
def sSets (is : List Nat) (a : Ev) : Stm := fun env => (a env).bind fun x => (unpackO (tk x.1 x.2).1).bind fun os => (putMany is os (tk x.1 x.2).2).map .next
/-- a, b = x, y -/
def sPar (is : List Nat) (fs : List Ev) : Stm := fun env => (evs fs env).bind fun x => (putMany is (tks x.1 x.2).1 (tks x.1 x.2).2).map .next
def slotL (env : Env) (i : Nat) : Option (List O) := match env[i]? with
  | some (some (.own os)) => some os
  | _ => none
def sAppend (i : Nat) (a : Ev) : Stm := fun env => (slotL env i).bind fun _ => (a env).bind fun x => (slotL (tk x.1 x.2).2 i).bind fun os =>
  if os.length < sizeLine then some (.next ((tk x.1 x.2).2.set i (some (.own (os ++ [(tk x.1 x.2).1]))))) else none
/-- for x(n) in y(m): x.append(a), the items of y fresh -/
def itemsGo (n m : Nat) (a : Ev) : List O → Env → Option (List O × Env)
  | [], env => some ([], env)
  | .own cs :: os, env => (sAppend n a (env.set n (some (.own cs)))).bind fun c => match c with
    | .next e1 => (slotL e1 n).bind fun cs' => match e1[m]? with
      | some none => (itemsGo n m a os (e1.set n none)).map fun y => (.own cs' :: y.1, y.2)
      | _ => none
    | _ => none
  | _ :: _, _ => none
def sForA (n m : Nat) (a : Ev) : Stm := fun env => (slotL env m).bind fun os => if n ≠ m ∧ n < env.length then
    (itemsGo n m a os ((env.set m none).set n none)).map fun y => .next (y.2.set m (some (.own y.1))) else none
/-- the items of a fresh list (true) or tuple in a slot -/
def chAt (env : Env) (i : Nat) : Option (Bool × List O) := match env[i]? with
  | some (some (.own os)) => some (true, os)
  | some (some (.otup os)) => some (false, os)
  | _ => none
def mkO : Bool → List O → O
  | true, os => .own os
  | false, os => .otup os
def ownJ (os : List O) (j : Nat) : Option (List O) := match os[j]? with
  | some (.own cs) => some cs
  | _ => none
/-- x[ix].append(a), x and x[ix] fresh -/
def sAppend1 (i : Nat) (ix a : Ev) : Stm := fun env => (chAt env i).bind fun _ => (ix env).bind fun y => (asInt y.1.d).bind fun k => (chAt y.2 i).bind fun os1 => (ixN os1.2.length k).bind fun j => (ownJ os1.2 j).bind fun _ =>
  (a y.2).bind fun x => (chAt (tk x.1 x.2).2 i).bind fun os2 => (ownJ os2.2 j).bind fun cs =>
    if cs.length < sizeLine then some (.next ((tk x.1 x.2).2.set i (some (mkO os2.1 (os2.2.set j (.own (cs ++ [(tk x.1 x.2).1]))))))) else none
def sPop (i : Nat) : Stm := fun env => (slotL env i).bind fun os => if os.length = 0 then none else some (.next (env.set i (some (.own os.dropLast))))
def sSetPop (j i : Nat) : Stm := fun env => (slotL env i).bind fun os => (os.getLast?).map fun o => .next ((env.set i (some (.own os.dropLast))).set j (some o))
def sStore (i : Nat) (ix a : Ev) : Stm := fun env => (a env).bind fun x => (slotL (tk x.1 x.2).2 i).bind fun _ => (ix (tk x.1 x.2).2).bind fun y => (asInt y.1.d).bind fun k =>
  (slotL y.2 i).bind fun os => (ixN os.length k).map fun j => .next (y.2.set i (some (.own (os.set j (tk x.1 x.2).1))))
def sto1 (i : Nat) (ix : Ev) (o : O) : Env → Option Env := fun env => (slotL env i).bind fun _ => (ix env).bind fun y => (asInt y.1.d).bind fun k => (slotL y.2 i).bind fun os => (ixN os.length k).map fun j => y.2.set i (some (.own (os.set j o)))
/-- s[i], t[j] = f -/
def sStore2 (i : Nat) (g : Ev) (j : Nat) (h f : Ev) : Stm := fun env => (f env).bind fun x => (unpackO (tk x.1 x.2).1).bind fun os => match os with
  | [o, u] => (sto1 i g o (tk x.1 x.2).2).bind fun e => (sto1 j h u e).map .next
  | _ => none
def sExpr (a : Ev) : Stm := fun env => (a env).map fun x => .next x.2
def sRet (a : Ev) : Stm := fun env => (a env).map fun x => match x.1 with
  | .frz d => .ret (.frz d)
  | .own o => .ret o
  | .bor i d => .ret ((x.2[i]?.getD none).getD (.frz d))
/-- return x + [..]: the items of a fresh x move into the answer -/
def sRetAdd (i : Nat) (f : Ev) : Stm := fun env => match slotL env i with
  | some _ => (f env).bind fun x => (slotL x.2 i).bind fun os => match x.1 with
    | .own (.own os2) => if os.length + os2.length ≤ sizeLine then some (.ret (.own (os ++ os2))) else none
    | _ => none
  | none => sRet (eBin .Add (eName i) f) env
/-- the items for which a test holds -/
def pickGo (n : Nat) (t : Tst) : List O → Env → Option (List O)
  | [], _ => some []
  | o :: os, w => (t (w.set n (some (.frz o.d)))).bind fun b => (pickGo n t os (b.2.set n none)).map fun r => if b.1 = true then o :: r else r
/-- return [x(n) for x in y(m) if t][0]: the item of a fresh y moves into the answer -/
def sRetPick (n m : Nat) (t : Tst) (f : Ev) : Stm := fun env => match slotL env m with
  | some os => if n < env.length ∧ os.length ≤ sizeLine then (pickGo n t os ((frzAll env).set n none)).bind fun r => r.head?.map .ret else none
  | none => sRet f env
/-- return [x for x in call(..) if ..]: the items of the fresh list move -/
def sRetFilt (n : Nat) (f : Ev) (t : Tst) (g : Stm) : Stm := fun env => match f env with
  | some (.own (.own os), env1) => if n < env1.length ∧ os.length ≤ sizeLine then (pickGo n t os ((frzAll env1).set n none)).map fun r => .ret (.own r) else none
  | _ => g env
def mvO (env : Env) : R → O
  | .frz d => .frz d
  | .own o => o
  | .bor i d => (env[i]?.getD none).getD (.frz d)
def bors : List R → List Nat
  | [] => []
  | .bor i _ :: rs => i :: bors rs
  | _ :: rs => bors rs
def dupN : List Nat → Bool
  | [] => false
  | i :: is => is.contains i || dupN is
/-- a tuple is handed back: what the slots hold moves into it -/
def sRetT (as : List Ev) : Stm := fun env => (evs as env).bind fun x => if x.1.length ≤ sizeLine then some (.ret (.otup (if dupN (bors x.1) = true then (tks x.1 x.2).1 else x.1.map (mvO x.2)))) else none
def sRetN : Stm := fun _ => some (.ret (.frz .none))
def sNext : Stm := fun env => some (.next env)
def sBrk : Stm := fun env => some (.brk env)
def sCont : Stm := fun env => some (.cont env)
def sSeq (a b : Stm) : Stm := fun env => (a env).bind fun c => match c with
  | .next e => b e
  | c => some c
def sIf (t : Tst) (a b : Stm) : Stm := fun env => (t env).bind fun x => if x.1 then a x.2 else b x.2
def forGo (tg : Tgt) (body : Stm) : List D → Env → Option Ctl
  | [], env => some (.next env)
  | d :: ds, env => (assignT tg d env).bind fun e1 => (body e1).bind fun c => match c with
    | .next e => forGo tg body ds e
    | .cont e => forGo tg body ds e
    | .brk e => some (.next e)
    | .ret o => some (.ret o)
def sFor (tg : Tgt) (it : Itw) (body : Stm) : Stm := fun env => (it env).bind fun x => forGo tg body x.1 x.2
def whileGo (t : Tst) (body : Stm) : Nat → Env → Option Ctl
  | 0, _ => none
  | n + 1, env => (t env).bind fun x => if x.1 then (body x.2).bind fun c => match c with
      | .next e => whileGo t body n e
      | .cont e => whileGo t body n e
      | .brk e => some (.next e)
      | .ret o => some (.ret o)
    else some (.next x.2)
def fuelW : Nat := 1000000
def sWhile (t : Tst) (body : Stm) : Stm := fun env => whileGo t body fuelW env
def sNone : Stm := fun _ => none

/-! ### the compile -/
structure Ctx where
  N : List Str
  glob : Str → Option D
  call : Str → List D → Option O
  isDef : Str → Bool
def okName (x : Str) : Bool := !(x == ("__debug__" : Str)) && !(x == ("__classdict__" : Str)) && !(x == ("__name__" : Str))
def visB (sc : Scope) (x : Str) : Bool := okName x && match sc.names.lookup x with
  | some .local => true
  | some .cell => true
  | some .free => true
  | _ => false
def locB (sc : Scope) (x : Str) : Bool := match sc.names.lookup x with
  | some .local => true
  | some .cell => true
  | _ => false
def locOnly (sc : Scope) (x : Str) : Bool := match sc.names.lookup x with
  | some .local => true
  | _ => false
def fnKind (sc : Scope) : Bool := match (if sc.kind.isAnnotationScope then ScopeKind.function else sc.kind) with
  | .function => true
  | _ => false
def glB (sc : Scope) (x : Str) : Bool := okName x && match sc.names.lookup x with
  | some .globalImplicit => true
  | _ => false
def ixOf (N : List Str) (x : Str) : Option Nat := N.findIdx? (· == x)
def bi1 (x : Str) : Option String := if x = "len" then some "len" else if x = "abs" then some "abs" else if x = "int" then some "int" else if x = "sum" then some "sum" else if x = "max" then some "max" else if x = "min" then some "min" else if x = "repr" then some "repr" else none
def bi2 (x : Str) : Option String := if x = "max" then some "max" else if x = "min" then some "min" else none
def biL (x : Str) : Option String := if x = "list" then some "list" else if x = "tuple" then some "tuple" else if x = "sorted" then some "sorted" else none
def met0 (x : Str) : Option String := if x = "upper" then some "upper" else none
def met1 (x : Str) : Option String := if x = "count" then some "count" else if x = "index" then some "index" else none
def tyOf (x : Str) : Option String := if x = "int" then some "int" else if x = "bool" then some "bool" else if x = "list" then some "list" else if x = "tuple" then some "tuple" else if x = "str" then some "str" else none
def namesIx (N : List Str) (ok : Str → Bool) : List Expr → Option (List Nat)
  | [] => some []
  | .Name x _ :: r => if ok x then (ixOf N x).bind fun i => (namesIx N ok r).map (i :: ·) else none
  | _ :: _ => none
def tgtOf (N : List Str) (ok : Str → Bool) : Expr → Option Tgt
  | .Name x _ => if ok x then (ixOf N x).map .one else none
  | .Tuple es _ _ => (namesIx N ok es).map .many
  | _ => none
def ownOf (N : List Str) (scope : Scope) : List (Str × Nat) := scope.names.filterMap fun p => match p.2 with
  | .local => (ixOf N p.1).map fun i => (p.1, i)
  | .cell => (ixOf N p.1).map fun i => (p.1, i)
  | _ => none
def noSetX : Expr → Bool
  | .Set .. => false
  | _ => true
def stepOf : Expr → Option Int
  | .Constant (.int n) _ _ => if n = 0 then none else some n
  | _ => none
def isRev : Expr → Bool
  | .Slice none none (some (.UnaryOp .USub (.Constant (.int 1) _ _) _)) _ => true
  | _ => false
/-- a subscript's index that is taken as it stands -/
def plainIx : Expr → Bool
  | .Slice .. => false
  | _ => true
def noStar : Expr → Bool
  | .Starred .. => false
  | _ => true
/-- the names of a, b = x, y where the stores go by names -/
def rgArgs (Γ : Ctx) (sc : Scope) (n : String) : Expr → Option (List Expr)
  | .Call (.Name x _) [u] [] _ => if n = "list" ∧ x = "range" ∧ (glB sc x && noStar u && !Γ.isDef x) = true then some [u] else none
  | .Call (.Name x _) [u, v] [] _ => if n = "list" ∧ x = "range" ∧ (glB sc x && noStar u && noStar v && !Γ.isDef x) = true then some [u, v] else none
  | _ => none
def parOk (sc : Scope) (ts vs : List Expr) : Bool := match ts, vs with
  | [.Name x px, .Name y py], [a, b] => locOnly sc x && locOnly sc y && !(x == y) && (py.line == px.line) && fnKind sc && noStar a && noStar b && !(foldedForSure 8 a && foldedForSure 8 b) && !(constantsAlone 8 a && constantsAlone 8 b)
  | _, _ => false
/-- the names of a, b = x, y where one of them is held in a cell: the pair is made and taken apart -/
def cellOk (sc : Scope) (ts vs : List Expr) : Bool := match ts, vs with
  | [.Name x _, .Name y _], [_, _] => !(locOnly sc x && locOnly sc y)
  | _, _ => false
def isMark : CmpOp → Expr → Bool
  | _, .Set .. => true
  | _, _ => false

/-- the targets of s[i], t[j] = e -/
def subs2 (N : List Str) (sc : Scope) : List Expr → Option (Nat × Expr × Nat × Expr)
  | [.Subscript (.Name x _) ix _, .Subscript (.Name y _) iy _] => if visB sc x && plainIx ix && visB sc y && plainIx iy then (ixOf N x).bind fun i => (ixOf N y).map fun j => (i, ix, j, iy) else none
  | _ => none
mutual
def cE (Γ : Ctx) : Nat → Scope → Expr → Ev
  | 0, _, _ => eNone
  | k + 1, sc, e => match e with
    | .Name x _ => if visB sc x then (match ixOf Γ.N x with | some i => eName i | none => eNone) else
        if glB sc x then (match Γ.glob x with | some d => eD d | none => eNone) else eNone
    | .Constant c _ _ => match c with
      | .int i => eD (.int i)
      | .bool b => eD (.bool b)
      | .none => eD .none
      | .str x => eD (.str x)
      | _ => eNone
    | .BinOp a op b _ => eBin op (cE Γ k sc a) (cE Γ k sc b)
    | .UnaryOp op a _ => match op with
      | .USub => eNeg (cE Γ k sc a)
      | .Not => eNot (cE Γ k sc a)
      | _ => eNone
    | .BoolOp op es _ => cBool Γ k sc op es
    | .Compare a ops cs _ => match ops, cs with
      | [op], [b] => if isMark op b then eNone else eCmp op (cE Γ k sc a) (cE Γ k sc b)
      | [op, op'], [b, c] => if isMark op b || isMark op' c then eNone else eCmp2 op op' (cE Γ k sc a) (cE Γ k sc b) (cE Γ k sc c)
      | _, _ => eNone
    | .Call f args kws cpos => match kws with
      | [] => match f with
        | .Attribute o m apos => match o with
          | .Name _ _ => if apos.endLine == cpos.line then (match args with
            | [] => (match met0 m with | some n => eMet0 n (cE Γ k sc o) | none => eNone)
            | [a] => if noStar a then (match met1 m with | some n => eMet1 n (cE Γ k sc o) (cE Γ k sc a) | none => eNone) else eNone
            | _ => eNone) else eNone
          | _ => eNone
        | .Name x _ => if glB sc x && args.all noStar then (if Γ.isDef x then eCall (Γ.call x) (cEs Γ k sc args) else match args with
          | [a] => match biL x with
            | some n => match rgArgs Γ sc n a with
              | some [u] => eLRg (iR1 (cE Γ k sc u))
              | some [u, v] => eLRg (iR2 (cE Γ k sc u) (cE Γ k sc v))
              | _ => eBiS n (cE Γ k sc a)
            | none => if x = "min" then eMin (cE Γ k sc a) else match bi1 x with
              | some n => eBi n [cE Γ k sc a]
              | none => eNone
          | [a, b] => match bi2 x with
            | some n => eBi n [cE Γ k sc a, cE Γ k sc b]
            | none => if x = "isinstance" then (match b with
              | .Name t _ => if glB sc t && !Γ.isDef t then (match tyOf t with | some n => eIsi n (cE Γ k sc a) | none => eNone) else eNone
              | _ => eNone) else eNone
          | _ => eNone) else eNone
        | _ => eNone
      | _ => eNone
    | .Subscript a ix _ => match ix with
      | .Slice lo hi st _ => match st with
        | none => eSl (cE Γ k sc a) (cO Γ k sc lo) (cO Γ k sc hi)
        | some st => if isRev ix then eRev (cE Γ k sc a) else match stepOf st with
          | some n => eStp (cE Γ k sc a) (cO Γ k sc lo) (cO Γ k sc hi) n
          | none => eNone
      | ix => eIx (cE Γ k sc a) (cE Γ k sc ix)
    | .List es _ => eList (cEs Γ k sc es)
    | .Tuple es _ _ => eTup (cEs Γ k sc es)
    | .ListComp elt gs scope _ => match gs with
      | [g] => if g.is_async = 0 ∧ blkC Γ.N sc scope (ownOf Γ.N scope) = true then (match tgtOf Γ.N (locB scope) g.target with
          | some tg => eLC ((ownOf Γ.N scope).map (·.2)) tg (cI Γ k sc g.iter) (cIfs Γ k (relS scope sc) g.ifs) (cE Γ k (relS scope sc) elt)
          | none => eNone) else eNone
      | [g, g1] => if g.is_async = 0 ∧ g1.is_async = 0 ∧ blkC Γ.N sc scope (ownOf Γ.N scope) = true ∧ noSetX g.iter = true ∧ noSetX g1.iter = true then (match tgtOf Γ.N (locB scope) g.target, tgtOf Γ.N (locB scope) g1.target with
          | some tg, some tg1 => eLC2 ((ownOf Γ.N scope).map (·.2)) tg (cI Γ k sc g.iter) (cIfs Γ k (relS scope sc) g.ifs) (cI Γ k (relS scope sc) g1.iter) tg1.slots tg1 (cIfs Γ k (relS scope sc) g1.ifs) (cE Γ k (relS scope sc) elt)
          | _, _ => eNone) else eNone
      | _ => eNone
    | _ => eNone
  termination_by structural k => k
def cEs (Γ : Ctx) : Nat → Scope → List Expr → List Ev
  | 0, _, es => es.map fun _ => eNone
  | k + 1, sc, es => match es with
    | [] => []
    | e :: r => cE Γ k sc e :: cEs Γ k sc r
  termination_by structural k => k
def cO (Γ : Ctx) : Nat → Scope → Option Expr → Option Ev
  | 0, _, _ => some eNone
  | k + 1, sc, o => match o with
    | none => none
    | some e => some (cE Γ k sc e)
  termination_by structural k => k
def cBool (Γ : Ctx) : Nat → Scope → BoolOp → List Expr → Ev
  | 0, _, _, _ => eNone
  | k + 1, sc, op, es => match es with
    | [] => eNone
    | [a] => cE Γ k sc a
    | a :: r => match op with
      | .And => eAnd (cE Γ k sc a) (cBool Γ k sc op r)
      | .Or => eOr (cE Γ k sc a) (cBool Γ k sc op r)
  termination_by structural k => k
def cT (Γ : Ctx) : Nat → Scope → Expr → Tst
  | 0, _, _ => fun _ => none
  | k + 1, sc, e => match e with
    | .UnaryOp op a _ => match op with
      | .Not => tNot' (cT Γ k sc a)
      | _ => fun _ => none
    | .BoolOp op es _ => cTs Γ k sc op es
    | .IfExp .. => fun _ => none
    | e => tV (cE Γ k sc e)
  termination_by structural k => k
def cTs (Γ : Ctx) : Nat → Scope → BoolOp → List Expr → Tst
  | 0, _, _, _ => fun _ => none
  | k + 1, sc, op, es => match es with
    | [] => fun _ => none
    | [a] => cT Γ k sc a
    | a :: r => match op with
      | .And => tAnd' (cT Γ k sc a) (cTs Γ k sc op r)
      | .Or => tOr' (cT Γ k sc a) (cTs Γ k sc op r)
  termination_by structural k => k
def cIfs (Γ : Ctx) : Nat → Scope → List Expr → Tst
  | 0, _, _ => fun _ => none
  | k + 1, sc, es => match es with
    | [] => tTrue
    | [c] => cT Γ k sc c
    | _ => fun _ => none
  termination_by structural k => k
def cI (Γ : Ctx) : Nat → Scope → Expr → Itw
  | 0, _, _ => fun _ => none
  | k + 1, sc, e => match e with
    | .Call f args kws _ => match f, kws with
      | .Name x _, [] => if glB sc x && !Γ.isDef x && (x == "range" || x == "reversed") && args.all noStar then (match args with
          | [a] => if x = "range" then iR1 (cE Γ k sc a) else iRv (cE Γ k sc a)
          | [a, b] => if x = "range" then iR2 (cE Γ k sc a) (cE Γ k sc b) else fun _ => none
          | [a, b, c] => if x = "range" then iR3 (cE Γ k sc a) (cE Γ k sc b) (cE Γ k sc c) else fun _ => none
          | _ => fun _ => none) else iV (cE Γ k sc e)
      | _, _ => fun _ => none
    | .Set .. => fun _ => none
    | e => iV (cE Γ k sc e)
  termination_by structural k => k
end
/-- x + [..] -/
def addLc (N : List Str) (sc : Scope) : Expr → Option (Nat × Expr)
  | .BinOp (.Name x _) .Add (.ListComp elt gs s p) _ => if visB sc x then (ixOf N x).map fun i => (i, .ListComp elt gs s p) else none
  | _ => none
/-- [x for x in y if c][0] -/
def pickOf (N : List Str) (sc : Scope) : Expr → Option (Nat × Nat × Scope × List Expr)
  | .Subscript (.ListComp (.Name x _) [⟨.Name x' _, .Name y _, [c], 0⟩] scope _) (.Constant (.int 0) _ _) _ =>
    if x = x' ∧ visB sc y = true ∧ visB (relS scope sc) x = true ∧ locB scope x = true ∧ (ixOf N x).map (fun i => [(x, i)]) = some (ownOf N scope) ∧ blkC N sc scope (ownOf N scope) = true then (ixOf N x).bind fun n => (ixOf N y).map fun m => (n, m, scope, [c]) else none
  | _ => none
def filtOf (N : List Str) (sc : Scope) : Expr → Option (Nat × Expr × Scope × List Expr)
  | .ListComp (.Name x _) [⟨.Name x' _, .Call (.Name f pf) args kws pc, [c], 0⟩] scope _ =>
    if x = x' ∧ visB (relS scope sc) x = true ∧ locB scope x = true ∧ (ixOf N x).map (fun i => [(x, i)]) = some (ownOf N scope) ∧ blkC N sc scope (ownOf N scope) = true then (ixOf N x).map fun n => (n, .Call (.Name f pf) args kws pc, scope, [c]) else none
  | _ => none
/-- for x in y: x.append(a) -/
def appLoop (N : List Str) (sc : Scope) (t it : Expr) (body : List Stmt) : Option (Nat × Nat × Expr) := match t, it, body with
  | .Name x _, .Name y _, [.Expr (.Call (.Attribute (.Name z _) m apos) [a] [] cpos) _] => if x = z ∧ m = "append" ∧ locB sc x = true ∧ visB sc x = true ∧ visB sc y = true ∧ (apos.endLine == cpos.line) = true ∧ noStar a = true then
      (ixOf N x).bind fun i => (ixOf N y).map fun j => (i, j, a) else none
  | _, _, _ => none
mutual
def cS (Γ : Ctx) : Nat → Scope → Stmt → Stm
  | 0, _, _ => sNone
  | k + 1, sc, st => match st with
    | .Assign ts e _ => match ts with
      | [t] => match t with
        | .Name y _ => if locB sc y then (match ixOf Γ.N y with
          | some j => cAsg Γ k sc j e
          | none => sNone) else sNone
        | .Tuple es _ _ => match e with
          | .Tuple vs _ _ => if parOk sc es vs then (match namesIx Γ.N (locB sc) es with
            | some is => sPar is (cEs Γ k sc vs)
            | none => sNone) else if cellOk sc es vs then (match namesIx Γ.N (locB sc) es with
            | some is => sSets is (eTm (cE Γ k sc e))
            | none => sNone) else (match subs2 Γ.N sc es with
            | some (i, ix, j, iy) => sStore2 i (cE Γ k sc ix) j (cE Γ k sc iy) (cE Γ k sc e)
            | none => sNone)
          | e => (match namesIx Γ.N (locB sc) es with
            | some is => sSets is (eTm (cE Γ k sc e))
            | none => sNone)
        | .Subscript o i _ => match o with
          | .Name s _ => if visB sc s && plainIx i then (match ixOf Γ.N s with
            | some j => sStore j (cE Γ k sc i) (cE Γ k sc e)
            | none => sNone) else sNone
          | _ => sNone
        | _ => sNone
      | _ => sNone
    | .Expr e _ => match e with
      | .Call f args kws cpos => match kws with
        | [] => match f with
          | .Attribute o m apos => match o with
            | .Name s _ => if visB sc s && apos.endLine == cpos.line then (match ixOf Γ.N s with
              | some i => match args with
                | [a] => if m = "append" ∧ noStar a = true then sAppend i (cE Γ k sc a) else sNone
                | [] => if m = "pop" then sPop i else sNone
                | _ => sNone
              | none => sNone) else sNone
            | .Subscript o' ix _ => match o' with
              | .Name s _ => if visB sc s && apos.endLine == cpos.line && plainIx ix then (match ixOf Γ.N s with
                | some i => match args with
                  | [a] => if m = "append" ∧ noStar a = true then sAppend1 i (cE Γ k sc ix) (cE Γ k sc a) else sNone
                  | _ => sNone
                | none => sNone) else sNone
              | _ => sNone
            | _ => sNone
          | .Name _ _ => sExpr (cE Γ k sc e)
          | _ => sNone
        | _ => sNone
      | _ => sNone
    | .If c a b _ => sIf (cT Γ k sc c) (cB Γ k sc a) (cB Γ k sc b)
    | .For t it body els _ => match els with
      | [] => match appLoop Γ.N sc t it body with
        | some (n, m, a) => sForA n m (cE Γ k sc a)
        | none => match tgtOf Γ.N (locB sc) t with
          | some tg => sFor tg (cI Γ k sc it) (cB Γ k sc body)
          | none => sNone
      | _ => sNone
    | .While c body els _ => match els with
      | [] => sWhile (cT Γ k sc c) (cB Γ k sc body)
      | _ => sNone
    | .Return o _ => match o with
      | some e => match e with
        | .Tuple es _ _ => sRetT (cEs Γ k sc es)
        | e => match addLc Γ.N sc e with
          | some (i, b) => sRetAdd i (cE Γ k sc b)
          | none => match pickOf Γ.N sc e with
            | some (n, m, scope, cs) => sRetPick n m (cIfs Γ k (relS scope sc) cs) (cE Γ k sc e)
            | none => match filtOf Γ.N sc e with
              | some (n, it, scope, cs) => sRetFilt n (cE Γ k sc it) (cIfs Γ k (relS scope sc) cs) (sRet (cE Γ k sc e))
              | none => sRet (cE Γ k sc e)
      | none => sRetN
    | .Pass _ => sNext
    | .Break _ => sBrk
    | .Continue _ => sCont
    | _ => sNone
  termination_by structural k => k
def cAsg (Γ : Ctx) : Nat → Scope → Nat → Expr → Stm
  | 0, _, _, _ => sNone
  | k + 1, sc, j, e => match e with
    | .Call f args kws cpos => match f with
      | .Attribute o m apos => match o, args, kws with
        | .Name s _, [], [] => if visB sc s && apos.endLine == cpos.line && decide (m = "pop") then (match ixOf Γ.N s with
          | some i => sSetPop j i
          | none => sNone) else sSet j (eTm (cE Γ k sc e))
        | _, _, _ => sSet j (eTm (cE Γ k sc e))
      | _ => sSet j (eTm (cE Γ k sc e))
    | .SetComp .. => sNone
    | .DictComp .. => sNone
    | .ListComp .. => sSet j (cE Γ k sc e)
    | e => sSet j (eTm (cE Γ k sc e))
  termination_by structural k => k
def cB (Γ : Ctx) : Nat → Scope → List Stmt → Stm
  | 0, _, _ => sNone
  | k + 1, sc, sts => match sts with
    | [] => sNext
    | [s] => cS Γ k sc s
    | s :: r => sSeq (cS Γ k sc s) (cB Γ k sc r)
  termination_by structural k => k
end

/-! ### the defs -/
structure DefI where
  name : Str
  N : List Str
  ps : List Str
  st : Stmt
def fuelS : Nat := 200
def outO : Option Ctl → Option O
  | some (.ret o) => some o
  | some (.next _) => some (.frz .none)
  | _ => none
def startE (N : List Str) (ds : List D) : Env := ds.map (fun d => some (.frz d)) ++ List.replicate (N.length - ds.length) none
def findDef (defs : List DefI) (x : Str) : Option DefI := defs.find? fun d => d.name == x
def ctxOf (defs : List DefI) (glob : Str → Option D) (call : Str → List D → Option O) (N : List Str) : Ctx := ⟨N, glob, call, fun x => (findDef defs x).isSome⟩
def callN (defs : List DefI) (glob : Str → Option D) : Nat → Str → List D → Option O
  | 0, _, _ => none
  | n + 1, x, ds => match findDef defs x with
    | some d => if ds.length = d.ps.length then outO (cB (ctxOf defs glob (callN defs glob n) d.N) fuelS (defScope d.st) (defBody d.st) (startE d.N ds)) else none
    | none => none
end PY
set_option maxHeartbeats 1000000
/-! PyG: defs that are called where no list or tuple is being shown (so repr may be asked). -/
namespace PY
open PySem PySem.Spec PyProof.Rows L2
/-- a def keeps its promise wherever no repr is under way -/
structure FnG (P : Program) (w : World) (K : PySem.W.Frag) (mg : Str → Option Value) (base : Heap) (k : Nat) (f : Addr) (fd : FuncData) (ps : List Str) (sp : Sp) : Prop where
  len : ∀ vs H Q E, sp vs H Q E → vs.length = ps.length
  run : ∀ (A : Around) (outer : List PySem.Env) (s : Shared) (H : Hp) (args : Args) (us : List Value) (vs : List V) (Q : VK) (E : XK), Room k A → A.guards = some [] → Env0 P w K mg base A outer s H → BindsTo s fd args (ps.zip us) → Vals vs us → sp vs H Q E →
    codeAny (model P w) A (.call (.ref f) args) (CR L2.CX0 outer P w H s Q E) s
/-- by its body -/
theorem fnG_of {P : Program} {w : World} {K : PySem.W.Frag} {mg : Str → Option Value} {base : Heap} {x qual : Str} {st : Stmt} {f : Addr} {fd : FuncData} {N ps : List Str} {k : Nat} {sp : Sp} (F : Fun K x qual st f fd) (S : FnScope N ps (defScope st)) (len : ∀ vs H Q E, sp vs H Q E → vs.length = ps.length)
    (hbody : ∀ (cdv : Value) (A : Around) (outer : List PySem.Env) (s : Shared) (H : Hp) (vs : List V) (Q : VK) (E : XK), Room k (A.deeper (envOfC qual (defScope st) s.heap.objs.size f cdv)) → A.guards = some [] → sp vs H Q E →
      ∃ t, PSs (cxOf L2.CX0 P w K mg base N qual (defScope st) f cdv A outer s H E).nox (defBody st) t ∧ t { nx := fun _ H' => Q .non H', rt := Q } (start N vs) H) : FnG P w K mg base (k + 1) f fd ps sp := by
  obtain ⟨oc, od, kV, doc, pm, an, cdv, ct, osl, rfl, lk, hcd⟩ := F.ex
  constructor
  · exact len
  · intro A outer s H args us vs Q E hr hg e0 hb r hsp
    have KX : K.In s.heap := e0.mod.kin.keeps fun b o e => (e0.bs b o e).1
    have kinds : ∀ y ∈ ps.zip us, (defScope st).names.lookup y.1 = some .local ∨ ((defScope st).names.lookup y.1 = some .cell ∧ ((cellsFrom (s.heap.objs.size + 1) (defScope st).names []).lookup y.1).isSome = true) := by
      rintro ⟨n, v⟩ hy
      refine (S.par n (List.of_mem_zip hy).1).imp id fun q => ⟨q, PySem.W.cellsFrom_some _ _ _ (.inl q)⟩
    refine codeAny_call_function hr.depth (KX _ _ lk) rfl S.co S.gen rfl (PySem.W.codeRec_of KX hcd) (hb _ _ _ _ ?_)
    refine wpAny_newFunctionEnv_cells S.kind kinds ?_
    rintro env rfl s1 y
    refine ⟨(e0.mod.nolimit.keeps fun b o e => (e0.bs b o e).1).keeps y.toInCall.keep, codeAny_func ?_⟩
    obtain ⟨t, ht, hq⟩ := hbody cdv A outer s H vs Q E (hr.deeper _) hg hsp
    refine wpAny_mono (ht.nox.run [] s1 (start N vs) H _ (inv_start S hr.hd e0 (len _ _ _ _ hsp) r y) hq) ?_ fun e s' hs => hs
    rintro (_ | _ | _ | u) s' hs
    · obtain ⟨σ', H', J, q⟩ := hs
      exact ⟨V.non, H', J.os, J.bare, J.base, J.hok, rfl, q⟩
    · exact (hs.choose_spec.choose_spec.2 : False).elim
    · exact (hs.choose_spec.choose_spec.2 : False).elim
    · obtain ⟨v, σ', H', J, rv, q⟩ := hs
      exact ⟨v, H', J.os, J.bare, J.base, J.hok, rv, q⟩
section
variable {X : Cx} {k : Nat} {f : Addr} {fd : FuncData} {ps : List Str} {sp : Sp} {x : Str} {p pos : Pos} {e : Expr} {es : List Expr} {t : TA}
theorem runG {pins : List (Addr × Obj)} {σ : L2.St} {H : Hp} {s : Shared} {Q : VK} {us : List Value} {vs : List V} (F : FnG X.prog X.w X.K X.mg X.base k f fd ps sp) (hr : Room k X.A) (hgd : X.A.guards = some []) (hb : Binds X.K fd ps [])
    (I : Inv X pins σ H s) (r : Vals vs us) (h : sp vs H Q L2.E0) : wpAny (model X.prog X.w) X.A (call (.ref f) us) (EP X pins σ Q) X.xe s := by
  have hl : (us ++ []).length = ps.length := by rw [List.append_nil, ← r.length]; exact F.len _ _ _ _ h
  have hbb := hb s us I.kIn hl
  rw [List.append_nil] at hbb
  refine wpAny_call (codeAny_mono (F.run X.A X.stack s H ⟨us, []⟩ us vs Q L2.E0 hr hgd I.env0 hbb r h) ?_)
  rintro (e | (_ | _ | _ | u)) s' hq
  · exact (hq : False).elim
  · exact (hq : False).elim
  · exact (hq : False).elim
  · exact (hq : False).elim
  · exact I.after hq
theorem pe_callG (F : FnG X.prog X.w X.K X.mg X.base k f fd ps sp) (hr : Room k X.A) (hgd : X.A.guards = some []) (hg : Gl X x) (hm : X.mg x = some (.ref f)) (hk : PySem.W.keepIn X.K (.ref f) = true) (hb : Binds X.K fd ps [])
    (ha : PA X (e :: es) t) (hdb : (x == ("__debug__" : Str)) = false) (he : starEach (e :: es) X.env = (false, eval e X.env) :: starEach es X.env) (hpl : (backTo pos (starEach es X.env)).any (·.1) = false) :
    PE X (.Call (.Name x p) (e :: es) [] pos) (tCall sp [] L2.E0 t) := by
  refine ⟨fun pins s σ H Q I h => wpAny_Call_Name_kw (ld_glob I hg hm ?_ hdb)⟩
  refine PySem.W.callWith_K (h₀ := X.base) I.ok.mod.kin hk (thn (ha.run pos pins s σ H _ I h) fun us s1 ⟨vs, H1, I1, r, q⟩ => ⟨I1.kIn, ?_⟩) he hpl
  have q : sp (vs ++ []) H1 Q L2.E0 := q
  rw [List.append_nil] at q
  exact runG F hr hgd hb I1 r q
theorem pe_callG0 (F : FnG X.prog X.w X.K X.mg X.base k f fd ps sp) (hr : Room k X.A) (hgd : X.A.guards = some []) (hg : Gl X x) (hm : X.mg x = some (.ref f)) (hk : PySem.W.keepIn X.K (.ref f) = true) (hb : Binds X.K fd ps [])
    (hdb : (x == ("__debug__" : Str)) = false) : PE X (.Call (.Name x p) [] [] pos) (tCall sp [] L2.E0 tNil) := by
  refine ⟨fun pins s σ H Q I h => wpAny_Call_Name_kw (ld_glob I hg hm ?_ hdb)⟩
  have h : sp ([] ++ []) H Q L2.E0 := h
  exact PySem.W.callWith_K0 I.kIn hk (runG (us := []) F hr hgd hb I .nil h)
/-- repr of data -/
def rReprD (K : PySem.W.Frag) : List V → Hp → VK → Prop := fun vs H Q => ∃ x d, vs = [x] ∧ Dp K H x d ∧ d.canLay0 = true ∧ d.showable = true ∧ d.depth ≤ 60 ∧ d.shown.length ≤ sizeLine ∧ Q (.str d.shown) H
theorem cr_reprD (hgd : X.A.guards = some []) (hu : X.A.units + 65 < cLine) : CallR X (.builtin "repr") (rReprD X.K) := by
  intro pins s σ H xs us Q I r h
  obtain ⟨x, d, rfl, hd, hl, hs, hdp, hz, q⟩ := h
  obtain ⟨u, rfl, ru⟩ := vals1 r
  obtain ⟨as, rd⟩ := Dp.reads I d x u hd ru
  have fin : ∀ (h' : Heap) (t : Tok) (tk : Nat), (∀ b o, s.heap.get? b = some o → h'.get? b = some o) → EP X pins σ Q (.str d.shown t) { s with heap := h', toks := tk } := fun h' t tk hk => ⟨.str d.shown, H, I.kept hk, ⟨t, rfl⟩, q⟩
  cases rd with
  | none => exact PySem.P.repr_of_none (fin s.heap _ _ fun _ _ e => e)
  | bool b => exact PySem.P.repr_of_bool (fin s.heap _ _ fun _ _ e => e)
  | int i t => exact PySem.P.repr_of_int (by simpa [PyData.showable] using hs) (fin s.heap _ _ fun _ _ e => e)
  | str y t => exact PySem.P.repr_of_str (fin s.heap _ _ fun _ _ e => e) hz
  | list h1 h2 h3 h4 => exact repr_of_reads' (.list h1 h2 h3 h4) hs (PyData.noDict_hsm (PyData.hasDict_of_canLay _ hl)) hgd (by omega) (fun _ _ e => e) (fun h' t tk hk => fin h' t tk hk) hz
  | tuple h1 h2 h3 h4 => exact repr_of_reads' (.tuple h1 h2 h3 h4) hs (PyData.noDict_hsm (PyData.hasDict_of_canLay _ hl)) hgd (by omega) (fun _ _ e => e) (fun h' t tk hk => fin h' t tk hk) hz
  | dict => cases hl
end
end PY
set_option maxHeartbeats 1000000
/-! PyG2: the law at the caller. -/
namespace PY
open PySem PySem.Spec PyProof.Rows L2
/-- the law's def is called with the script, where no repr is under way -/
theorem law_callG {P : Program} {w : World} {K : PySem.W.Frag} {mg mb : Str → Option Value} {k : Nat} {fa a : Addr} {fd : FuncData} {x : Str} {sp : Sp} {s1 : Shared} {vs : List Value} {ns : List Int} (KX : K.In s1.heap) (hns : s1.heap.Ns mainGlobals mg) (hb : s1.heap.Ns builtinsNs mb) (hbb : ∀ x : Str, x ≠ "__name__" → mb x = bootBuiltins x) (hlim : s1.heap.NoLimit)
    (hg : s1.gens = #[]) (ha : s1.heap.get? a = some { cls := .type "list", data := .seq vs.toArray }) (hi : IntsAre vs ns) (hl : ns.length ≤ sizeLine) (hr : Room k callerA)
    (F : ∀ base : Heap, K.In base → base.Ns mainGlobals mg → FnG P w K mg base k fa fd [x] sp) (hbind : ∀ (s : Shared) (u : Value), BindsTo s fd ⟨[u], []⟩ [(x, u)])
    (hsp : ∀ H : Hp, SqL K H a (ns.map V.int) → sp [.ref a] H (fun v _ => v = .bl true) fun _ _ _ => False) :
    codeAny (model P w) callerA (.call (.ref fa) ⟨[.ref a], []⟩) (fun r s' => r = .ok (.ret (.bool true)) ∧ OldK s1.heap s'.heap ∧ s'.os = s1.os ∧ AllBare s'.gens) s1 := by
  have rv := vals_ints hi
  -- the heap that is tracked: the script, unless it is the module's own
  obtain ⟨H, hS, hok, hA, hK, hF⟩ : ∃ H : Hp, SqL K H a (ns.map V.int) ∧ HOk P w H s1.heap ∧ (∀ b, H b ≠ none → b = a) ∧ (H a ≠ none → K.lookup a = none) ∧ ∀ b u, H b = some u → ∃ o ys, u = .frz o (.lst ys) := by
    cases hk : K.lookup a with
    | some o =>
      have e := KX a o hk
      rw [ha] at e
      cases e
      refine ⟨fun _ => none, .inr ⟨_, vs.toArray, _, hk, rfl, rfl, rfl, by rw [List.size_toArray, hi.length]; exact hl, by simpa using rv⟩, ?_, fun b z => absurd rfl z, fun z => absurd rfl z, ?_⟩
      · rintro b u (z : (none : Option HO) = some u)
        cases z
      · rintro b u (z : (none : Option HO) = some u)
        cases z
    | none =>
      have at_ : ∀ b u, (if b = a then some (HO.frz { cls := .type "list", data := .seq vs.toArray } (.lst (ns.map V.int))) else none) = some u → b = a ∧ u = .frz { cls := .type "list", data := .seq vs.toArray } (.lst (ns.map V.int)) := fun b u z => by
        by_cases q : b = a
        · rw [if_pos q] at z
          cases z
          exact ⟨q, rfl⟩
        · rw [if_neg q] at z
          cases z
      refine ⟨fun b => if b = a then some (.frz { cls := .type "list", data := .seq vs.toArray } (.lst (ns.map V.int))) else none, .inl (.inr ⟨_, if_pos rfl⟩), ?_, ?_, fun _ => rfl, ?_⟩
      · intro b u z
        obtain ⟨rfl, rfl⟩ := at_ b u z
        exact ⟨ha, by rw [List.length_map]; exact hl, vs, _, rv, ha⟩
      · intro b z
        by_cases q : b = a
        · exact q
        · exact absurd (if_neg q) z
      · intro b u z
        obtain ⟨rfl, rfl⟩ := at_ b u z
        exact ⟨_, _, rfl⟩
  -- what is not tracked is the ground
  have ground : ∀ {b : Addr} {o : Obj}, s1.heap.get? b = some o → (b = a → H a = none) → (hidT s1.heap H).get? b = some o := fun {b o} e n => hidT_get e (by
    cases q : H b with
    | none => rfl
    | some u =>
      have e' := hA b (by rw [q]; simp)
      subst e'
      rw [n rfl] at q
      cases q)
  have notD : ∀ {b : Addr} {o : Obj} {es : Array DictEntry} {ep : Nat}, s1.heap.get? b = some o → o.data = .dict es ep → b = a → H a = none := by
    rintro b o es ep e d rfl
    rw [ha] at e
    cases e
    cases d
  have ns2 : ∀ {b : Addr} {m : Str → Option Value}, s1.heap.Ns b m → (hidT s1.heap H).Ns b m := fun {b m} ⟨o, es, ep, e, d, r⟩ => ⟨o, es, ep, ground e (notD e d), d, r⟩
  have kin : K.In (hidT s1.heap H) := fun b o e => ground (KX b o e) (by
    rintro rfl
    cases q : H b with
    | none => rfl
    | some u => rw [hK (by rw [q]; simp)] at e; cases e)
  obtain ⟨mc, h1, h2⟩ := hlim
  have e0 : Env0 P w K mg (hidT s1.heap H) callerA [] s1 H := ⟨rfl, ⟨kin, ns2 hns, ⟨mb, ns2 hb, hbb⟩, ⟨mc, ns2 h1, h2⟩⟩, fun b o e => of_hidT e, Nat.le_of_eq (hidT_size _ _), trivial, fun b hb => absurd (show b ∈ ([] : List Addr) from hb) (by simp), hok, .of_eq hg⟩
  refine codeAny_mono ((F _ kin (ns2 hns)).run callerA [] s1 H ⟨[.ref a], []⟩ [.ref a] [.ref a] _ _ hr rfl e0 (hbind s1 (.ref a)) (.cons rfl .nil) (hsp H hS)) ?_
  rintro (e | (_ | _ | _ | u)) s' h
  · exact (h : False).elim
  · exact (h : False).elim
  · exact (h : False).elim
  · exact (h : False).elim
  obtain ⟨v, H', os, bare, un, hok', r', q⟩ := h
  have q : v = .bl true := q
  subst q
  obtain rfl : u = Value.bool true := r'
  refine ⟨rfl, OldK.of_keep fun b o e => ?_, os, bare⟩
  cases z : H b with
  | none => exact un.keep b o e z (fun m => absurd (show b ∈ ([] : List Addr) from m) (by simp)) (by simp)
  | some u =>
    obtain ⟨o', ys, rfl⟩ := hF b u z
    have e1 := (hok b _ z).1
    rw [e] at e1
    cases e1
    exact (hok' b _ (un.frzs b _ _ z)).1
/-- the row's walk -/
theorem walk_ofG {l : PySem.W.OpenLaw} {n k : Nat} {q : Program} {loose : List Str} {XP : (Str → Option Value) → Heap → Prop} {YP : World → Heap → Prop} {d : DefRec} {K : Params → PySem.W.Frag} {sp : World → Sp} {x : Str} (hn : l.most = some n) (hn2 : n ≤ sizeLine) (hdf : d.params.defaults = []) (hr : Room k callerA) (hY : ∀ (w : World) (h : Heap), YP w h → (K w.params).In h)
    (F : ∀ (w : World) (mg : Str → Option Value) (fa : Addr) (h : Heap), (K w.params).In h → h.Ns mainGlobals mg → mg d.name = some (.ref fa) →
      ∃ fd : FuncData, (∀ (s : Shared) (u : Value), BindsTo s fd ⟨[u], []⟩ [(x, u)]) ∧ ∀ base : Heap, (K w.params).In base → base.Ns mainGlobals mg → FnG l.prog w (K w.params) mg base k fa fd [x] (sp w))
    (hsp : ∀ (w : World) (H : Hp) (a : Addr) (ns : List Int), ns.length ≤ n → SqL (K w.params) H a (ns.map V.int) → sp w [.ref a] H (fun v _ => v = .bl true) fun _ _ _ => False) :
    PySem.W.WalkO q loose XP YP l.row.toRowW d [] (fun f vs => PySem.call f vs) := by
  refine Att.attach_call hn hdf ?_
  intro w s₀ s1 mg mb fa o pm cd doc a vs ns G Y ho hd hcd hmg hobj hints hlen hg
  obtain ⟨fd, hb, hF⟩ := F w mg fa _ (hY w _ Y) G.T.g hmg
  exact law_callG (hY w _ Y) G.T.g G.T.b G.T.builtins G.T.nolimit hg hobj hints (Nat.le_trans hlen hn2) hr hF hb fun H hS => hsp w H a ns hlen hS
end PY
set_option maxHeartbeats 1000000
/-! PySa: what a value tree is in a heap; frozen part, fresh parts, slots. -/
namespace PY
open PySem L2

variable {K : PySem.W.Frag}
mutual
inductive Rep (K : PySem.W.Frag) (H : Hp) : V → D → Prop
  | non : Rep K H .non .none
  | bl (b : Bool) : Rep K H (.bl b) (.bool b)
  | int (i : Int) : Rep K H (.int i) (.int i)
  | str (x : Str) : Rep K H (.str x) (.str x)
  | lst {a : Addr} {xs : List V} {ds : List D} : SqL K H a xs → Reps K H xs ds → Rep K H (.ref a) (.list ds)
  | tup {a : Addr} {xs : List V} {ds : List D} : SqT K H a xs → Reps K H xs ds → Rep K H (.ref a) (.tuple ds)
inductive Reps (K : PySem.W.Frag) (H : Hp) : List V → List D → Prop
  | nil : Reps K H [] []
  | cons {v : V} {vs : List V} {d : D} {ds : List D} : Rep K H v d → Reps K H vs ds → Reps K H (v :: vs) (d :: ds)
end
theorem SqL.mono {H H' : Hp} {a : Addr} {xs : List V} (s : Same H H') (h : SqL K H a xs) : SqL K H' a xs := s.seq h
theorem SqT.mono {H H' : Hp} {a : Addr} {xs : List V} (s : Same H H') (h : SqT K H a xs) : SqT K H' a xs := by
  rcases h with (h | ⟨o, h⟩) | h
  · exact .inl (.inl (s _ _ h))
  · exact .inl (.inr ⟨o, s _ _ h⟩)
  · exact .inr h
mutual
theorem Rep.mono {H H' : Hp} (s : Same H H') : ∀ (d : D) {v : V}, Rep K H v d → Rep K H' v d
  | .none, _, h => by cases h; exact .non
  | .bool _, _, h => by cases h; exact .bl _
  | .int _, _, h => by cases h; exact .int _
  | .str _, _, h => by cases h; exact .str _
  | .list ds, _, h => by
    cases h with
    | lst r q => exact .lst (SqL.mono s r) (Reps.mono s ds q)
  | .tuple ds, _, h => by
    cases h with
    | tup r q => exact .tup (SqT.mono s r) (Reps.mono s ds q)
  | .dict _, _, h => by cases h
theorem Reps.mono {H H' : Hp} (s : Same H H') : ∀ (ds : List D) {vs : List V}, Reps K H vs ds → Reps K H' vs ds
  | [], _, h => by cases h; exact .nil
  | d :: ds, _, h => by
    cases h with
    | cons r q => exact .cons (Rep.mono s d r) (Reps.mono s ds q)
end
mutual
theorem Rep.dp {H : Hp} : ∀ (d : D) {v : V}, Rep K H v d → Dp K H v d
  | .none, _, h => by cases h; exact .non
  | .bool _, _, h => by cases h; exact .bl _
  | .int _, _, h => by cases h; exact .int _
  | .str _, _, h => by cases h; exact .str _
  | .list ds, _, h => by
    cases h with
    | lst r q => exact .lst r (Reps.dp ds q)
  | .tuple ds, _, h => by
    cases h with
    | tup r q => exact .tup r (Reps.dp ds q)
  | .dict _, _, h => by cases h
theorem Reps.dp {H : Hp} : ∀ (ds : List D) {vs : List V}, Reps K H vs ds → DpAll K H vs ds
  | [], _, h => by cases h; exact .nil
  | d :: ds, _, h => by
    cases h with
    | cons r q => exact .cons (Rep.dp d r) (Reps.dp ds q)
end
theorem Reps.length {H : Hp} : ∀ {vs : List V} {ds : List D}, Reps K H vs ds → vs.length = ds.length
  | _, _, .nil => rfl
  | _, _, .cons _ q => by simp [Reps.length q]
theorem Reps.append {H : Hp} : ∀ {vs ws : List V} {ds es : List D}, Reps K H vs ds → Reps K H ws es → Reps K H (vs ++ ws) (ds ++ es)
  | _, _, _, _, .nil, q => q
  | _, _, _, _, .cons r t, q => .cons r (Reps.append t q)
theorem Reps.take {H : Hp} : ∀ {vs : List V} {ds : List D} (n : Nat), Reps K H vs ds → Reps K H (vs.take n) (ds.take n)
  | _, _, 0, _ => .nil
  | _, _, _ + 1, .nil => .nil
  | _, _, n + 1, .cons r t => .cons r (Reps.take n t)
theorem Reps.drop {H : Hp} : ∀ {vs : List V} {ds : List D} (n : Nat), Reps K H vs ds → Reps K H (vs.drop n) (ds.drop n)
  | _, _, 0, q => q
  | _, _, _ + 1, .nil => .nil
  | _, _, n + 1, .cons _ t => Reps.drop n t
theorem Reps.get {H : Hp} : ∀ {vs : List V} {ds : List D} {i : Nat} {d : D}, Reps K H vs ds → ds[i]? = some d → ∃ v, vs[i]? = some v ∧ Rep K H v d
  | _, _, _, _, .nil, h => by simp at h
  | _, _, 0, _, .cons r _, h => by simp at h; subst h; exact ⟨_, rfl, r⟩
  | _, _, i + 1, d, .cons _ t, h => by
    obtain ⟨v, e, r⟩ := Reps.get (i := i) (d := d) t (by simpa using h)
    exact ⟨v, by simpa using e, r⟩
theorem Reps.reverse {H : Hp} : ∀ {vs : List V} {ds : List D}, Reps K H vs ds → Reps K H vs.reverse ds.reverse
  | _, _, .nil => .nil
  | _, _, .cons r t => by
    rw [List.reverse_cons, List.reverse_cons]
    exact (Reps.reverse t).append (.cons r .nil)
theorem Reps.rep {H : Hp} {vs : List V} {ds : List D} (h : Reps K H vs ds) : ∀ k : Nat, Reps K H (List.replicate k vs).flatten (List.replicate k ds).flatten
  | 0 => .nil
  | k + 1 => by
    rw [List.replicate_succ, List.replicate_succ, List.flatten_cons, List.flatten_cons]
    exact h.append (Reps.rep h k)

mutual
inductive RepO (K : PySem.W.Frag) (S H : Hp) : V → O → List Addr → Prop
  | frz {v : V} {d : D} : Rep K S v d → RepO K S H v (.frz d) []
  | own {p : Addr} {vs : List V} {os : List O} {fp : List Addr} : H p = some (.lst vs) → S p = none → p ∉ fp → RepOs K S H vs os fp → RepO K S H (.ref p) (.own os) (p :: fp)
  | otup {p : Addr} {vs : List V} {os : List O} {fp : List Addr} : H p = some (.tup vs) → S p = none → p ∉ fp → RepOs K S H vs os fp → RepO K S H (.ref p) (.otup os) (p :: fp)
inductive RepOs (K : PySem.W.Frag) (S H : Hp) : List V → List O → List Addr → Prop
  | nil : RepOs K S H [] [] []
  | cons {v : V} {vs : List V} {o : O} {os : List O} {f g : List Addr} : RepO K S H v o f → RepOs K S H vs os g → (∀ a ∈ f, a ∉ g) → RepOs K S H (v :: vs) (o :: os) (f ++ g)
end
theorem RepOs.length {S H : Hp} : ∀ {vs : List V} {os : List O} {fp : List Addr}, RepOs K S H vs os fp → vs.length = os.length
  | _, _, _, .nil => rfl
  | _, _, _, .cons _ q _ => by simp [RepOs.length q]
mutual
theorem RepO.mono {S H S' H' : Hp} (s : Same S S') : ∀ (o : O) {v : V} {fp : List Addr}, RepO K S H v o fp → (∀ a ∈ fp, H' a = H a ∧ S' a = none) → RepO K S' H' v o fp
  | .frz d, _, _, h, _ => by
    cases h with
    | frz r => exact .frz (r.mono s d)
  | .own os, _, _, h, k => by
    cases h with
    | own e n nn q => exact .own ((k _ List.mem_cons_self).1.trans e) (k _ List.mem_cons_self).2 nn (RepOs.mono s os q fun a m => k a (List.mem_cons_of_mem _ m))
  | .otup os, _, _, h, k => by
    cases h with
    | otup e n nn q => exact .otup ((k _ List.mem_cons_self).1.trans e) (k _ List.mem_cons_self).2 nn (RepOs.mono s os q fun a m => k a (List.mem_cons_of_mem _ m))
theorem RepOs.mono {S H S' H' : Hp} (s : Same S S') : ∀ (os : List O) {vs : List V} {fp : List Addr}, RepOs K S H vs os fp → (∀ a ∈ fp, H' a = H a ∧ S' a = none) → RepOs K S' H' vs os fp
  | [], _, _, h, _ => by cases h; exact .nil
  | o :: os, _, _, h, k => by
    cases h with
    | cons r q d => exact .cons (RepO.mono s o r fun a m => k a (List.mem_append_left _ m)) (RepOs.mono s os q fun a m => k a (List.mem_append_right _ m)) d
end
mutual
theorem RepO.dom {S H : Hp} : ∀ (o : O) {v : V} {fp : List Addr}, RepO K S H v o fp → ∀ a ∈ fp, H a ≠ none ∧ S a = none
  | .frz d, _, _, h, a, m => by cases h; cases m
  | .own os, _, _, h, a, m => by
    cases h with
    | own e n nn q =>
      rcases List.mem_cons.mp m with rfl | m
      · exact ⟨by rw [e]; simp, n⟩
      · exact RepOs.dom os q a m
  | .otup os, _, _, h, a, m => by
    cases h with
    | otup e n nn q =>
      rcases List.mem_cons.mp m with rfl | m
      · exact ⟨by rw [e]; simp, n⟩
      · exact RepOs.dom os q a m
theorem RepOs.dom {S H : Hp} : ∀ (os : List O) {vs : List V} {fp : List Addr}, RepOs K S H vs os fp → ∀ a ∈ fp, H a ≠ none ∧ S a = none
  | [], _, _, h, a, m => by cases h; cases m
  | o :: os, _, _, h, a, m => by
    cases h with
    | cons r q d =>
      rcases List.mem_append.mp m with m | m
      · exact RepO.dom o r a m
      · exact RepOs.dom os q a m
end
mutual
/-- seen in a heap that holds the frozen part and the fresh objects -/
theorem RepO.rep {S H G : Hp} (s : Same S G) : ∀ (o : O) {v : V} {fp : List Addr}, RepO K S H v o fp → (∀ a ∈ fp, G a = H a) → Rep K G v o.d
  | .frz d, _, _, h, _ => by
    cases h with
    | frz r => exact r.mono s d
  | .own os, _, _, h, k => by
    cases h with
    | own e n nn q => exact .lst (SqL.of ((k _ List.mem_cons_self).trans e)) (RepOs.rep s os q fun a m => k a (List.mem_cons_of_mem _ m))
  | .otup os, _, _, h, k => by
    cases h with
    | otup e n nn q => exact .tup (SqT.of ((k _ List.mem_cons_self).trans e)) (RepOs.rep s os q fun a m => k a (List.mem_cons_of_mem _ m))
theorem RepOs.rep {S H G : Hp} (s : Same S G) : ∀ (os : List O) {vs : List V} {fp : List Addr}, RepOs K S H vs os fp → (∀ a ∈ fp, G a = H a) → Reps K G vs (O.ds os)
  | [], _, _, h, _ => by cases h; exact .nil
  | o :: os, _, _, h, k => by
    cases h with
    | cons r q d => exact .cons (RepO.rep s o r fun a m => k a (List.mem_append_left _ m)) (RepOs.rep s os q fun a m => k a (List.mem_append_right _ m))
end
mutual
/-- no frozen part but scalars: the frozen part may be any -/
theorem RepO.anyS {S H S' : Hp} : ∀ (o : O) {v : V} {fp : List Addr}, RepO K S H v o fp → o.self = true → (∀ a ∈ fp, S' a = none) → RepO K S' H v o fp
  | .frz d, _, _, h, z, _ => by
    cases h with
    | frz r =>
      cases r with
      | lst => cases z
      | tup => cases z
      | non => exact .frz .non
      | bl => exact .frz (.bl _)
      | int => exact .frz (.int _)
      | str => exact .frz (.str _)
  | .own os, _, _, h, z, k => by
    cases h with
    | own e n nn q => exact .own e (k _ List.mem_cons_self) nn (RepOs.anyS os q z fun a m => k a (List.mem_cons_of_mem _ m))
  | .otup os, _, _, h, z, k => by
    cases h with
    | otup e n nn q => exact .otup e (k _ List.mem_cons_self) nn (RepOs.anyS os q z fun a m => k a (List.mem_cons_of_mem _ m))
theorem RepOs.anyS {S H S' : Hp} : ∀ (os : List O) {vs : List V} {fp : List Addr}, RepOs K S H vs os fp → O.selfs os = true → (∀ a ∈ fp, S' a = none) → RepOs K S' H vs os fp
  | [], _, _, h, _, _ => by cases h; exact .nil
  | o :: os, _, _, h, z, k => by
    have z' : o.self = true ∧ O.selfs os = true := by simpa [O.selfs] using z
    cases h with
    | cons r q d => exact .cons (RepO.anyS o r z'.1 fun a m => k a (List.mem_append_left _ m)) (RepOs.anyS os q z'.2 fun a m => k a (List.mem_append_right _ m)) d
end
theorem RepOs.append {S H : Hp} : ∀ {os ps : List O} {vs ws : List V} {f g : List Addr}, RepOs K S H vs os f → RepOs K S H ws ps g → (∀ a ∈ f, a ∉ g) → RepOs K S H (vs ++ ws) (os ++ ps) (f ++ g)
  | [], _, _, _, _, _, h, q, _ => by cases h; exact q
  | o :: os, ps, _, _, _, _, h, q, d => by
    cases h with
    | cons r t dj =>
      rw [List.append_assoc]
      refine .cons r (RepOs.append t q fun a m => d a (List.mem_append_right _ m)) fun a m => ?_
      rw [List.mem_append]
      rintro (z | z)
      · exact dj a m z
      · exact d a (List.mem_append_left _ m) z
theorem RepOs.frz {S H : Hp} : ∀ {vs : List V} {ds : List D}, Reps K S vs ds → RepOs K S H vs (ds.map .frz) []
  | _, _, .nil => .nil
  | _, _, .cons r t => .cons (f := []) (g := []) (.frz r) (RepOs.frz t) fun _ m => nomatch m
theorem ds_frz : ∀ ds : List D, O.ds (ds.map .frz) = ds
  | [] => rfl
  | d :: ds => by show d :: O.ds (ds.map .frz) = d :: ds; rw [ds_frz ds]

/-! ### freezing -/
open Classical in
/-- the frozen part with the objects at fp -/
noncomputable def frzS (S H : Hp) (fp : List Addr) : Hp := fun a => if a ∈ fp then H a else S a
theorem frzS_in {S H : Hp} {fp : List Addr} {a : Addr} (h : a ∈ fp) : frzS S H fp a = H a := if_pos h
theorem frzS_out {S H : Hp} {fp : List Addr} {a : Addr} (h : a ∉ fp) : frzS S H fp a = S a := if_neg h
theorem frzS_nil {S H : Hp} : frzS S H [] = S := funext fun _ => frzS_out (by simp)
theorem frzS_of {S H : Hp} {fp : List Addr} (s : Same S H) : Same S (frzS S H fp) := fun b o h => by
  by_cases m : b ∈ fp
  · rw [frzS_in m]; exact s b o h
  · rw [frzS_out m]; exact h
theorem frzS_to {S H : Hp} {fp : List Addr} (s : Same S H) : Same (frzS S H fp) H := fun b o h => by
  by_cases m : b ∈ fp
  · rw [frzS_in m] at h; exact h
  · rw [frzS_out m] at h; exact s b o h

/-! ### slots -/
structure Hld (K : PySem.W.Frag) (S H : Hp) (T : Addr → Prop) (σ : St) (env : Env) (φ : Nat → List Addr) : Prop where
  same : Same S H
  len : env.length = σ.length
  slot : ∀ i o, env[i]? = some (some o) → ∃ v, σ[i]? = some (some v) ∧ RepO K S H v o (φ i)
  nil : ∀ i, (∀ o, env[i]? ≠ some (some o)) → φ i = []
  disj : ∀ i j a, a ∈ φ i → a ∈ φ j → i = j
  fr : ∀ i a, a ∈ φ i → ¬ T a
  tdom : ∀ a, T a → H a ≠ none
theorem Hld.dom {S H : Hp} {T : Addr → Prop} {σ : St} {env : Env} {φ : Nat → List Addr} (h : Hld K S H T σ env φ) {i : Nat} {a : Addr} (m : a ∈ φ i) : H a ≠ none ∧ S a = none := by
  by_cases e : ∃ o, env[i]? = some (some o)
  · obtain ⟨o, e⟩ := e
    obtain ⟨v, _, r⟩ := h.slot i o e
    exact r.dom o a m
  · rw [h.nil i fun o q => e ⟨o, q⟩] at m
    cases m
/-- fewer objects to be left alone -/
theorem Hld.weak {S H : Hp} {T T' : Addr → Prop} {σ : St} {env : Env} {φ : Nat → List Addr} (h : Hld K S H T σ env φ) (t : ∀ a, T' a → T a) : Hld K S H T' σ env φ :=
  ⟨h.same, h.len, h.slot, h.nil, h.disj, fun i a m z => h.fr i a m (t a z), fun a z => h.tdom a (t a z)⟩
/-- the fresh objects at fq are left alone too -/
theorem Hld.guard {S H : Hp} {T : Addr → Prop} {σ : St} {env : Env} {φ : Nat → List Addr} (h : Hld K S H T σ env φ) {fq : List Addr} (d : ∀ a ∈ fq, ∀ i, a ∉ φ i) (k : ∀ a ∈ fq, H a ≠ none) : Hld K S H (fun a => T a ∨ a ∈ fq) σ env φ :=
  ⟨h.same, h.len, h.slot, h.nil, h.disj, fun i a m z => z.elim (h.fr i a m) fun z => d a z i m, fun a z => z.elim (h.tdom a) (k a)⟩
/-- the heap grows -/
theorem Hld.grow {S H S' H' : Hp} {T : Addr → Prop} {σ : St} {env : Env} {φ : Nat → List Addr} (h : Hld K S H T σ env φ) (ss : Same S S') (hh : Same H H') (sh : Same S' H') (n : ∀ i a, a ∈ φ i → S' a = none) : Hld K S' H' T σ env φ := by
  refine ⟨sh, h.len, fun i o e => ?_, h.nil, h.disj, h.fr, fun a t z => ?_⟩
  · obtain ⟨v, e1, r⟩ := h.slot i o e
    refine ⟨v, e1, r.mono ss o fun a m => ⟨?_, n i a m⟩⟩
    cases q : H a with
    | none => exact absurd q (h.dom m).1
    | some u => exact hh a u q
  · cases q : H a with
    | none => exact h.tdom a t q
    | some u => rw [hh a u q] at z; cases z
theorem Hld.lt {S H : Hp} {T : Addr → Prop} {σ : St} {env : Env} {φ : Nat → List Addr} (h : Hld K S H T σ env φ) {i : Nat} {o : O} (e : env[i]? = some (some o)) : i < σ.length := by
  rw [← h.len]
  exact (List.getElem?_eq_some_iff.mp e).1
/-- a slot gets new content: what it held is let go -/
theorem Hld.put {S H S' H' : Hp} {T : Addr → Prop} {σ : St} {env : Env} {φ : Nat → List Addr} (h : Hld K S H T σ env φ) {i : Nat} {v : V} {o : O} {fq : List Addr}
    (r : RepO K S' H' v o fq) (dq : ∀ a ∈ fq, ¬ T a ∧ ∀ j, j ≠ i → a ∉ φ j) (ss : Same S S') (sh : Same S' H') (keep : ∀ j a, j ≠ i → a ∈ φ j → H' a = H a ∧ S' a = none) (td : ∀ a, T a → H' a ≠ none) (hi : i < env.length) :
    Hld K S' H' T (σ.set i (some v)) (env.set i (some o)) (fun j => if j = i then fq else φ j) := by
  have hi' : i < σ.length := by rw [← h.len]; exact hi
  refine ⟨sh, by rw [List.length_set, List.length_set]; exact h.len, fun j u e => ?_, fun j n => ?_, fun j l a m1 m2 => ?_, fun j a m => ?_, td⟩
  · by_cases q : j = i
    · subst q
      rw [List.getElem?_set_self hi] at e
      cases e
      exact ⟨v, List.getElem?_set_self hi', by rw [if_pos rfl]; exact r⟩
    · rw [List.getElem?_set_ne (Ne.symm q)] at e
      obtain ⟨w, e1, rw'⟩ := h.slot j u e
      exact ⟨w, by rw [List.getElem?_set_ne (Ne.symm q)]; exact e1, by rw [if_neg q]; exact rw'.mono ss u fun a m => keep j a q m⟩
  · by_cases q : j = i
    · subst q
      exact absurd (List.getElem?_set_self hi) (n o)
    · rw [if_neg q]
      exact h.nil j fun u e => n u (by rw [List.getElem?_set_ne (Ne.symm q)]; exact e)
  · by_cases q : j = i
    · subst q
      rw [if_pos rfl] at m1
      by_cases q2 : l = j
      · exact q2.symm
      · rw [if_neg q2] at m2
        exact absurd m2 ((dq a m1).2 l q2)
    · rw [if_neg q] at m1
      by_cases q2 : l = i
      · subst q2
        rw [if_pos rfl] at m2
        exact absurd m1 ((dq a m2).2 j q)
      · rw [if_neg q2] at m2
        exact h.disj j l a m1 m2
  · by_cases q : j = i
    · subst q
      rw [if_pos rfl] at m
      exact (dq a m).1
    · rw [if_neg q] at m
      exact h.fr j a m
/-- a slot is forgotten -/
theorem Hld.drop {S H : Hp} {T : Addr → Prop} {σ : St} {env : Env} {φ : Nat → List Addr} (h : Hld K S H T σ env φ) (i : Nat) {x : Option V} :
    Hld K S H T (σ.set i x) (env.set i none) (fun j => if j = i then [] else φ j) := by
  refine ⟨h.same, by rw [List.length_set, List.length_set]; exact h.len, fun j u e => ?_, fun j n => ?_, fun j l a m1 m2 => ?_, fun j a m => ?_, h.tdom⟩
  · by_cases q : j = i
    · subst q
      by_cases hi : j < env.length
      · rw [List.getElem?_set_self hi] at e
        cases e
      · rw [List.getElem?_eq_none (by simpa using hi)] at e
        cases e
    · rw [List.getElem?_set_ne (Ne.symm q)] at e
      obtain ⟨w, e1, rw'⟩ := h.slot j u e
      exact ⟨w, by rw [List.getElem?_set_ne (Ne.symm q)]; exact e1, by rw [if_neg q]; exact rw'⟩
  · by_cases q : j = i
    · rw [if_pos q]
    · rw [if_neg q]
      exact h.nil j fun u e => n u (by rw [List.getElem?_set_ne (Ne.symm q)]; exact e)
  · split at m1
    · cases m1
    · split at m2
      · cases m2
      · exact h.disj j l a m1 m2
  · split at m
    · cases m
    · exact h.fr j a m

/-- slots are only frozen -/
def ELe (env env' : Env) : Prop := env'.length = env.length ∧ ∀ (i : Nat) (o : O), env[i]? = some (some o) → ∃ o' : O, env'[i]? = some (some o') ∧ o'.d = o.d
theorem ELe.refl (env : Env) : ELe env env := ⟨rfl, fun _ o e => ⟨o, e, rfl⟩⟩
theorem ELe.trans {a b c : Env} (x : ELe a b) (y : ELe b c) : ELe a c := ⟨y.1.trans x.1, fun i o e => by
  obtain ⟨o', e1, d1⟩ := x.2 i o e
  obtain ⟨o2, e2, d2⟩ := y.2 i o' e1
  exact ⟨o2, e2, d2.trans d1⟩⟩
theorem ELe.frz {env : Env} {i : Nat} {o : O} (e : env[i]? = some (some o)) : ELe env (env.set i (some (.frz o.d))) := by
  refine ⟨List.length_set, fun j u q => ?_⟩
  by_cases h : j = i
  · subst h
    rw [e] at q
    cases q
    exact ⟨.frz o.d, List.getElem?_set_self (List.getElem?_eq_some_iff.mp e).1, rfl⟩
  · exact ⟨u, by rw [List.getElem?_set_ne (Ne.symm h)]; exact q, rfl⟩

/-- a value and what it is -/
def RR (K : PySem.W.Frag) (S H : Hp) (σ : St) (env : Env) (v : V) (r : R) (fq : List Addr) : Prop := match r with
  | .frz d => Rep K S v d ∧ fq = []
  | .own o => RepO K S H v o fq
  | .bor i d => fq = [] ∧ σ[i]? = some (some v) ∧ ∃ o, env[i]? = some (some o) ∧ o.d = d
theorem RR.mono {S H S' H' : Hp} {σ : St} {env env' : Env} {v : V} {r : R} {fq : List Addr} (h : RR K S H σ env v r fq) (ss : Same S S') (hh : Same H H') (n : ∀ a ∈ fq, S' a = none) (le : ELe env env') : RR K S' H' σ env' v r fq := by
  cases r with
  | frz d => exact ⟨h.1.mono ss d, h.2⟩
  | own o =>
    refine RepO.mono ss o h fun a m => ⟨?_, n a m⟩
    have q := (RepO.dom o h a m).1
    cases z : H a with
    | none => exact absurd z q
    | some u => exact hh a u z
  | bor i d =>
    obtain ⟨e1, e2, o, e3, e4⟩ := h
    obtain ⟨o', e5, e6⟩ := le.2 i o e3
    exact ⟨e1, e2, o', e5, e6.trans e4⟩
theorem RR.dom {S H : Hp} {σ : St} {env : Env} {v : V} {r : R} {fq : List Addr} (h : RR K S H σ env v r fq) : ∀ a ∈ fq, H a ≠ none ∧ S a = none := by
  cases r with
  | frz d => intro a m; rw [h.2] at m; cases m
  | own o => exact RepO.dom o h
  | bor i d => intro a m; rw [h.1] at m; cases m
/-- what it is in the heap as it stands -/
theorem RR.rep {S H : Hp} {T : Addr → Prop} {σ : St} {env : Env} {φ : Nat → List Addr} {v : V} {r : R} {fq : List Addr} (h : RR K S H σ env v r fq) (L : Hld K S H T σ env φ) : Rep K H v r.d := by
  cases r with
  | frz d => exact h.1.mono L.same d
  | own o => exact RepO.rep L.same o h fun _ _ => rfl
  | bor i d =>
    obtain ⟨e1, e2, o, e3, e4⟩ := h
    obtain ⟨w, e5, q⟩ := L.slot i o e3
    rw [e2] at e5
    cases e5
    show Rep K H v d
    rw [← e4]
    exact RepO.rep L.same o q fun _ _ => rfl

/-- what a step of an expression leaves -/
structure EPost (K : PySem.W.Frag) (T : Addr → Prop) (σ : St) (S H : Hp) (env : Env) (S' H' : Hp) (env' : Env) (φ' : Nat → List Addr) (v : V) (r : R) (fq : List Addr) : Prop where
  hld : Hld K S' H' T σ env' φ'
  rr : RR K S' H' σ env' v r fq
  dq : ∀ a ∈ fq, ¬ T a ∧ ∀ i, a ∉ φ' i
  hh : Same H H'
  ss : Same S S'
  ts : ∀ a, T a → S' a = S a
  le : ELe env env'
/-- what freezing leaves -/
structure FPost (K : PySem.W.Frag) (T : Addr → Prop) (σ : St) (S H : Hp) (env : Env) (S' : Hp) (env' : Env) (φ' : Nat → List Addr) : Prop where
  hld : Hld K S' H T σ env' φ'
  ss : Same S S'
  ts : ∀ a, T a → S' a = S a
  le : ELe env env'
theorem FPost.refl {T : Addr → Prop} {σ : St} {S H : Hp} {env : Env} {φ : Nat → List Addr} (L : Hld K S H T σ env φ) : FPost K T σ S H env S env φ := ⟨L, Same.refl S, fun _ _ => rfl, .refl env⟩
/-- a slot is frozen -/
theorem frz_slot {S H : Hp} {T : Addr → Prop} {σ : St} {env : Env} {φ : Nat → List Addr} (L : Hld K S H T σ env φ) {i : Nat} {o : O} {v : V} (e : env[i]? = some (some o)) (ev : σ[i]? = some (some v)) :
    FPost K T σ S H env (frzS S H (φ i)) (env.set i (some (.frz o.d))) (fun j => if j = i then [] else φ j) ∧ Rep K (frzS S H (φ i)) v o.d := by
  obtain ⟨w, e1, r⟩ := L.slot i o e
  rw [ev] at e1
  cases e1
  have hi : i < env.length := (List.getElem?_eq_some_iff.mp e).1
  have r2 : Rep K (frzS S H (φ i)) v o.d := r.rep (frzS_of L.same) o fun a m => frzS_in m
  have P := L.put (i := i) (v := v) (o := .frz o.d) (fq := []) (S' := frzS S H (φ i)) (H' := H) (.frz r2) (fun _ m => nomatch m) (frzS_of L.same) (frzS_to L.same)
    (fun j a q m => ⟨rfl, by
      have n : a ∉ φ i := fun z => q (L.disj j i a m z)
      rw [frzS_out n]
      exact (L.dom m).2⟩) L.tdom hi
  have es : σ.set i (some v) = σ := by
    apply List.ext_getElem?
    intro j
    by_cases q : j = i
    · subst q
      rw [List.getElem?_set_self (by rw [← L.len]; exact hi), ev]
    · rw [List.getElem?_set_ne (Ne.symm q)]
  rw [es] at P
  exact ⟨⟨P, frzS_of L.same, fun a t => frzS_out fun m => L.fr i a m t, .frz e⟩, r2⟩
/-- a fresh value is frozen -/
theorem frz_own {S H : Hp} {T : Addr → Prop} {σ : St} {env : Env} {φ : Nat → List Addr} (L : Hld K S H T σ env φ) {o : O} {v : V} {fq : List Addr} (r : RepO K S H v o fq) (dq : ∀ a ∈ fq, ¬ T a ∧ ∀ i, a ∉ φ i) :
    FPost K T σ S H env (frzS S H fq) env φ ∧ Rep K (frzS S H fq) v o.d := by
  refine ⟨⟨L.grow (frzS_of L.same) (Same.refl H) (frzS_to L.same) fun i a m => ?_, frzS_of L.same, fun a t => frzS_out fun m => (dq a m).1 t, .refl env⟩, r.rep (frzS_of L.same) o fun a m => frzS_in m⟩
  rw [frzS_out fun z => (dq a z).2 i m]
  exact (L.dom m).2
theorem fz_ok {S H : Hp} {T : Addr → Prop} {σ : St} {env : Env} {φ : Nat → List Addr} {r : R} {v : V} {fq : List Addr} (L : Hld K S H T σ env φ) (q : RR K S H σ env v r fq) (dq : ∀ a ∈ fq, ¬ T a ∧ ∀ i, a ∉ φ i) :
    ∃ S' φ', FPost K T σ S H env S' (fz r env).2 φ' ∧ Rep K S' v (fz r env).1 ∧ (∀ i a, a ∈ φ' i → a ∈ φ i) := by
  cases r with
  | frz d => exact ⟨S, φ, .refl L, q.1, fun _ _ m => m⟩
  | own o =>
    obtain ⟨a, b⟩ := frz_own L q dq
    exact ⟨_, _, a, b, fun _ _ m => m⟩
  | bor i d =>
    obtain ⟨e1, e2, o, e3, e4⟩ := q
    subst e4
    obtain ⟨a, b⟩ := frz_slot L e3 e2
    exact ⟨_, _, a, b, fun j a m => by
      split at m
      · cases m
      · exact m⟩
theorem tk_ok {S H : Hp} {T : Addr → Prop} {σ : St} {env : Env} {φ : Nat → List Addr} {r : R} {v : V} {fq : List Addr} (L : Hld K S H T σ env φ) (q : RR K S H σ env v r fq) (dq : ∀ a ∈ fq, ¬ T a ∧ ∀ i, a ∉ φ i) :
    ∃ S' φ', FPost K T σ S H env S' (tk r env).2 φ' ∧ RepO K S' H v (tk r env).1 fq ∧ (∀ i a, a ∈ φ' i → a ∈ φ i) := by
  cases r with
  | frz d =>
    refine ⟨S, φ, .refl L, ?_, fun _ _ m => m⟩
    rw [q.2]
    exact .frz q.1
  | own o => exact ⟨S, φ, .refl L, q, fun _ _ m => m⟩
  | bor i d =>
    obtain ⟨e1, e2, o, e3, e4⟩ := q
    subst e4
    obtain ⟨a, b⟩ := frz_slot L e3 e2
    refine ⟨_, _, a, ?_, fun j a m => by
      split at m
      · cases m
      · exact m⟩
    rw [e1]
    exact .frz b
theorem flat_reps {S H : Hp} : ∀ (os : List O) {vs : List V} {fp : List Addr}, RepOs K S H vs os fp → os.all O.isFrz = true → Reps K S vs (O.ds os)
  | [], _, _, h, _ => by cases h; exact .nil
  | o :: os, _, _, h, z => by
    have z' : o.isFrz = true ∧ os.all O.isFrz = true := by simpa using z
    cases h with
    | cons r q d =>
      cases o with
      | frz d => cases r with
        | frz r => exact .cons r (flat_reps os q z'.2)
      | own _ => cases z'.1
      | otup _ => cases z'.1
/-- the items of a list or tuple: the object stands in the heap, its items are frozen -/
def Items (K : PySem.W.Frag) (S H : Hp) (v : V) (d : D) : Prop := match d with
  | .list ds => ∃ a xs, v = .ref a ∧ SqL K H a xs ∧ Reps K S xs ds
  | .tuple ds => ∃ a xs, v = .ref a ∧ SqT K H a xs ∧ Reps K S xs ds
  | d => Rep K S v d
theorem Items.of {S H : Hp} (s : Same S H) {v : V} {d : D} (h : Rep K S v d) : Items K S H v d := by
  cases h with
  | lst r q => exact ⟨_, _, rfl, SqL.mono s r, q⟩
  | tup r q => exact ⟨_, _, rfl, SqT.mono s r, q⟩
  | non => exact .non
  | bl => exact .bl _
  | int => exact .int _
  | str => exact .str _
theorem Items.mono {S H S' H' : Hp} (ss : Same S S') (hh : Same H H') {v : V} {d : D} (h : Items K S H v d) : Items K S' H' v d := by
  cases d with
  | list ds => obtain ⟨a, xs, e, r, q⟩ := h; exact ⟨a, xs, e, SqL.mono hh r, q.mono ss ds⟩
  | tuple ds => obtain ⟨a, xs, e, r, q⟩ := h; exact ⟨a, xs, e, SqT.mono hh r, q.mono ss ds⟩
  | none => exact Rep.mono ss _ h
  | bool _ => exact Rep.mono ss _ h
  | int _ => exact Rep.mono ss _ h
  | str _ => exact Rep.mono ss _ h
  | dict _ => exact Rep.mono ss _ h
theorem sh_ok {S H : Hp} {T : Addr → Prop} {σ : St} {env : Env} {φ : Nat → List Addr} {r : R} {v : V} {fq : List Addr} (L : Hld K S H T σ env φ) (q : RR K S H σ env v r fq) (dq : ∀ a ∈ fq, ¬ T a ∧ ∀ i, a ∉ φ i) :
    ∃ S' φ', FPost K T σ S H env S' (sh r env).2 φ' ∧ Items K S' H v (sh r env).1 ∧ (∀ i a, a ∈ φ' i → a ∈ φ i) ∧ (sh r env).1 = r.d := by
  cases r with
  | frz d => exact ⟨S, φ, .refl L, .of L.same q.1, fun _ _ m => m, rfl⟩
  | own o =>
    obtain ⟨a, b⟩ := frz_own L q dq
    exact ⟨_, _, a, .of a.hld.same b, fun _ _ m => m, rfl⟩
  | bor i d =>
    obtain ⟨e1, e2, o, e3, e4⟩ := q
    subst e4
    by_cases z : flatAt env i = true
    · have e : sh (.bor i o.d) env = (o.d, env) := if_pos z
      rw [e]
      refine ⟨S, φ, .refl L, ?_, fun _ _ m => m, rfl⟩
      have z' : o.flat = true := by
        unfold flatAt at z
        rw [e3] at z
        exact z
      obtain ⟨w, e5, r⟩ := L.slot i o e3
      rw [e2] at e5
      cases e5
      generalize φ i = fi at r
      cases o with
      | frz d => cases r with
        | frz r => exact .of L.same r
      | own os => cases r with
        | own e n nn q => exact ⟨_, _, rfl, SqL.of e, flat_reps os q z'⟩
      | otup os => cases r with
        | otup e n nn q => exact ⟨_, _, rfl, SqT.of e, flat_reps os q z'⟩
    · have e : sh (.bor i o.d) env = (o.d, env.set i (some (.frz o.d))) := if_neg z
      rw [e]
      obtain ⟨a, b⟩ := frz_slot L e3 e2
      exact ⟨_, _, a, .of a.hld.same b, fun j a m => by
        split at m
        · cases m
        · exact m, rfl⟩
end PY
set_option maxHeartbeats 1000000
/-! PySb: expressions. -/
namespace PY
open PySem L2

variable {K : PySem.W.Frag}
/-! ### the middle of a run -/
structure Mid (K : PySem.W.Frag) (T : Addr → Prop) (σ : St) (S H : Hp) (env : Env) (S' H' : Hp) (env' : Env) (φ' : Nat → List Addr) : Prop where
  hld : Hld K S' H' T σ env' φ'
  hh : Same H H'
  ss : Same S S'
  ts : ∀ a, T a → S' a = S a
  le : ELe env env'
section
variable {T : Addr → Prop} {σ : St} {S H S1 H1 S2 H2 : Hp} {env env1 env2 : Env} {φ φ1 φ2 : Nat → List Addr}
theorem Mid.refl (L : Hld K S H T σ env φ) : Mid K T σ S H env S H env φ := ⟨L, Same.refl H, Same.refl S, fun _ _ => rfl, .refl env⟩
theorem Mid.trans (a : Mid K T σ S H env S1 H1 env1 φ1) (b : Mid K T σ S1 H1 env1 S2 H2 env2 φ2) : Mid K T σ S H env S2 H2 env2 φ2 :=
  ⟨b.hld, a.hh.trans b.hh, a.ss.trans b.ss, fun x t => (b.ts x t).trans (a.ts x t), a.le.trans b.le⟩
theorem Mid.weak {T' : Addr → Prop} (a : Mid K T σ S H env S1 H1 env1 φ1) (t : ∀ x, T' x → T x) : Mid K T' σ S H env S1 H1 env1 φ1 :=
  ⟨a.hld.weak t, a.hh, a.ss, fun x z => a.ts x (t x z), a.le⟩
theorem FPost.mid (a : FPost K T σ S H env S1 env1 φ1) : Mid K T σ S H env S1 H env1 φ1 := ⟨a.hld, Same.refl H, a.ss, a.ts, a.le⟩
theorem EPost.mid {v : V} {r : R} {fq : List Addr} (a : EPost K T σ S H env S1 H1 env1 φ1 v r fq) : Mid K T σ S H env S1 H1 env1 φ1 := ⟨a.hld, a.hh, a.ss, a.ts, a.le⟩
theorem Mid.fin (a : Mid K T σ S H env S1 H1 env1 φ1) {v : V} {r : R} {fq : List Addr} (rr : RR K S1 H1 σ env1 v r fq) (dq : ∀ a ∈ fq, ¬ T a ∧ ∀ i, a ∉ φ1 i) : EPost K T σ S H env S1 H1 env1 φ1 v r fq :=
  ⟨a.hld, rr, dq, a.hh, a.ss, a.ts, a.le⟩
theorem Mid.frz (a : Mid K T σ S H env S1 H1 env1 φ1) {v : V} {d : D} (r : Rep K S1 v d) : EPost K T σ S H env S1 H1 env1 φ1 v (.frz d) [] := a.fin ⟨r, rfl⟩ fun _ m => nomatch m
theorem Mid.new (a : Mid K T σ S H env S1 H1 env1 φ1) {p : Addr} {vs : List V} {os : List O} {fq : List Addr} (hp : H1 p = none) (q : RepOs K S1 H1 vs os fq) (dq : ∀ a ∈ fq, ¬ T a ∧ ∀ i, a ∉ φ1 i) :
    EPost K T σ S H env S1 (upd H1 p (.lst vs)) env1 φ1 (.ref p) (.own (.own os)) (p :: fq) ∧ EPost K T σ S H env S1 (upd H1 p (.tup vs)) env1 φ1 (.ref p) (.own (.otup os)) (p :: fq) := by
  have L := a.hld
  have sp : S1 p = none := by
    cases z : S1 p with
    | none => rfl
    | some u => rw [L.same p u z] at hp; cases hp
  have np : p ∉ fq := fun m => (q.dom os p m).1 hp
  have grow : ∀ o : HO, Mid K T σ S H env S1 (upd H1 p o) env1 φ1 := fun o => by
    have hh : Same H1 (upd H1 p o) := fun b u e => by rw [upd_ne (ne_of_none e hp)]; exact e
    exact ⟨L.grow (Same.refl S1) hh (L.same.trans hh) fun i a m => (L.dom m).2, a.hh.trans hh, a.ss, a.ts, a.le⟩
  have q2 : ∀ o : HO, RepOs K S1 (upd H1 p o) vs os fq := fun o => q.mono (Same.refl S1) os fun b m => ⟨upd_ne fun z => np (z ▸ m), (q.dom os b m).2⟩
  have dq2 : ∀ a ∈ p :: fq, ¬ T a ∧ ∀ i, a ∉ φ1 i := fun b m => by
    rcases List.mem_cons.mp m with rfl | m
    · exact ⟨fun t => L.tdom b t hp, fun i m => (L.dom m).1 hp⟩
    · exact dq b m
  exact ⟨(grow _).fin (.own upd_same sp np (q2 _)) dq2, (grow _).fin (.otup upd_same sp np (q2 _)) dq2⟩
end

/-- another place, world and frame of the same code: all that a rule may see of the context is the same -/
abbrev Alt (X : Cx) (s : Shared) (H : Hp) (env : PySem.Env) (fp : List Addr) : Cx := { X with s_0 := s, H_0 := H, env := env, ex := fp }
abbrev Al (X : Cx) (p : Cx → Prop) : Prop := ∀ (s : Shared) (H : Hp) (env : PySem.Env) (fp : List Addr), env.scope = X.env.scope → p (Alt X s H env fp)
theorem Al.self {X : Cx} {p : Cx → Prop} (h : Al X p) : p X := h X.s_0 X.H_0 X.env X.ex rfl
theorem gl_alt {X : Cx} {x : Str} (h : Gl X x) : Al X fun Y => Gl Y x := fun s H env fp q => by
  show env.scope.names.lookup x = _
  rw [q]
  exact h
def UE (X : Cx) (e : Expr) : TE := fun σ H Q => ∃ t, (Al X fun Y => PE Y e t) ∧ t σ H Q
theorem UE.pe {X : Cx} {e : Expr} : Al X fun Y => PE Y e (UE X e) := fun s0 H0 v0 f0 qq => ⟨fun pins s σ H Q I h => let ⟨_, p, q⟩ := h; (p s0 H0 v0 f0 qq).run pins s σ H Q I q⟩
def UT (X : Cx) (e : Expr) : TT := fun σ H Q => ∃ t, (Al X fun Y => PT Y e t) ∧ t σ H Q
theorem UT.pt {X : Cx} {e : Expr} : Al X fun Y => PT Y e (UT X e) := fun s0 H0 v0 f0 qq => ⟨fun pins s σ H Q I h => let ⟨_, p, q⟩ := h; (p s0 H0 v0 f0 qq).run pins s σ H Q I q⟩
def UA (X : Cx) (es : List Expr) : TA := fun σ H Q => ∃ t, (Al X fun Y => PA Y es t) ∧ t σ H Q
theorem UA.pa {X : Cx} {es : List Expr} : Al X fun Y => PA Y es (UA X es) := fun s0 H0 v0 f0 qq => ⟨fun pos pins s σ H Q I h => let ⟨_, p, q⟩ := h; (p s0 H0 v0 f0 qq).run pos pins s σ H Q I q⟩

def SE (X : Cx) (e : Expr) (f : Ev) : Prop := ∀ (T : Addr → Prop) (S H : Hp) (σ : St) (env : Env) (φ : Nat → List Addr) (Q : VK) (r : R) (env' : Env), Hld X.K S H T σ env φ → f env = some (r, env') →
  (∀ v S' H' φ' fq, EPost X.K T σ S H env S' H' env' φ' v r fq → Q v H') → UE X e σ H Q
def ST (X : Cx) (e : Expr) (f : Tst) : Prop := ∀ (T : Addr → Prop) (S H : Hp) (σ : St) (env : Env) (φ : Nat → List Addr) (Q : Bool → Hp → Prop) (b : Bool) (env' : Env), Hld X.K S H T σ env φ → f env = some (b, env') →
  (∀ S' H' φ', Mid X.K T σ S H env S' H' env' φ' → Q b H') → UT X e σ H Q
theorem SE.none {X : Cx} {e : Expr} : SE X e eNone := fun _ _ _ _ _ _ _ _ _ _ h => nomatch h
theorem ST.none {X : Cx} {e : Expr} : ST X e fun _ => none := fun _ _ _ _ _ _ _ _ _ _ h => nomatch h

/-- two values, one behind the other -/
structure P2 (K : PySem.W.Frag) (T : Addr → Prop) (σ : St) (S H : Hp) (env : Env) (S' H' : Hp) (env' : Env) (φ' : Nat → List Addr) (v w : V) (r1 r2 : R) (f1 f2 : List Addr) : Prop where
  mid : Mid K T σ S H env S' H' env' φ'
  rr1 : RR K S' H' σ env' v r1 f1
  rr2 : RR K S' H' σ env' w r2 f2
  dq1 : ∀ a ∈ f1, ¬ T a ∧ ∀ i, a ∉ φ' i
  dq2 : ∀ a ∈ f2, ¬ T a ∧ ∀ i, a ∉ φ' i
  d12 : ∀ a ∈ f1, a ∉ f2
theorem EPost.behind {T : Addr → Prop} {σ : St} {S H S1 H1 S2 H2 : Hp} {env env1 env2 : Env} {φ1 φ2 : Nat → List Addr} {v w : V} {r1 r2 : R} {f1 f2 : List Addr} (p1 : EPost K T σ S H env S1 H1 env1 φ1 v r1 f1)
    (p2 : EPost K (fun a => T a ∨ a ∈ f1) σ S1 H1 env1 S2 H2 env2 φ2 w r2 f2) : P2 K T σ S H env S2 H2 env2 φ2 v w r1 r2 f1 f2 := by
  refine ⟨p1.mid.trans (p2.mid.weak fun _ t => .inl t), ?_, p2.rr, fun a m => ⟨(p1.dq a m).1, fun i z => p2.hld.fr i a z (.inr m)⟩, fun a m => ⟨fun t => (p2.dq a m).1 (.inl t), (p2.dq a m).2⟩, fun a m z => (p2.dq a z).1 (.inr m)⟩
  exact p1.rr.mono p2.ss p2.hh (fun a m => (p2.ts a (.inr m)).trans (p1.rr.dom a m).2) p2.le
theorem two {X : Cx} {a b : Expr} {f g : Ev} (ha : SE X a f) (hb : SE X b g) {T : Addr → Prop} {S H : Hp} {σ : St} {env env1 env2 : Env} {φ : Nat → List Addr} {r1 r2 : R} (L : Hld X.K S H T σ env φ)
    (e1 : f env = some (r1, env1)) (e2 : g env1 = some (r2, env2)) {Q : V → V → Hp → Prop} (k : ∀ v w S' H' φ' f1 f2, P2 X.K T σ S H env S' H' env2 φ' v w r1 r2 f1 f2 → Q v w H') :
    UE X a σ H fun x H1 => UE X b σ H1 fun y H2 => Q x y H2 := by
  refine ha T S H σ env φ _ r1 env1 L e1 fun v S1 H1 φ1 f1 p1 => ?_
  refine hb (fun a => T a ∨ a ∈ f1) S1 H1 σ env1 φ1 _ r2 env2 (p1.hld.guard (fun a m => (p1.dq a m).2) fun a m => (p1.rr.dom a m).1) e2 fun w S2 H2 φ2 f2 p2 => ?_
  exact k v w S2 H2 φ2 f1 f2 (p1.behind p2)
/-- both values' items frozen -/
theorem P2.share {T : Addr → Prop} {σ : St} {S H S' H' : Hp} {env env' : Env} {φ' : Nat → List Addr} {v w : V} {r1 r2 : R} {f1 f2 : List Addr} (p : P2 K T σ S H env S' H' env' φ' v w r1 r2 f1 f2) :
    ∃ S2 φ2, Mid K T σ S H env S2 H' (sh r2 (sh r1 env').2).2 φ2 ∧ Items K S2 H' v (sh r1 env').1 ∧ Items K S2 H' w (sh r2 (sh r1 env').2).1 := by
  obtain ⟨S1, φ1, q1, i1, le1, -⟩ := sh_ok (p.mid.hld.guard (fun a m => (p.dq2 a m).2) fun a m => (p.rr2.dom a m).1) p.rr1 fun a m => ⟨fun t => t.elim (p.dq1 a m).1 (p.d12 a m), (p.dq1 a m).2⟩
  have m1 : Mid K T σ S H env S1 H' (sh r1 env').2 φ1 := p.mid.trans (q1.mid.weak fun _ t => .inl t)
  have rr2 : RR K S1 H' σ (sh r1 env').2 w r2 f2 := p.rr2.mono q1.ss (Same.refl H') (fun a m => (q1.ts a (.inr m)).trans (p.rr2.dom a m).2) q1.le
  obtain ⟨S2, φ2, q2, i2, le2, -⟩ := sh_ok m1.hld rr2 fun a m => ⟨(p.dq2 a m).1, fun i z => (p.dq2 a m).2 i (le1 i a z)⟩
  exact ⟨S2, φ2, m1.trans q2.mid, i1.mono q2.ss (Same.refl H'), i2⟩
theorem EPost.share {T : Addr → Prop} {σ : St} {S H S' H' : Hp} {env env' : Env} {φ' : Nat → List Addr} {v : V} {r : R} {f : List Addr} (p : EPost K T σ S H env S' H' env' φ' v r f) :
    ∃ S2 φ2, Mid K T σ S H env S2 H' (sh r env').2 φ2 ∧ Items K S2 H' v (sh r env').1 := by
  obtain ⟨S1, φ1, q1, i1, le1, -⟩ := sh_ok p.hld p.rr p.dq
  exact ⟨S1, φ1, p.mid.trans q1.mid, i1⟩
theorem EPost.fz {T : Addr → Prop} {σ : St} {S H S' H' : Hp} {env env' : Env} {φ' : Nat → List Addr} {v : V} {r : R} {f : List Addr} (p : EPost K T σ S H env S' H' env' φ' v r f) :
    ∃ S2 φ2, Mid K T σ S H env S2 H' (fz r env').2 φ2 ∧ Rep K S2 v (fz r env').1 := by
  obtain ⟨S1, φ1, q1, i1, le1⟩ := fz_ok p.hld p.rr p.dq
  exact ⟨S1, φ1, p.mid.trans q1.mid, i1⟩
theorem EPost.tk {T : Addr → Prop} {σ : St} {S H S' H' : Hp} {env env' : Env} {φ' : Nat → List Addr} {v : V} {r : R} {f : List Addr} (p : EPost K T σ S H env S' H' env' φ' v r f) :
    ∃ S2 φ2, Mid K T σ S H env S2 H' (tk r env').2 φ2 ∧ RepO K S2 H' v (tk r env').1 f ∧ ∀ a ∈ f, ¬ T a ∧ ∀ i, a ∉ φ2 i := by
  obtain ⟨S1, φ1, q1, i1, le1⟩ := tk_ok p.hld p.rr p.dq
  exact ⟨S1, φ1, p.mid.trans q1.mid, i1, fun a m => ⟨(p.dq a m).1, fun i z => (p.dq a m).2 i (le1 i a z)⟩⟩
theorem EPost.rep {T : Addr → Prop} {σ : St} {S H S' H' : Hp} {env env' : Env} {φ' : Nat → List Addr} {v : V} {r : R} {f : List Addr} (p : EPost K T σ S H env S' H' env' φ' v r f) : Rep K H' v r.d := p.rr.rep p.hld
theorem P2.rep1 {T : Addr → Prop} {σ : St} {S H S' H' : Hp} {env env' : Env} {φ' : Nat → List Addr} {v w : V} {r1 r2 : R} {f1 f2 : List Addr} (p : P2 K T σ S H env S' H' env' φ' v w r1 r2 f1 f2) : Rep K H' v r1.d := p.rr1.rep p.mid.hld
theorem P2.rep2 {T : Addr → Prop} {σ : St} {S H S' H' : Hp} {env env' : Env} {φ' : Nat → List Addr} {v w : V} {r1 r2 : R} {f1 f2 : List Addr} (p : P2 K T σ S H env S' H' env' φ' v w r1 r2 f1 f2) : Rep K H' w r2.d := p.rr2.rep p.mid.hld
theorem sh_d (r : R) (env : Env) : (sh r env).1 = r.d := by
  cases r with
  | frz d => rfl
  | own o => rfl
  | bor i d =>
    show (if flatAt env i then (d, env) else _).1 = d
    split <;> rfl

/-! ### names, constants -/
section
variable {X : Cx} {pos : Pos} {a b c : Expr} {f g h : Ev}
theorem se_name {i : Nat} {x : Str} (hN : X.N[i]? = some x) (hv : Vis X.env.scope x) (hd : (x == ("__debug__" : Str)) = false) (hcd : (x == ("__classdict__" : Str)) = false) : SE X (.Name x pos) (eName i) := by
  intro T S H σ env φ Q r env' L e k
  unfold eName at e
  split at e
  · rename_i d he
    cases e
    obtain ⟨v, e1, q⟩ := L.slot i _ he
    generalize φ i = fi at q
    cases q with
    | frz q => exact ⟨_, fun _ _ _ _ qq => pe_var hN (qq ▸ hv) hd hcd, v, e1, k v S H φ [] ((Mid.refl L).frz q)⟩
  · rename_i o hn he
    cases e
    obtain ⟨v, e1, q⟩ := L.slot i _ he
    exact ⟨_, fun _ _ _ _ qq => pe_var hN (qq ▸ hv) hd hcd, v, e1, k v S H φ [] ((Mid.refl L).fin ⟨rfl, e1, o, he, rfl⟩ fun _ m => nomatch m)⟩
  · cases e
theorem se_c {e : Expr} {v : V} {d : D} (p : Al X fun Y => PE Y e (tC v)) (r : ∀ S, Rep X.K S v d) : SE X e (eD d) := by
  intro T S H σ env φ Q r' env' L e k
  cases e
  exact ⟨_, p, k v S H φ [] ((Mid.refl L).frz (r S))⟩

/-! ### operators -/
theorem rep_int {H : Hp} {v : V} {i : Int} (h : Rep X.K H v (.int i)) : v = .int i := by cases h; rfl
theorem rep_bool {H : Hp} {v : V} {i : Bool} (h : Rep X.K H v (.bool i)) : v = .bl i := by cases h; rfl
theorem rep_str {H : Hp} {v : V} {i : Str} (h : Rep X.K H v (.str i)) : v = .str i := by cases h; rfl
theorem rep_none {H : Hp} {v : V} (h : Rep X.K H v .none) : v = .non := by cases h; rfl

theorem SqL.isL {X : Cx} {pins : List (Addr × Obj)} {σ : St} {H : Hp} {s : Shared} {l : Addr} {xs : List V} (I : Inv X pins σ H s) (hH : SqL X.K H l xs) :
    xs.length ≤ sizeLine ∧ ∃ (its : List Value) (n : Nat) (sl : Array (Option Value)), Vals xs its ∧ xs.length = its.length ∧ s.heap.get? l = some { cls := .type "list", dict := none, data := .seq its.toArray n, slots := sl } := by
  obtain ⟨its, r, ⟨⟨cls, dd, data, sl⟩, n, e, hc, hd, hdt⟩, z⟩ := I.list hH
  simp only at hc hd hdt
  subst hc hd hdt
  exact ⟨z, its, n, sl, r, r.length, e⟩
def rCatR (K : PySem.W.Frag) : R2 := fun x y H Q => ∃ l b xs zs, x = .ref l ∧ y = .ref b ∧ SqL K H l xs ∧ SqL K H b zs ∧ xs.length + zs.length ≤ sizeLine ∧ ∀ p, H p = none → Q (.ref p) (upd H p (.lst (xs ++ zs)))
theorem op_catR : OpR X (binaryOp .Add) (rCatR X.K) := by
  intro pins s σ H x y v u Q I rx ry h
  obtain ⟨l, b, xs, zs, rfl, rfl, hH, hB, hz, q⟩ := h
  cases rx
  cases ry
  obtain ⟨z, its, n, sl, r, hl, e⟩ := SqL.isL I hH
  obtain ⟨z2, its2, n2, sl2, r2, hl2, e2⟩ := SqL.isL I hB
  refine PySem.concat_meets ⟨_, e, rfl⟩ ⟨_, e2, rfl⟩ PySem.noFill_list_add PySem.seq_list_add PySem.F.slot_list_add PySem.F.entry_list_add (PySem.F.args_list_add_2 _ _) (PyProof.Rows.list_addW l b its.toArray its2.toArray n n2 _ _ sl sl2 (by rw [List.size_toArray, List.size_toArray]; omega)) ⟨e, e2, ?_⟩
  have ea : its.toArray ++ its2.toArray = (its ++ its2).toArray := by simp
  rw [ea]
  exact ⟨.ref _, _, I.lnew (t' := s.toks) (r.append r2) (by rw [List.length_append]; omega), rfl, q _ I.fresh⟩
open PySem in
theorem list_mulW (l : Addr) (items : Array Value) (n : Nat) (sl : Array (Option Value)) (x : Int) (u : Tok) (hc0 : ¬(!Builtin.List.listFitsIndex x) = true) (hc1 : ¬items.size * x.toNat > (2 ^ 63 - 1) / 8) (hc2 : ¬Builtin.List.listTooLong (items.size * x.toNat) = true) :
    Meets (Builtin.«list.__mul__» ⟨[.ref l, .int x u], []⟩) (fun _ R s => s.heap.get? l = some { cls := .type "list", dict := none, data := .seq items n, slots := sl } ∧ R (.ok (.ret (Value.ref s.heap.objs.size))) { s with heap := s.heap.push { cls := Value.type "list", data := Data.seq (List.foldl (fun x1 x2 => x1 ++ x2) #[] (List.replicate (if items.isEmpty = true then 0 else x.toNat) items)) }, toks := s.toks }) :=
  .of_wp fun prog w A R s h => by
    obtain ⟨hp, g, d, tk, os⟩ := s; obtain ⟨hl, h⟩ := h
    have hsz := AutoListH.joined_fits hc2
    wp_walk using wpAny_loadPart' hl; refine wpAny_ite_false (decide_eq_false (Nat.not_lt.mpr hsz)) ?_; wp_walk using wpAny_loadPart' hl; exact ⟨_, rfl, h⟩
open PySem in
theorem int_rmulW (a : Int) (t : Tok) (l : Addr) (items : Array Value) (n : Nat) (sl : Array (Option Value)) :
    Meets (Builtin.«int.__rmul__» ⟨[.int a t, .ref l], []⟩) (fun _ R s => s.heap.get? l = some { cls := .type "list", dict := none, data := .seq items n, slots := sl } ∧ R (.ok (.ret Value.notImplemented)) s) :=
  .of_wp fun prog w A R s h => by obtain ⟨hp, g, d, tk, os⟩ := s; obtain ⟨hl, h⟩ := h; wp_walk using wpAny_loadPart' hl; exact ⟨_, rfl, h⟩
def rRepR (K : PySem.W.Frag) : R2 := fun x y H Q => ∃ l k xs, x = .ref l ∧ y = .int k ∧ SqL K H l xs ∧ -(2 ^ 63) ≤ k ∧ k < 2 ^ 63 ∧ xs.length * k.toNat ≤ sizeLine ∧
  ∀ p, H p = none → Q (.ref p) (upd H p (.lst (List.replicate k.toNat xs).flatten))
open PyProof.Rows PySem.Spec in
theorem op_repR : OpR X (binaryOp .Mult) (rRepR X.K) := by
  intro pins s σ H x y v u Q I rx ry h
  obtain ⟨l, k, xs, rfl, rfl, hH, h1, h2, hz, q⟩ := h
  cases rx
  obtain ⟨t, rfl⟩ := ry
  obtain ⟨z, its, n, sl, r, hl, e⟩ := SqL.isL I hH
  have hlen : its.toArray.size * k.toNat ≤ sizeLine := by rw [List.size_toArray, ← hl]; exact hz
  have hcap : ¬ its.toArray.size * k.toNat > (2 ^ 63 - 1) / 8 := by
    have : (sizeLine : Nat) ≤ (2 ^ 63 - 1) / 8 := by decide
    omega
  have hfit : ¬ (!Builtin.List.listFitsIndex k) = true := by
    rw [fitsIndex_both h1 h2]
    exact Bool.false_ne_true
  have hlong : ¬ Builtin.List.listTooLong (its.toArray.size * k.toNat) = true := by
    rw [notLongL hlen]
    exact Bool.false_ne_true
  have hnew : List.foldl (fun x1 x2 => x1 ++ x2) #[] (List.replicate (if its.toArray.isEmpty = true then 0 else k.toNat) its.toArray) = (List.replicate k.toNat its).flatten.toArray := by
    have f0 : ∀ m : Nat, List.foldl (fun x1 x2 => x1 ++ x2) #[] (List.replicate m its.toArray) = (List.replicate m its).flatten.toArray := fun m => by
      have := foldl_rep its m []
      rw [List.nil_append] at this
      exact this
    rw [f0]
    cases its with
    | nil => simp
    | cons a r' => rw [if_neg (by simp)]
  refine wpAny_binaryOp_repeat_ref (T := "list") (U := "int") (by decide) ⟨_, e, rfl⟩ (fun s' => typeIs_int s' k t) noFill_list_mul F.fills_int_mul F.slot_int_rmul repeat_list F.slot_int_index.lookup
    (call_meets F.slot_int_rmul (typeIs_int s k t) F.entry_int_rmul (F.args_int_rmul_2 _ _) (int_rmulW k t l its.toArray n sl)
      ⟨e, rfl, ⟨_, e, rfl⟩, call_meets F.slot_list_mul ⟨_, e, rfl⟩ F.entry_list_mul (F.args_list_mul_2 _ _) (list_mulW l its.toArray n sl k t hfit hcap hlong) ⟨e, ?_⟩⟩)
  rw [hnew]
  exact ⟨.ref _, _, I.lnew (t' := s.toks) (r.rep k.toNat) (by rw [PyProof.Rows.lm_len_rep_flat, Nat.mul_comm]; exact hz), rfl, q _ I.fresh⟩

theorem it_list {S H : Hp} {v : V} {ds : List D} (h : Items X.K S H v (.list ds)) : ∃ a xs, v = .ref a ∧ SqL X.K H a xs ∧ Reps X.K S xs ds := h
theorem it_tup {S H : Hp} {v : V} {ds : List D} (h : Items X.K S H v (.tuple ds)) : ∃ a xs, v = .ref a ∧ SqT X.K H a xs ∧ Reps X.K S xs ds := h
/-- a new list of frozen items -/
theorem Mid.mkL {T : Addr → Prop} {σ : St} {S H S1 H1 : Hp} {env env1 : Env} {φ1 : Nat → List Addr} (m : Mid X.K T σ S H env S1 H1 env1 φ1) {p : Addr} {xs : List V} {ds : List D} (hp : H1 p = none) (q : Reps X.K S1 xs ds) :
    EPost X.K T σ S H env S1 (upd H1 p (.lst xs)) env1 φ1 (.ref p) (mkL ds) [p] := (m.new hp (.frz q) fun _ z => nomatch z).1
theorem Mid.mkT {T : Addr → Prop} {σ : St} {S H S1 H1 : Hp} {env env1 : Env} {φ1 : Nat → List Addr} (m : Mid X.K T σ S H env S1 H1 env1 φ1) {p : Addr} {xs : List V} {ds : List D} (hp : H1 p = none) (q : Reps X.K S1 xs ds) :
    EPost X.K T σ S H env S1 (upd H1 p (.tup xs)) env1 φ1 (.ref p) (mkT ds) [p] := (m.new hp (.frz q) fun _ z => nomatch z).2

theorem fz_d (r : R) (env : Env) : (fz r env).1 = r.d := by cases r <;> rfl
theorem P2.fz2 {T : Addr → Prop} {σ : St} {S H S' H' : Hp} {env env' : Env} {φ' : Nat → List Addr} {v w : V} {r1 r2 : R} {f1 f2 : List Addr} (p : P2 X.K T σ S H env S' H' env' φ' v w r1 r2 f1 f2) :
    ∃ S2 φ2, Mid X.K T σ S H env S2 H' (fz r2 (fz r1 env').2).2 φ2 ∧ Rep X.K S2 v r1.d ∧ Rep X.K S2 w r2.d := by
  obtain ⟨S1, φ1, q1, i1, le1⟩ := fz_ok (p.mid.hld.guard (fun a m => (p.dq2 a m).2) fun a m => (p.rr2.dom a m).1) p.rr1 fun a m => ⟨fun t => t.elim (p.dq1 a m).1 (p.d12 a m), (p.dq1 a m).2⟩
  have m1 : Mid X.K T σ S H env S1 H' (fz r1 env').2 φ1 := p.mid.trans (q1.mid.weak fun _ t => .inl t)
  have rr2 : RR X.K S1 H' σ (fz r1 env').2 w r2 f2 := p.rr2.mono q1.ss (Same.refl H') (fun a m => (q1.ts a (.inr m)).trans (p.rr2.dom a m).2) q1.le
  obtain ⟨S2, φ2, q2, i2, le2⟩ := fz_ok m1.hld rr2 fun a m => ⟨(p.dq2 a m).1, fun i z => (p.dq2 a m).2 i (le1 i a z)⟩
  rw [fz_d] at i1 i2
  exact ⟨S2, φ2, m1.trans q2.mid, Rep.mono q2.ss _ i1, i2⟩
theorem Mid.newT {T : Addr → Prop} {σ : St} {S H S1 H1 : Hp} {env env1 : Env} {φ1 : Nat → List Addr} (m : Mid X.K T σ S H env S1 H1 env1 φ1) {p : Addr} {xs : List V} {ds : List D} (hp : H1 p = none) (q : Reps X.K S1 xs ds) :
    ∃ S2 φ2, EPost X.K T σ S H env S2 (upd H1 p (.tup xs)) env1 φ2 (.ref p) (.frz (.tuple ds)) [] := by
  have p1 := m.mkT hp q
  obtain ⟨S2, φ2, m2, r2⟩ := p1.fz
  have e1 : (fz (PY.mkT ds) env1).1 = .tuple ds := by
    show PyData.tuple (O.ds (ds.map O.frz)) = _
    rw [ds_frz]
  rw [e1] at r2
  exact ⟨S2, φ2, m2.frz r2⟩
theorem al_catA : Al X fun Y => OpR Y (binaryOp .Add) (rCatA X.K) := fun s H v f _ => op_catA (X := Alt X s H v f)
theorem catT_of {op : Operator} {a b d : D} (h : catT op a b = some d) : ∃ xs ys, op = .Add ∧ a = .tuple xs ∧ b = .tuple ys ∧ xs.length + ys.length ≤ sizeLine ∧ d = .tuple (xs ++ ys) := by
  unfold catT at h
  split at h
  · split at h
    · cases h; exact ⟨_, _, rfl, rfl, rfl, by assumption, rfl⟩
    · cases h
  · cases h
theorem se_bin {op : Operator} (ha : SE X a f) (hb : SE X b g) : SE X (.BinOp a op b pos) (eBin op f g) := by
  intro T S H σ env φ Q r env' L e k
  unfold eBin at e
  obtain ⟨⟨r1, env1⟩, e1, e⟩ := Option.bind_eq_some_iff.mp e
  obtain ⟨⟨r2, env2⟩, e2, e⟩ := Option.bind_eq_some_iff.mp e
  split at e
  · rename_i d hd
    obtain ⟨xs, ys, rfl, h1, h2, hz, rfl⟩ := catT_of hd
    cases e
    refine ⟨_, fun s0 H0 v0 f0 qq => pe_op (al_catA s0 H0 v0 f0 qq) (UE.pe s0 H0 v0 f0 qq) (UE.pe s0 H0 v0 f0 qq), two ha hb L e1 e2 fun v w S' H' φ' f1 f2 p => ?_⟩
    obtain ⟨S2, φ2, m, i1, i2⟩ := p.fz2
    have i1 : Rep X.K S2 v (.tuple xs) := h1 ▸ i1
    have i2 : Rep X.K S2 w (.tuple ys) := h2 ▸ i2
    have i1' := i1
    have i2' := i2
    cases i1 with
    | tup s1 q1 =>
      cases i2 with
      | tup s2 q2 =>
        refine ⟨_, _, _, _, rfl, rfl, SqT.mono m.hld.same s1, SqT.mono m.hld.same s2, by rw [q1.length, q2.length]; exact hz, fun z => ?_, fun _ z => ?_, fun _ _ pp hp => ?_⟩
        · subst z
          cases q1
          exact k _ _ _ _ _ (m.frz i2')
        · subst z
          cases q2
          rw [List.append_nil] at k
          exact k _ _ _ _ _ (m.frz i1')
        · obtain ⟨S3, φ3, p3⟩ := m.newT hp (q1.append q2)
          exact k _ _ _ _ _ p3
  obtain ⟨r', e3, e⟩ := Option.map_eq_some_iff.mp e
  cases e
  simp only [sh_d] at e3 e2
  have go : ∀ {rr : R2}, (Al X fun Y => OpR Y (binaryOp op) rr) → (∀ v w S' H' φ' f1 f2, P2 X.K T σ S H env S' H' env2 φ' v w r1 r2 f1 f2 → rr v w H' Q) → UE X (.BinOp a op b pos) σ H Q := fun ho k' => ⟨_, fun s0 H0 v0 f0 qq => pe_op (ho s0 H0 v0 f0 qq) (UE.pe s0 H0 v0 f0 qq) (UE.pe s0 H0 v0 f0 qq), two ha hb L e1 e2 k'⟩
  have fin : ∀ {v w : V} {S' H' : Hp} {φ' : Nat → List Addr} {f1 f2 : List Addr} {i : Int}, P2 X.K T σ S H env S' H' env2 φ' v w r1 r2 f1 f2 → r = .frz (.int i) → Q (.int i) H' := fun p er => by
    obtain ⟨S2, φ2, m, _, _⟩ := p.share
    subst er
    exact k _ S2 _ φ2 [] (m.frz (.int _))
  have w1 : ∀ {v w : V} {S' H' : Hp} {φ' : Nat → List Addr} {f1 f2 : List Addr} {d1 : D}, P2 X.K T σ S H env S' H' env2 φ' v w r1 r2 f1 f2 → r1.d = d1 → Rep X.K H' v d1 := fun p h => h ▸ p.rep1
  have w2 : ∀ {v w : V} {S' H' : Hp} {φ' : Nat → List Addr} {f1 f2 : List Addr} {d1 : D}, P2 X.K T σ S H env S' H' env2 φ' v w r1 r2 f1 f2 → r2.d = d1 → Rep X.K H' w d1 := fun p h => h ▸ p.rep2
  generalize hd1 : r1.d = d1 at e3
  generalize hd2 : r2.d = d2 at e3
  unfold binV at e3
  split at e3
  · cases e3
    exact go (fun _ _ _ _ _ => op_add) fun v w S' H' φ' f1 f2 p => ⟨_, _, rep_int (w1 p hd1), rep_int (w2 p hd2), fin p rfl⟩
  · split at e3
    · rename_i hz
      cases e3
      refine go (rr := rCatR X.K) (fun s H v f _ => op_catR (X := Alt X s H v f)) fun v w S' H' φ' f1 f2 p => ?_
      obtain ⟨S2, φ2, m, i1, i2⟩ := p.share
      rw [sh_d, hd1] at i1
      rw [sh_d, hd2] at i2
      obtain ⟨l, xs, rfl, h1, q1⟩ := it_list i1
      obtain ⟨l2, zs, rfl, h2, q2⟩ := it_list i2
      exact ⟨l, l2, xs, zs, rfl, rfl, h1, h2, by rw [q1.length, q2.length]; exact hz, fun p hp => k _ _ _ _ _ (m.mkL hp (q1.append q2))⟩
    · cases e3
  · split at e3
    · rename_i hz
      cases e3
      refine go (fun _ _ _ _ _ => op_add_str) fun v w S' H' φ' f1 f2 p => ?_
      obtain ⟨S2, φ2, m, i1, i2⟩ := p.share
      exact ⟨_, _, rep_str (w1 p hd1), rep_str (w2 p hd2), hz, k _ S2 _ φ2 [] (m.frz (.str _))⟩
    · cases e3
  · cases e3
    exact go (fun _ _ _ _ _ => op_sub) fun v w S' H' φ' f1 f2 p => ⟨_, _, rep_int (w1 p hd1), rep_int (w2 p hd2), fin p rfl⟩
  · split at e3
    · rename_i hz
      cases e3
      exact go (fun _ _ _ _ _ => op_mul) fun v w S' H' φ' f1 f2 p => ⟨_, _, rep_int (w1 p hd1), rep_int (w2 p hd2), hz, fin p rfl⟩
    · split at e3
      · rename_i hz
        cases e3
        exact go (fun _ _ _ _ _ => op_mulW) fun v w S' H' φ' f1 f2 p => ⟨_, _, rep_int (w1 p hd1), rep_int (w2 p hd2), hz, fin p rfl⟩
      · cases e3
  · split at e3
    · rename_i hz
      cases e3
      refine go (rr := rRepR X.K) (fun s H v f _ => op_repR (X := Alt X s H v f)) fun v w S' H' φ' f1 f2 p => ?_
      obtain ⟨S2, φ2, m, i1, i2⟩ := p.share
      rw [sh_d, hd1] at i1
      obtain ⟨l, xs, rfl, h1, q1⟩ := it_list i1
      exact ⟨l, _, xs, rfl, rep_int (w2 p hd2), h1, hz.1, hz.2.1, by rw [q1.length]; exact hz.2.2, fun p hp => k _ _ _ _ _ (m.mkL hp (q1.rep _))⟩
    · cases e3
  · split at e3
    · rename_i hz
      cases e3
      exact go (fun _ _ _ _ _ => op_fdivN) fun v w S' H' φ' f1 f2 p => ⟨_, _, rep_int (w1 p hd1), rep_int (w2 p hd2), hz, fin p rfl⟩
    · cases e3
  · split at e3
    · rename_i hz
      cases e3
      exact go (fun _ _ _ _ _ => op_modN) fun v w S' H' φ' f1 f2 p => ⟨_, _, rep_int (w1 p hd1), rep_int (w2 p hd2), hz, fin p rfl⟩
    · cases e3
  · split at e3
    · rename_i hz
      cases e3
      exact go (fun _ _ _ _ _ => op_pow) fun v w S' H' φ' f1 f2 p => ⟨_, _, rep_int (w1 p hd1), rep_int (w2 p hd2), hz, fin p rfl⟩
    · cases e3
  · cases e3
theorem asInt_eq {d : D} {i : Int} (h : asInt d = some i) : d = .int i := by
  cases d <;> cases h
  rfl
theorem asBool_eq {d : D} {i : Bool} (h : asBool d = some i) : d = .bool i := by
  cases d <;> cases h
  rfl
theorem se_neg (ha : SE X a f) : SE X (.UnaryOp .USub a pos) (eNeg f) := by
  intro T S H σ env φ Q r env' L e k
  unfold eNeg at e
  obtain ⟨⟨r1, env1⟩, e1, e⟩ := Option.bind_eq_some_iff.mp e
  obtain ⟨i, e3, e⟩ := Option.map_eq_some_iff.mp e
  cases e
  refine ⟨_, fun s0 H0 v0 f0 qq => pe_un un_neg (UE.pe s0 H0 v0 f0 qq), ha T S H σ env φ _ r1 env1 L e1 fun v S1 H1 φ1 f1 p => ?_⟩
  have q := p.rep
  rw [asInt_eq e3] at q
  exact ⟨i, rep_int q, k _ S1 H1 φ1 [] (p.mid.frz (.int _))⟩
theorem se_not (ha : SE X a f) : SE X (.UnaryOp .Not a pos) (eNot f) := by
  intro T S H σ env φ Q r env' L e k
  unfold eNot at e
  obtain ⟨⟨r1, env1⟩, e1, e⟩ := Option.bind_eq_some_iff.mp e
  obtain ⟨i, e3, e⟩ := Option.map_eq_some_iff.mp e
  cases e
  refine ⟨_, fun s0 H0 v0 f0 qq => pe_not (UE.pe s0 H0 v0 f0 qq), ha T S H σ env φ _ r1 env1 L e1 fun v S1 H1 φ1 f1 p => ?_⟩
  have q := p.rep
  rw [asBool_eq e3] at q
  exact ⟨i, rep_bool q, k _ S1 H1 φ1 [] (p.mid.frz (.bl _))⟩
theorem se_one {op : BoolOp} (ha : SE X a f) : SE X (.BoolOp op [a] pos) f := by
  intro T S H σ env φ Q r env' L e k
  exact ⟨_, fun s0 H0 v0 f0 qq => pe_one (UE.pe s0 H0 v0 f0 qq), ha T S H σ env φ Q r env' L e k⟩
theorem se_and {rest : List Expr} (ha : SE X a f) (hb : SE X (.BoolOp .And (b :: rest) pos) g) : SE X (.BoolOp .And (a :: b :: rest) pos) (eAnd f g) := by
  intro T S H σ env φ Q r env' L e k
  unfold eAnd at e
  obtain ⟨⟨r1, env1⟩, e1, e⟩ := Option.bind_eq_some_iff.mp e
  obtain ⟨c, e3, e⟩ := Option.bind_eq_some_iff.mp e
  refine ⟨_, fun s0 H0 v0 f0 qq => pe_and (UE.pe s0 H0 v0 f0 qq) (UE.pe s0 H0 v0 f0 qq), ha T S H σ env φ _ r1 env1 L e1 fun v S1 H1 φ1 f1 p => ?_⟩
  have q := p.rep
  rw [asBool_eq e3] at q
  refine ⟨c, rep_bool q, ?_⟩
  cases c with
  | true => exact iteT (hb T S1 H1 σ env1 φ1 Q r env' p.hld e fun w S2 H2 φ2 f2 p2 => k w S2 H2 φ2 f2 ((p.mid.trans p2.mid).fin p2.rr p2.dq))
  | false =>
    cases e
    exact iteF (k _ S1 H1 φ1 [] (p.mid.frz (.bl _)))
theorem se_or {rest : List Expr} (ha : SE X a f) (hb : SE X (.BoolOp .Or (b :: rest) pos) g) : SE X (.BoolOp .Or (a :: b :: rest) pos) (eOr f g) := by
  intro T S H σ env φ Q r env' L e k
  unfold eOr at e
  obtain ⟨⟨r1, env1⟩, e1, e⟩ := Option.bind_eq_some_iff.mp e
  obtain ⟨c, e3, e⟩ := Option.bind_eq_some_iff.mp e
  refine ⟨_, fun s0 H0 v0 f0 qq => pe_or (UE.pe s0 H0 v0 f0 qq) (UE.pe s0 H0 v0 f0 qq), ha T S H σ env φ _ r1 env1 L e1 fun v S1 H1 φ1 f1 p => ?_⟩
  have q := p.rep
  rw [asBool_eq e3] at q
  refine ⟨c, rep_bool q, ?_⟩
  cases c with
  | false => exact iteF (hb T S1 H1 σ env1 φ1 Q r env' p.hld e fun w S2 H2 φ2 f2 p2 => k w S2 H2 φ2 f2 ((p.mid.trans p2.mid).fin p2.rr p2.dq))
  | true =>
    cases e
    exact iteT (k _ S1 H1 φ1 [] (p.mid.frz (.bl _)))

/-! ### comparisons: a rule for each that the data ask -/
/-- a comparison's answer by the data -/
def CmpOk (X : Cx) (op : CmpOp) (d1 d2 : D) (c : Bool) : Prop := ∃ rr : R2, (Al X fun Y => OpR Y (compareOp op) rr) ∧ ∀ v w H (Q : VK), Rep X.K H v d1 → Rep X.K H w d2 → Q (.bl c) H → rr v w H Q
theorem eq_ok (hu : X.A.units + 65 < cLine) {d1 d2 : D} {c : Bool} (h : eqD d1 d2 = some c) : CmpOk X .Eq d1 d2 c ∧ CmpOk X .NotEq d1 d2 (!c) := by
  unfold eqD at h
  split at h
  · cases h
    constructor
    · exact ⟨rEq, (fun _ _ _ _ _ => op_eq), fun v w H Q r1 r2 q => by rw [rep_str r1, rep_str r2]; exact ⟨rfl, by simpa using q⟩⟩
    · exact ⟨rNe, (fun _ _ _ _ _ => op_ne), fun v w H Q r1 r2 q => by rw [rep_str r1, rep_str r2]; exact ⟨rfl, by simpa using q⟩⟩
  · cases h
    constructor
    · exact ⟨rEq, (fun _ _ _ _ _ => op_eq), fun v w H Q r1 r2 q => by rw [rep_int r1, rep_int r2]; exact ⟨rfl, by simpa using q⟩⟩
    · exact ⟨rNe, (fun _ _ _ _ _ => op_ne), fun v w H Q r1 r2 q => by rw [rep_int r1, rep_int r2]; exact ⟨rfl, by simpa using q⟩⟩
  · cases h
    constructor
    · exact ⟨rEq, (fun _ _ _ _ _ => op_eq), fun v w H Q r1 r2 q => by rw [rep_bool r1, rep_bool r2]; exact ⟨rfl, by simpa using q⟩⟩
    · exact ⟨rNe, (fun _ _ _ _ _ => op_ne), fun v w H Q r1 r2 q => by rw [rep_bool r1, rep_bool r2]; exact ⟨rfl, by simpa using q⟩⟩
  · split at h
    · rename_i hs
      cases h
      exact ⟨⟨rEqD X.K, (fun _ _ _ _ _ => op_eqD (show X.A.units + 64 < cLine by omega)), fun v w H Q r1 r2 q => ⟨_, _, r1.dp, r2.dp, hs.1, hs.2, q⟩⟩, ⟨rNeD X.K, (fun _ _ _ _ _ => op_neD (show X.A.units + 64 < cLine by omega)), fun v w H Q r1 r2 q => ⟨_, _, r1.dp, r2.dp, hs.1, hs.2, q⟩⟩⟩
    · cases h
theorem isNone_eq {H : Hp} {v : V} {d : D} (h : Rep X.K H v d) : (decide (v = V.non)) = isNoneD d := by
  cases h <;> rfl
theorem op_isB {X : Cx} : OpR X (compareOp .Is) (fun x y H Q => ∃ a b, x = V.bl a ∧ y = V.bl b ∧ Q (.bl (a == b)) H) := by
  intro pins s σ H x y v u Q I rx ry h
  obtain ⟨a, b, rfl, rfl, q⟩ := h
  obtain rfl : v = Value.bool a := rx
  obtain rfl : u = Value.bool b := ry
  cases a <;> cases b <;> exact wpAny_pure (fin_bl I q (by rfl))
theorem op_notB {X : Cx} : OpR X (compareOp .IsNot) (fun x y H Q => ∃ a b, x = V.bl a ∧ y = V.bl b ∧ Q (.bl (!(a == b))) H) := by
  intro pins s σ H x y v u Q I rx ry h
  obtain ⟨a, b, rfl, rfl, q⟩ := h
  obtain rfl : v = Value.bool a := rx
  obtain rfl : u = Value.bool b := ry
  cases a <;> cases b <;> exact wpAny_pure (fin_bl I q (by rfl))
/-- an order of lists and tuples -/
def rOrd (K : PySem.W.Frag) (g : D → D → Bool) : R2 := fun x y H Q => ∃ da db, Dp K H x da ∧ Dp K H y db ∧ PySem.W.alike da db = true ∧ da ≠ .none ∧ da.depth ≤ 60 ∧ Q (.bl (g da db)) H
theorem op_ltD {X : Cx} (hu : X.A.units + 65 < cLine) : OpR X (compareOp .Lt) (rOrd X.K fun a b => PySem.W.dataLt a b) := by
  intro pins s σ H x y v u Q I rx ry h
  obtain ⟨da, db, h1, h2, h3, h4, h5, q⟩ := h
  obtain ⟨as, rd⟩ := Dp.reads I da x v h1 rx
  obtain ⟨bs, re⟩ := Dp.reads I db y u h2 ry
  exact PySem.W.lt_data rd re h3 h4 (by omega) (fin_bl I q (by rfl))
theorem op_gtD {X : Cx} (hu : X.A.units + 65 < cLine) : OpR X (compareOp .Gt) (rOrd X.K fun a b => PySem.W.dataLt b a) := by
  intro pins s σ H x y v u Q I rx ry h
  obtain ⟨da, db, h1, h2, h3, h4, h5, q⟩ := h
  obtain ⟨as, rd⟩ := Dp.reads I da x v h1 rx
  obtain ⟨bs, re⟩ := Dp.reads I db y u h2 ry
  exact PySem.W.gt_data rd re h3 h4 (by omega) (fin_bl I q (by rfl))
theorem op_leD {X : Cx} (hu : X.A.units + 65 < cLine) : OpR X (compareOp .LtE) (rOrd X.K fun a b => !PySem.W.dataLt b a) := by
  intro pins s σ H x y v u Q I rx ry h
  obtain ⟨da, db, h1, h2, h3, h4, h5, q⟩ := h
  obtain ⟨as, rd⟩ := Dp.reads I da x v h1 rx
  obtain ⟨bs, re⟩ := Dp.reads I db y u h2 ry
  exact PySem.W.le_data rd re h3 h4 (by omega) (fin_bl I q (by rfl))
theorem op_geD {X : Cx} (hu : X.A.units + 65 < cLine) : OpR X (compareOp .GtE) (rOrd X.K fun a b => !PySem.W.dataLt a b) := by
  intro pins s σ H x y v u Q I rx ry h
  obtain ⟨da, db, h1, h2, h3, h4, h5, q⟩ := h
  obtain ⟨as, rd⟩ := Dp.reads I da x v h1 rx
  obtain ⟨bs, re⟩ := Dp.reads I db y u h2 ry
  exact PySem.W.ge_data rd re h3 h4 (by omega) (fin_bl I q (by rfl))
theorem seqOrd_ok {a b : D} (h : seqOrd a b = true) : PySem.W.alike a b = true ∧ a ≠ .none ∧ a.depth ≤ 60 := by
  unfold seqOrd at h
  simp only [Bool.and_eq_true] at h
  obtain ⟨⟨h1, h2⟩, h3⟩ := h
  refine ⟨h2, ?_, of_decide_eq_true h3⟩
  rintro rfl
  cases h1
theorem ord_ok (hu : X.A.units + 65 < cLine) {op : CmpOp} {d1 d2 : D} {c : Bool} (h : ordV op d1 d2 = some c) : CmpOk X op d1 d2 c := by
  unfold ordV at h
  split at h <;> try (cases h; done)
  all_goals
    split at h <;> try (cases h; done)
    rename_i hs
    obtain ⟨a1, a2, a3⟩ := seqOrd_ok hs
    cases h
  · exact ⟨rOrd X.K fun a b => PySem.W.dataLt a b, (fun s0 H0 v0 f0 _ => op_ltD (X := Alt X s0 H0 v0 f0) hu), fun v w H Q r1 r2 q => ⟨_, _, r1.dp, r2.dp, a1, a2, a3, q⟩⟩
  · exact ⟨rOrd X.K fun a b => !PySem.W.dataLt b a, (fun s0 H0 v0 f0 _ => op_leD (X := Alt X s0 H0 v0 f0) hu), fun v w H Q r1 r2 q => ⟨_, _, r1.dp, r2.dp, a1, a2, a3, q⟩⟩
  · exact ⟨rOrd X.K fun a b => PySem.W.dataLt b a, (fun s0 H0 v0 f0 _ => op_gtD (X := Alt X s0 H0 v0 f0) hu), fun v w H Q r1 r2 q => ⟨_, _, r1.dp, r2.dp, a1, a2, a3, q⟩⟩
  · exact ⟨rOrd X.K fun a b => !PySem.W.dataLt a b, (fun s0 H0 v0 f0 _ => op_geD (X := Alt X s0 H0 v0 f0) hu), fun v w H Q r1 r2 q => ⟨_, _, r1.dp, r2.dp, a1, a2, a3, q⟩⟩
theorem cmp_ok (hu : X.A.units + 65 < cLine) {op : CmpOp} {d1 d2 : D} {c : Bool} (h : cmpV op d1 d2 = some c) : CmpOk X op d1 d2 c := by
  unfold cmpV at h
  split at h
  · exact (eq_ok hu h).1
  · obtain ⟨c', h', rfl⟩ := Option.map_eq_some_iff.mp h
    exact (eq_ok hu h').2
  · cases h
    exact ⟨_, (fun _ _ _ _ _ => op_lt), fun v w H Q r1 r2 q => ⟨_, _, rep_int r1, rep_int r2, q⟩⟩
  · cases h
    exact ⟨_, (fun _ _ _ _ _ => op_le), fun v w H Q r1 r2 q => ⟨_, _, rep_int r1, rep_int r2, q⟩⟩
  · cases h
    exact ⟨_, (fun _ _ _ _ _ => op_gt), fun v w H Q r1 r2 q => ⟨_, _, rep_int r1, rep_int r2, q⟩⟩
  · cases h
    exact ⟨_, (fun _ _ _ _ _ => op_ge), fun v w H Q r1 r2 q => ⟨_, _, rep_int r1, rep_int r2, q⟩⟩
  · cases h
    exact ⟨_, (fun _ _ _ _ _ => op_isN), fun v w H Q r1 r2 q => ⟨rep_none r2, by rw [isNone_eq r1]; exact q⟩⟩
  · cases h
    exact ⟨_, (fun _ _ _ _ _ => op_notN), fun v w H Q r1 r2 q => ⟨rep_none r2, by rw [isNone_eq r1]; exact q⟩⟩
  · cases h
    exact ⟨_, (fun s0 H0 v0 f0 _ => op_isB (X := Alt X s0 H0 v0 f0)), fun v w H Q r1 r2 q => ⟨_, _, rep_bool r1, rep_bool r2, q⟩⟩
  · cases h
    exact ⟨_, (fun s0 H0 v0 f0 _ => op_notB (X := Alt X s0 H0 v0 f0)), fun v w H Q r1 r2 q => ⟨_, _, rep_bool r1, rep_bool r2, q⟩⟩
  · split at h
    · rename_i hs
      cases h
      exact ⟨rInD X.K, (fun s0 H0 v0 f0 _ => op_inD (X := Alt X s0 H0 v0 f0) hu), fun v w H Q r1 r2 q => ⟨_, _, r1.dp, r2.dp, hs.1, hs.2, q⟩⟩
    · cases h
  · split at h
    · rename_i hs
      cases h
      exact ⟨rNotInD X.K, (fun s0 H0 v0 f0 _ => op_notInD (X := Alt X s0 H0 v0 f0) hu), fun v w H Q r1 r2 q => ⟨_, _, r1.dp, r2.dp, hs.1, hs.2, q⟩⟩
    · cases h
  · exact ord_ok hu h
theorem nomark' {op : CmpOp} (h : isMark op b = false) : behindInMarks op b = false := by
  cases b <;> first | rfl | (cases h)
theorem se_cmp {op : CmpOp} (hu : X.A.units + 65 < cLine) (hm : isMark op b = false) (ha : SE X a f) (hb : SE X b g) : SE X (.Compare a [op] [b] pos) (eCmp op f g) := by
  intro T S H σ env φ Q r env' L e k
  unfold eCmp at e
  obtain ⟨⟨r1, env1⟩, e1, e⟩ := Option.bind_eq_some_iff.mp e
  obtain ⟨⟨r2, env2⟩, e2, e⟩ := Option.bind_eq_some_iff.mp e
  obtain ⟨c, e3, e⟩ := Option.map_eq_some_iff.mp e
  cases e
  obtain ⟨rr, ho, hr⟩ := cmp_ok (X := X) hu e3
  exact ⟨_, fun s0 H0 v0 f0 qq => pe_cmpR (ho s0 H0 v0 f0 qq) (UE.pe s0 H0 v0 f0 qq) (UE.pe s0 H0 v0 f0 qq) (nomark' hm), two ha hb L e1 e2 fun v w S' H' φ' f1 f2 p => hr v w H' Q p.rep1 p.rep2 (k _ S' H' φ' [] (p.mid.frz (.bl _)))⟩
theorem st_cmp0 {op : CmpOp} (hu : X.A.units + 65 < cLine) (hm : isMark op b = false) (ha : SE X a f) (hb : SE X b g) : ST X (.Compare a [op] [b] pos) (tV0 (eCmp op f g)) := by
  intro T S H σ env φ Q r env' L e k
  unfold tV0 eCmp at e
  obtain ⟨⟨r0, env0⟩, e0, e⟩ := Option.bind_eq_some_iff.mp e
  obtain ⟨⟨r1, env1⟩, e1, e0⟩ := Option.bind_eq_some_iff.mp e0
  obtain ⟨⟨r2, env2⟩, e2, e0⟩ := Option.bind_eq_some_iff.mp e0
  obtain ⟨c, e3, e0⟩ := Option.map_eq_some_iff.mp e0
  cases e0
  obtain ⟨c', e4, e⟩ := Option.map_eq_some_iff.mp e
  cases e
  cases e4
  obtain ⟨rr, ho, hr⟩ := cmp_ok (X := X) hu e3
  exact ⟨_, fun s0 H0 v0 f0 qq => pt_cmpR (ho s0 H0 v0 f0 qq) (UE.pe s0 H0 v0 f0 qq) (UE.pe s0 H0 v0 f0 qq) (nomark' hm), two ha hb L e1 e2 fun v w S' H' φ' f1 f2 p => hr v w H' _ p.rep1 p.rep2 ⟨_, rfl, k S' H' φ' p.mid⟩⟩
/-! ### read with all slots frozen -/
theorem frzAll_at {env : Env} {i : Nat} {o : O} (h : (frzAll env)[i]? = some (some o)) : ∃ u, env[i]? = some (some u) ∧ o = .frz u.d := by
  unfold frzAll at h
  rw [List.getElem?_map] at h
  cases e : env[i]? with
  | none => rw [e] at h; cases h
  | some x =>
    rw [e] at h
    cases x with
    | none => cases h
    | some u => cases h; exact ⟨u, rfl, rfl⟩
theorem frzAll_hld {T : Addr → Prop} {S H : Hp} {σ : St} {env : Env} {φ : Nat → List Addr} (L : Hld K S H T σ env φ) : Hld K H H (fun a => H a ≠ none) σ (frzAll env) fun _ => [] := by
  refine ⟨Same.refl H, by rw [← L.len]; exact List.length_map .., fun i o e => ?_, fun _ _ => rfl, fun _ _ _ m _ => (nomatch m), fun _ _ m => (nomatch m), fun _ h => h⟩
  obtain ⟨u, e1, rfl⟩ := frzAll_at e
  obtain ⟨v, e2, r⟩ := L.slot i u e1
  exact ⟨v, e2, .frz (r.rep L.same u fun _ _ => rfl)⟩
theorem frzAll_back {T : Addr → Prop} {S H S' H' : Hp} {σ : St} {env env' : Env} {φ φ' : Nat → List Addr} (L : Hld K S H T σ env φ) (m : Mid K (fun a => H a ≠ none) σ H H (frzAll env) S' H' env' φ') : Mid K T σ S H env S H' env φ :=
  ⟨L.grow (Same.refl S) m.hh (L.same.trans m.hh) fun i a z => (L.dom z).2, m.hh, Same.refl S, fun _ _ => rfl, .refl env⟩
theorem st_tmp {e : Expr} {t : Tst} (h : ST X e t) : ST X e fun env => (t (frzAll env)).map fun x => (x.1, env) := by
  intro T S H σ env φ Q b env' L e k
  obtain ⟨⟨b1, env1⟩, e1, e⟩ := Option.map_eq_some_iff.mp e
  cases e
  exact h _ H H σ (frzAll env) _ Q b1 env1 (frzAll_hld L) e1 fun S' H' φ' m => k S H' φ (frzAll_back L m)
theorem scalar_rep {H H' : Hp} {v : V} {d : D} (h : Rep K H v d) (z : scalar d = true) : Rep K H' v d := by
  cases h with
  | lst => cases z
  | tup => cases z
  | non => exact .non
  | bl => exact .bl _
  | int => exact .int _
  | str => exact .str _
theorem se_tmp {e : Expr} {f : Ev} (h : SE X e f) : SE X e (eTm f) := by
  intro T S H σ env φ Q r env' L e k
  unfold eTm at e
  obtain ⟨⟨r1, env1⟩, e1, e⟩ := Option.bind_eq_some_iff.mp e
  split at e
  · rename_i z
    cases e
    refine h _ H H σ (frzAll env) _ Q r1 env1 (frzAll_hld L) e1 fun v S' H' φ' fq p => k v S H' φ fq ((frzAll_back L p.mid).fin ?_ fun a m => ⟨fun t => (p.dq a m).1 (L.tdom a t), fun i z => (p.dq a m).1 (L.dom z).1⟩)
    have rr := p.rr
    cases r1 with
    | frz d => exact ⟨scalar_rep rr.1 z, rr.2⟩
    | own o =>
      refine RepO.anyS o rr z fun a m => ?_
      cases q : S a with
      | none => rfl
      | some u => exact absurd (by rw [L.same a u q]; simp) (p.dq a m).1
    | bor i d => cases z
  · exact h T S H σ env φ Q r env' L e k
theorem st_cmp {op : CmpOp} (hu : X.A.units + 65 < cLine) (hm : isMark op b = false) (ha : SE X a f) (hb : SE X b g) : ST X (.Compare a [op] [b] pos) (tV (eCmp op f g)) := st_tmp (st_cmp0 hu hm ha hb)
end
end PY
set_option maxHeartbeats 1000000
/-! PySc: expressions, further: chains, subscripts, slices, arguments, calls, displays, tests. -/
namespace PY
open PySem L2
section
variable {X : Cx}
theorem al_ixl : Al X fun Y => IxR Y (rIxL X.K) := fun s H v f _ => ix_list (X := Alt X s H v f)
theorem al_ixt : Al X fun Y => IxR Y (rIxT X.K) := fun s H v f _ => ix_tup (X := Alt X s H v f)
theorem al_ixs : Al X fun Y => IxR Y rIxS := fun s H v f _ => ix_str (X := Alt X s H v f)
theorem al_slT : Al X fun Y => SlR Y (rSlA X.K) := fun s H v f _ => sl_tupA (X := Alt X s H v f)
theorem al_sl : Al X fun Y => SlR Y (rSlL X.K) := fun s H v f _ => sl_list (X := Alt X s H v f)
theorem al_isi : Al X fun Y => CallR Y (.builtin "isinstance") (rIsi X.K) := fun s H v f _ => call_isi (X := Alt X s H v f)
theorem al_len : Al X fun Y => CallR Y (.builtin "len") (fun xs H Q => ∃ p ys, xs = [.ref p] ∧ (SqL X.K H p ys ∨ SqT X.K H p ys) ∧ Q (.int ys.length) H) := fun s H v f _ => call_len_seq (X := Alt X s H v f)
theorem al_sum (hc : X.calm = true) : Al X fun Y => CallR Y (.builtin "sum") (rSum X.K) := fun s H v f _ => cr_sum (X := Alt X s H v f) hc
theorem al_listof : Al X fun Y => CallR Y (.type "list") (fun xs H Q => ∃ p ys, xs = [.ref p] ∧ (SqL X.K H p ys ∨ SqT X.K H p ys) ∧ ∀ l, H l = none → Q (.ref l) (upd H l (.lst ys))) := fun s H v f _ => call_list_of (X := Alt X s H v f)
theorem al_tupleof : Al X fun Y => CallR Y (.type "tuple") (fun xs H Q => ∃ p ys, xs = [.ref p] ∧ ((SqL X.K H p ys ∧ ∀ l, H l = none → Q (.ref l) (upd H l (.tup ys))) ∨ (SqT X.K H p ys ∧ Q (.ref p) H))) := fun s H v f _ => call_tuple_of (X := Alt X s H v f)
end
section
variable {X : Cx} {pos : Pos} {a b c : Expr} {f g h : Ev}

theorem op_bad {fn : Value → Value → Sem Value} : OpR X fn (fun _ _ _ _ => False) := fun _ _ _ _ _ _ _ _ _ _ _ _ h => h.elim
theorem mark2 {op op' : CmpOp} (h1 : isMark op b = false) (h2 : isMark op' c = false) : lastMarks [op, op'] [b, c] = false := nomark' h2
theorem se_cmp2 {op op' : CmpOp} (hu : X.A.units + 65 < cLine) (hm1 : isMark op b = false) (hm : isMark op' c = false) (ha : SE X a f) (hb : SE X b g) (hc : SE X c h) : SE X (.Compare a [op, op'] [b, c] pos) (eCmp2 op op' f g h) := by
  intro T S H σ env φ Q r env' L e k
  unfold eCmp2 at e
  obtain ⟨⟨r1, env1⟩, e1, e⟩ := Option.bind_eq_some_iff.mp e
  obtain ⟨⟨r2, env2⟩, e2, e⟩ := Option.bind_eq_some_iff.mp e
  obtain ⟨c1, e3, e⟩ := Option.bind_eq_some_iff.mp e
  obtain ⟨rr, ho, hr⟩ := cmp_ok (X := X) hu e3
  cases c1 with
  | false =>
    cases e
    exact ⟨_, fun s0 H0 v0 f0 qq => pe_chain (ho s0 H0 v0 f0 qq) op_bad (UE.pe s0 H0 v0 f0 qq) (UE.pe s0 H0 v0 f0 qq) (UE.pe s0 H0 v0 f0 qq) (mark2 hm1 hm), two ha hb L e1 e2 fun v w S' H' φ' f1 f2 p => hr v w H' _ p.rep1 p.rep2 ⟨false, rfl, iteF (k _ S' H' φ' [] (p.mid.frz (.bl _)))⟩⟩
  | true =>
    obtain ⟨⟨r3, env3⟩, e4, e⟩ := Option.bind_eq_some_iff.mp e
    obtain ⟨c2, e5, e⟩ := Option.map_eq_some_iff.mp e
    cases e
    obtain ⟨rr', ho', hr'⟩ := cmp_ok (X := X) hu e5
    refine ⟨_, fun s0 H0 v0 f0 qq => pe_chain (ho s0 H0 v0 f0 qq) (ho' s0 H0 v0 f0 qq) (UE.pe s0 H0 v0 f0 qq) (UE.pe s0 H0 v0 f0 qq) (UE.pe s0 H0 v0 f0 qq) (mark2 hm1 hm), two ha hb L e1 e2 fun v w S' H' φ' f1 f2 p => hr v w H' _ p.rep1 p.rep2 ⟨true, rfl, iteT ?_⟩⟩
    exact hc T S' H' σ env2 φ' _ r3 env3 p.mid.hld e4 fun u S3 H3 φ3 f3 p3 => hr' w u H3 Q (p.rep2.mono p3.hh) p3.rep (k _ S3 H3 φ3 [] ((p.mid.trans p3.mid).frz (.bl _)))
theorem st_cmp20 {op op' : CmpOp} (hu : X.A.units + 65 < cLine) (hm1 : isMark op b = false) (hm : isMark op' c = false) (ha : SE X a f) (hb : SE X b g) (hc : SE X c h) : ST X (.Compare a [op, op'] [b, c] pos) (tV0 (eCmp2 op op' f g h)) := by
  intro T S H σ env φ Q r env' L e k
  unfold tV0 eCmp2 at e
  obtain ⟨⟨r0, env0⟩, e0, e⟩ := Option.bind_eq_some_iff.mp e
  obtain ⟨⟨r1, env1⟩, e1, e0⟩ := Option.bind_eq_some_iff.mp e0
  obtain ⟨⟨r2, env2⟩, e2, e0⟩ := Option.bind_eq_some_iff.mp e0
  obtain ⟨c1, e3, e0⟩ := Option.bind_eq_some_iff.mp e0
  obtain ⟨rr, ho, hr⟩ := cmp_ok (X := X) hu e3
  cases c1 with
  | false =>
    cases e0
    obtain ⟨c', e4, e⟩ := Option.map_eq_some_iff.mp e
    cases e
    cases e4
    exact ⟨_, fun s0 H0 v0 f0 qq => pt_chain (ho s0 H0 v0 f0 qq) op_bad (UE.pe s0 H0 v0 f0 qq) (UE.pe s0 H0 v0 f0 qq) (UE.pe s0 H0 v0 f0 qq) (mark2 hm1 hm), two ha hb L e1 e2 fun v w S' H' φ' f1 f2 p => hr v w H' _ p.rep1 p.rep2 ⟨false, rfl, iteF ⟨_, rfl, k S' H' φ' p.mid⟩⟩⟩
  | true =>
    obtain ⟨⟨r3, env3⟩, e4, e0⟩ := Option.bind_eq_some_iff.mp e0
    obtain ⟨c2, e5, e0⟩ := Option.map_eq_some_iff.mp e0
    cases e0
    obtain ⟨c', e6, e⟩ := Option.map_eq_some_iff.mp e
    cases e
    cases e6
    obtain ⟨rr', ho', hr'⟩ := cmp_ok (X := X) hu e5
    refine ⟨_, fun s0 H0 v0 f0 qq => pt_chain (ho s0 H0 v0 f0 qq) (ho' s0 H0 v0 f0 qq) (UE.pe s0 H0 v0 f0 qq) (UE.pe s0 H0 v0 f0 qq) (UE.pe s0 H0 v0 f0 qq) (mark2 hm1 hm), two ha hb L e1 e2 fun v w S' H' φ' f1 f2 p => hr v w H' _ p.rep1 p.rep2 ⟨true, rfl, iteT ?_⟩⟩
    exact hc T S' H' σ env2 φ' _ r3 env3 p.mid.hld e4 fun u S3 H3 φ3 f3 p3 => hr' w u H3 _ (p.rep2.mono p3.hh) p3.rep ⟨_, rfl, k S3 H3 φ3 (p.mid.trans p3.mid)⟩

theorem st_cmp2 {op op' : CmpOp} (hu : X.A.units + 65 < cLine) (hm1 : isMark op b = false) (hm : isMark op' c = false) (ha : SE X a f) (hb : SE X b g) (hc : SE X c h) : ST X (.Compare a [op, op'] [b, c] pos) (tV (eCmp2 op op' f g h)) := st_tmp (st_cmp20 hu hm1 hm ha hb hc)
/-! ### subscripts -/
theorem Reps.atI {H : Hp} {vs : List V} {ds : List D} {i : Int} {d : D} (h : Reps X.K H vs ds) (e : atI ds i = some d) : ∃ v, atI vs i = some v ∧ Rep X.K H v d := by
  unfold L2.atI at e ⊢
  obtain ⟨j, e1, e2⟩ := Option.bind_eq_some_iff.mp e
  obtain ⟨v, e3, r⟩ := h.get e2
  refine ⟨v, ?_, r⟩
  rw [h.length, e1]
  exact e3
theorem Rep.scalar {H H' : Hp} {v : V} {d : D} (h : Rep X.K H v d) (z : scalar d = true) : Rep X.K H' v d := by
  cases h with
  | lst => cases z
  | tup => cases z
  | non => exact .non
  | bl => exact .bl _
  | int => exact .int _
  | str => exact .str _
theorem plain_of (h : plainIx b = true) : PlainIx b := by
  intro o i
  cases b <;> first | rfl | (cases h)
theorem P2.share1 {T : Addr → Prop} {σ : St} {S H S' H' : Hp} {env env' : Env} {φ' : Nat → List Addr} {v w : V} {r1 r2 : R} {f1 f2 : List Addr} (p : P2 X.K T σ S H env S' H' env' φ' v w r1 r2 f1 f2) :
    ∃ S2 φ2, Mid X.K T σ S H env S2 H' (sh r1 env').2 φ2 ∧ Items X.K S2 H' v (sh r1 env').1 := by
  obtain ⟨S1, φ1, q1, i1, le1, -⟩ := sh_ok p.mid.hld p.rr1 p.dq1
  exact ⟨S1, φ1, p.mid.trans q1.mid, i1⟩
theorem RepOs.getO {K : PySem.W.Frag} {S H : Hp} : ∀ {os : List O} {vs : List V} {fp : List Addr} {j : Nat} {o : O}, RepOs K S H vs os fp → os[j]? = some o → ∃ v f, vs[j]? = some v ∧ RepO K S H v o f ∧ ∀ a ∈ f, a ∈ fp
  | [], _, _, j, o, h, e => by simp at e
  | o' :: os, _, _, 0, o, h, e => by
    cases h with
    | cons r q d =>
      cases e
      exact ⟨_, _, rfl, r, fun a m => List.mem_append_left _ m⟩
  | o' :: os, _, _, j + 1, o, h, e => by
    cases h with
    | cons r q d =>
      obtain ⟨v, f, e1, e2, e3⟩ := RepOs.getO (j := j) q (by simpa using e)
      exact ⟨v, f, by simpa using e1, e2, fun a m => List.mem_append_right _ (e3 a m)⟩
theorem RepOs.atO {K : PySem.W.Frag} {S H : Hp} {os : List O} {vs : List V} {fp : List Addr} {i : Int} {o : O} (h : RepOs K S H vs os fp) (e : L2.atI os i = some o) : ∃ v f, L2.atI vs i = some v ∧ RepO K S H v o f ∧ ∀ a ∈ f, a ∈ fp := by
  unfold L2.atI at e ⊢
  obtain ⟨j, e1, e2⟩ := Option.bind_eq_some_iff.mp e
  obtain ⟨v, f, e3, r, q⟩ := h.getO e2
  rw [h.length, e1]
  exact ⟨v, f, e3, r, q⟩
theorem RR.ofO {K : PySem.W.Frag} {S H : Hp} {σ : St} {env : Env} {v : V} {o : O} {f : List Addr} (h : RepO K S H v o f) : RR K S H σ env v (PY.ofO o) f := by
  cases o with
  | frz d =>
    cases h with
    | frz r => exact ⟨r, rfl⟩
  | own os => exact h
  | otup os => exact h
theorem pickO_some {r : R} {d : D} {o : O} (h : pickO r d = some o) : ∃ os i, (r = .own (.own os) ∨ r = .own (.otup os)) ∧ d = .int i ∧ L2.atI os i = some o := by
  unfold pickO at h
  split at h
  · exact ⟨_, _, .inl rfl, rfl, h⟩
  · exact ⟨_, _, .inr rfl, rfl, h⟩
  · cases h
theorem se_ix (hp : plainIx b = true) (ha : SE X a f) (hb : SE X b g) : SE X (.Subscript a b pos) (eIx f g) := by
  intro T S H σ env φ Q r env' L e k
  unfold eIx at e
  obtain ⟨⟨r1, env1⟩, e1, e⟩ := Option.bind_eq_some_iff.mp e
  obtain ⟨⟨r2, env2⟩, e2, e⟩ := Option.bind_eq_some_iff.mp e
  obtain ⟨d, e3, e⟩ := Option.map_eq_some_iff.mp e
  have go : ∀ {rr : R2}, (Al X fun Y => IxR Y rr) → (∀ v w S' H' φ' f1 f2, P2 X.K T σ S H env S' H' env2 φ' v w r1 r2 f1 f2 → rr v w H' Q) → UE X (.Subscript a b pos) σ H Q := fun ho k' => ⟨_, fun s0 H0 v0 f0 qq => pe_ix (ho s0 H0 v0 f0 qq) (UE.pe s0 H0 v0 f0 qq) (UE.pe s0 H0 v0 f0 qq) (plain_of hp), two ha hb L e1 e2 k'⟩
  unfold ixF at e
  by_cases hpo : ¬ (scalar d = true ∨ pickO r1 r2.d = none)
  · have hs : ¬ scalar d = true := fun z => hpo (.inl z)
    rw [if_neg hs] at e
    cases hpk : pickO r1 r2.d with
    | none => exact absurd (.inr hpk) hpo
    | some o =>
      rw [hpk] at e
      cases e
      obtain ⟨os, i, ho, hi, hat⟩ := pickO_some hpk
      rcases ho with ho | ho
      · refine go al_ixl fun v w S' H' φ' f1 f2 p => ?_
        have r2' := p.rep2
        rw [hi] at r2'
        have h1 := p.rr1
        rw [ho] at h1
        have h2 : RepO X.K S' H' v (.own os) f1 := h1
        clear h1
        cases h2 with
        | own g1 g2 g3 g4 =>
          obtain ⟨x, f, e4, q, sub⟩ := g4.atO hat
          exact ⟨_, _, _, x, rfl, rep_int r2', .inl (.inl g1), e4, k _ _ _ _ f (p.mid.fin (RR.ofO q) fun a m => p.dq1 a (List.mem_cons_of_mem _ (sub a m)))⟩
      · refine go al_ixt fun v w S' H' φ' f1 f2 p => ?_
        have r2' := p.rep2
        rw [hi] at r2'
        have h1 := p.rr1
        rw [ho] at h1
        have h2 : RepO X.K S' H' v (.otup os) f1 := h1
        clear h1
        cases h2 with
        | otup g1 g2 g3 g4 =>
          obtain ⟨x, f, e4, q, sub⟩ := g4.atO hat
          exact ⟨_, _, _, x, rfl, rep_int r2', .inl (.inl g1), e4, k _ _ _ _ f (p.mid.fin (RR.ofO q) fun a m => p.dq1 a (List.mem_cons_of_mem _ (sub a m)))⟩
  have e : (if scalar d = true then (R.frz d, env2) else (R.frz d, (sh r1 env2).2)) = (r, env') := by
    rcases Classical.not_not.mp hpo with z | z
    · rw [if_pos z] at e ⊢
      exact e
    · simp only at e
      rw [z] at e
      exact e
  -- what comes behind, once the item is known
  have fin : ∀ {v w : V} {S' H' : Hp} {φ' : Nat → List Addr} {f1 f2 : List Addr} {S2 : Hp} {φ2 : Nat → List Addr} {x : V}, P2 X.K T σ S H env S' H' env2 φ' v w r1 r2 f1 f2 → Mid X.K T σ S H env S2 H' (sh r1 env2).2 φ2 → Rep X.K S2 x d → Q x H' := fun p m q => by
    by_cases z : scalar d = true
    · simp only [z, if_true] at e
      cases e
      exact k _ _ _ _ _ (p.mid.frz (q.scalar z))
    · simp only [z] at e
      cases e
      exact k _ _ _ _ _ (m.frz q)
  generalize hd1 : r1.d = d1 at e3
  generalize hd2 : r2.d = d2 at e3
  unfold ixV at e3
  split at e3
  · refine go al_ixl fun v w S' H' φ' f1 f2 p => ?_
    have r2' := p.rep2
    rw [hd2] at r2'
    obtain ⟨S2, φ2, m, i1⟩ := p.share1
    rw [sh_d, hd1] at i1
    obtain ⟨l, xs, rfl, h1, q1⟩ := it_list i1
    obtain ⟨x, e4, q⟩ := q1.atI e3
    exact ⟨l, xs, _, x, rfl, rep_int r2', h1, e4, fin p m q⟩
  · refine go al_ixt fun v w S' H' φ' f1 f2 p => ?_
    have r2' := p.rep2
    rw [hd2] at r2'
    obtain ⟨S2, φ2, m, i1⟩ := p.share1
    rw [sh_d, hd1] at i1
    obtain ⟨l, xs, rfl, h1, q1⟩ := it_tup i1
    obtain ⟨x, e4, q⟩ := q1.atI e3
    exact ⟨l, xs, _, x, rfl, rep_int r2', h1, e4, fin p m q⟩
  · split at e3
    · rename_i hz
      obtain ⟨c', e4, e5⟩ := Option.map_eq_some_iff.mp e3
      subst e5
      refine go al_ixs fun v w S' H' φ' f1 f2 p => ?_
      have r1' := p.rep1
      rw [hd1] at r1'
      have r2' := p.rep2
      rw [hd2] at r2'
      obtain ⟨S2, φ2, m, i1⟩ := p.share1
      exact ⟨_, _, c', rep_str r1', rep_int r2', hz, e4, fin p m (.str _)⟩
    · cases e3
  · cases e3

/-! ### slices -/
def UO (X : Cx) (o : Option Expr) : TO := fun σ H Q => ∃ t, (Al X fun Y => PO Y o t) ∧ t σ H Q
theorem UO.po {o : Option Expr} : Al X fun Y => PO Y o (UO X o) := fun s0 H0 v0 f0 qq => ⟨fun pins s σ H Q I h => let ⟨_, p, q⟩ := h; (p s0 H0 v0 f0 qq).run pins s σ H Q I q⟩
def SO (X : Cx) (o : Option Expr) (f : Option Ev) : Prop := ∀ (T : Addr → Prop) (S H : Hp) (σ : St) (env : Env) (φ : Nat → List Addr) (Q : Option Int → Hp → Prop) (r : Option Int) (env' : Env), Hld X.K S H T σ env φ → ePart f env = some (r, env') →
  (∀ S' H' φ', Mid X.K T σ S H env S' H' env' φ' → Q r H') → UO X o σ H Q
theorem so_none : SO X none none := by
  intro T S H σ env φ Q r env' L e k
  cases e
  exact ⟨_, fun _ _ _ _ _ => po_none, k S H φ (.refl L)⟩
theorem so_bad {o : Option Expr} : SO X o (some eNone) := by
  intro T S H σ env φ Q r env' L e k
  cases e
theorem so_some (ha : SE X a f) : SO X (some a) (some f) := by
  intro T S H σ env φ Q r env' L e k
  unfold ePart at e
  obtain ⟨⟨r1, env1⟩, e1, e⟩ := Option.bind_eq_some_iff.mp e
  obtain ⟨i, e3, e⟩ := Option.map_eq_some_iff.mp e
  cases e
  refine ⟨_, fun s0 H0 v0 f0 qq => po_some (UE.pe s0 H0 v0 f0 qq), ha T S H σ env φ _ r1 env1 L e1 fun v S1 H1 φ1 f1 p => ?_⟩
  have q := p.rep
  rw [asInt_eq e3] at q
  exact ⟨i, rep_int q, k S1 H1 φ1 p.mid⟩
theorem Reps.cut {H : Hp} {vs : List V} {ds : List D} (h : Reps X.K H vs ds) (lo hi : Option Int) : Reps X.K H (cutV vs lo hi) (cutD ds lo hi) := by
  unfold cutV cutD
  rw [h.length]
  exact (h.drop _).take _
theorem se_sl {lo hi : Option Expr} {fl fh : Option Ev} {p2 : Pos} (ha : SE X a f) (hl : SO X lo fl) (hh : SO X hi fh) : SE X (.Subscript a (.Slice lo hi none p2) pos) (eSl f fl fh) := by
  intro T S H σ env φ Q r env' L e k
  unfold eSl at e
  obtain ⟨⟨r1, env1⟩, e1, e⟩ := Option.bind_eq_some_iff.mp e
  obtain ⟨⟨l, env2⟩, e2, e⟩ := Option.bind_eq_some_iff.mp e
  obtain ⟨⟨u, env3⟩, e3, e⟩ := Option.bind_eq_some_iff.mp e
  split at e
  · rename_i d hd
    obtain ⟨ds, h1, rfl⟩ : ∃ ds, r1.d = .tuple ds ∧ d = .tuple (cutD ds l u) := by
      generalize r1.d = d1 at hd
      cases d1 <;> cases hd
      exact ⟨_, rfl, rfl⟩
    cases e
    refine ⟨_, fun s0 H0 v0 f0 qq => pe_slice (al_slT s0 H0 v0 f0 qq) (UE.pe s0 H0 v0 f0 qq) (UO.po s0 H0 v0 f0 qq) (UO.po s0 H0 v0 f0 qq), ha T S H σ env φ _ r1 env1 L e1 fun v S1 H1 φ1 f1 p1 => ?_⟩
    refine hl (fun a => T a ∨ a ∈ f1) S1 H1 σ env1 φ1 _ _ env2 (p1.hld.guard (fun a m => (p1.dq a m).2) fun a m => (p1.rr.dom a m).1) e2 fun S2 H2 φ2 m2 => ?_
    refine hh (fun a => T a ∨ a ∈ f1) S2 H2 σ env2 φ2 _ _ env3 m2.hld e3 fun S3 H3 φ3 m3 => ?_
    have m := m2.trans m3
    have rr : RR X.K S3 H3 σ env3 v r1 f1 := p1.rr.mono m.ss m.hh (fun a z => (m.ts a (.inr z)).trans (p1.rr.dom a z).2) m.le
    have p : EPost X.K T σ S H env S3 H3 env3 φ3 v r1 f1 := (p1.mid.trans (m.weak fun _ t => .inl t)).fin rr fun a z => ⟨(p1.dq a z).1, fun i q => m.hld.fr i a q (.inr z)⟩
    obtain ⟨S4, φ4, m4, i4⟩ := p.fz
    rw [fz_d] at i4
    have i4 : Rep X.K S4 v (.tuple ds) := h1 ▸ i4
    have i4' := i4
    cases i4 with
    | tup s1 q1 =>
      refine ⟨_, _, rfl, SqT.mono m4.hld.same s1, fun z => ?_, fun _ pp hp => ?_⟩
      · rw [q1.length] at z
        have ee : cutD ds l u = ds := by
          unfold cutD
          rw [z.1, z.2, List.drop_zero, Nat.sub_zero, List.take_length]
        rw [ee] at k
        exact k _ _ _ _ _ (m4.frz i4')
      · obtain ⟨S5, φ5, p5⟩ := m4.newT hp (q1.cut l u)
        exact k _ _ _ _ _ p5
  obtain ⟨r', e4, e⟩ := Option.map_eq_some_iff.mp e
  cases e
  simp only [sh_d] at e4
  generalize hd1 : r1.d = d1 at e4
  unfold slV at e4
  split at e4
  · rename_i xs lo' hi'
    cases e4
    refine ⟨_, fun s0 H0 v0 f0 qq => pe_slice (al_sl s0 H0 v0 f0 qq) (UE.pe s0 H0 v0 f0 qq) (UO.po s0 H0 v0 f0 qq) (UO.po s0 H0 v0 f0 qq), ha T S H σ env φ _ r1 env1 L e1 fun v S1 H1 φ1 f1 p1 => ?_⟩
    refine hl (fun a => T a ∨ a ∈ f1) S1 H1 σ env1 φ1 _ _ env2 (p1.hld.guard (fun a m => (p1.dq a m).2) fun a m => (p1.rr.dom a m).1) e2 fun S2 H2 φ2 m2 => ?_
    refine hh (fun a => T a ∨ a ∈ f1) S2 H2 σ env2 φ2 _ _ env3 m2.hld e3 fun S3 H3 φ3 m3 => ?_
    have m := m2.trans m3
    have rr : RR X.K S3 H3 σ env3 v r1 f1 := p1.rr.mono m.ss m.hh (fun a z => (m.ts a (.inr z)).trans (p1.rr.dom a z).2) m.le
    have p : EPost X.K T σ S H env S3 H3 env3 φ3 v r1 f1 := (p1.mid.trans (m.weak fun _ t => .inl t)).fin rr fun a z => ⟨(p1.dq a z).1, fun i q => m.hld.fr i a q (.inr z)⟩
    obtain ⟨S4, φ4, m4, i4⟩ := p.share
    rw [sh_d, hd1] at i4
    obtain ⟨a', ys, rfl, h1, q1⟩ := it_list i4
    exact ⟨a', ys, rfl, h1, fun pp hp => k _ _ _ _ _ (m4.mkL hp (q1.cut _ _))⟩
  · cases e4
theorem Reps.pick {H : Hp} {vs : List V} {ds : List D} (h : Reps X.K H vs ds) (is : List Nat) : Reps X.K H (is.filterMap (vs[·]?)) (is.filterMap (ds[·]?)) := by
  induction is with
  | nil => exact .nil
  | cons i is ih =>
    rw [List.filterMap_cons, List.filterMap_cons]
    cases e : ds[i]? with
    | some d =>
      obtain ⟨v, e1, r⟩ := h.get e
      rw [e1]
      exact .cons r ih
    | none =>
      have e1 : vs[i]? = none := by
        rw [List.getElem?_eq_none_iff] at e ⊢
        rw [h.length]
        exact e
      rw [e1]
      exact ih
theorem Reps.pickL {H : Hp} {vs : List V} {ds : List D} (h : Reps X.K H vs ds) (lo hi : Option Int) (k : Int) : Reps X.K H (L2.pickL vs lo hi k) (L2.pickL ds lo hi k) := by
  unfold L2.pickL
  rw [h.length]
  exact h.pick _
theorem se_stp {lo hi : Option Expr} {fl fh : Option Ev} {p1 p2 : Pos} {c0 : Nat} {n : Int} (h0 : n ≠ 0) (ha : SE X a f) (hl : SO X lo fl) (hh : SO X hi fh) : SE X (.Subscript a (.Slice lo hi (some (.Constant (.int n) c0 p1)) p2) pos) (eStp f fl fh n) := by
  intro T S H σ env φ Q r env' L e k
  unfold eStp at e
  obtain ⟨⟨r1, env1⟩, e1, e⟩ := Option.bind_eq_some_iff.mp e
  obtain ⟨⟨l, env2⟩, e2, e⟩ := Option.bind_eq_some_iff.mp e
  obtain ⟨⟨u, env3⟩, e3, e⟩ := Option.bind_eq_some_iff.mp e
  obtain ⟨r', e4, e⟩ := Option.map_eq_some_iff.mp e
  cases e
  simp only [sh_d] at e4
  generalize hd1 : r1.d = d1 at e4
  unfold stpV at e4
  split at e4
  · rename_i xs lo' hi' k'
    split at e4
    · rename_i hz
      cases e4
      refine ⟨tStp X.K n (UE X a) (UO X lo) (UO X hi), fun s0 H0 v0 f0 qq => pe_step h0 (UE.pe s0 H0 v0 f0 qq) (UO.po s0 H0 v0 f0 qq) (UO.po s0 H0 v0 f0 qq), ha T S H σ env φ _ r1 env1 L e1 fun v S1 H1 φ1 f1 p1 => ?_⟩
      refine hl (fun a => T a ∨ a ∈ f1) S1 H1 σ env1 φ1 _ _ env2 (p1.hld.guard (fun a m => (p1.dq a m).2) fun a m => (p1.rr.dom a m).1) e2 fun S2 H2 φ2 m2 => ?_
      refine hh (fun a => T a ∨ a ∈ f1) S2 H2 σ env2 φ2 _ _ env3 m2.hld e3 fun S3 H3 φ3 m3 => ?_
      have m := m2.trans m3
      have rr : RR X.K S3 H3 σ env3 v r1 f1 := p1.rr.mono m.ss m.hh (fun a z => (m.ts a (.inr z)).trans (p1.rr.dom a z).2) m.le
      have p : EPost X.K T σ S H env S3 H3 env3 φ3 v r1 f1 := (p1.mid.trans (m.weak fun _ t => .inl t)).fin rr fun a z => ⟨(p1.dq a z).1, fun i q => m.hld.fr i a q (.inr z)⟩
      obtain ⟨S4, φ4, m4, i4⟩ := p.share
      rw [sh_d, hd1] at i4
      obtain ⟨a', ys, rfl, h1, q1⟩ := it_list i4
      have q2 := q1.pickL l u n
      exact ⟨a', ys, rfl, h1, by rw [q2.length]; exact hz, fun pp hp => k _ _ _ _ _ (m4.mkL hp q2)⟩
    · cases e4
  · cases e4
theorem rev_shape {sl : Expr} (h : isRev sl = true) : ∃ k p1 p2 p3, sl = .Slice none none (some (.UnaryOp .USub (.Constant (.int 1) k p1) p2)) p3 := by
  unfold isRev at h
  split at h
  · exact ⟨_, _, _, _, rfl⟩
  · cases h
theorem se_rev {sl : Expr} (hs : isRev sl = true) (ha : SE X a f) : SE X (.Subscript a sl pos) (eRev f) := by
  obtain ⟨k0, p1, p2, p3, rfl⟩ := rev_shape hs
  intro T S H σ env φ Q r env' L e k
  unfold eRev at e
  obtain ⟨⟨r1, env1⟩, e1, e⟩ := Option.bind_eq_some_iff.mp e
  generalize hd1 : (sh r1 env1).1 = d1 at e
  cases d1 <;> try (simp only [hd1] at e; cases e; done)
  rename_i xs
  simp only [hd1] at e
  cases e
  refine ⟨tRevL X.K (UE X a), fun s0 H0 v0 f0 qq => pe_revL (X := Alt X s0 H0 v0 f0) (UE.pe s0 H0 v0 f0 qq), ha T S H σ env φ _ r1 env1 L e1 fun v S1 H1 φ1 f1 p1 => ?_⟩
  obtain ⟨S4, φ4, m4, i4⟩ := p1.share
  rw [hd1] at i4
  obtain ⟨a', ys, rfl, h1, q1⟩ := it_list i4
  exact ⟨a', ys, rfl, h1, fun pp hp => k _ _ _ _ _ (m4.mkL hp q1.reverse)⟩

/-! ### argument lists -/
inductive RRs (K : PySem.W.Frag) (S H : Hp) (σ : St) (env : Env) : List V → List R → List Addr → Prop
  | nil : RRs K S H σ env [] [] []
  | cons {v : V} {vs : List V} {r : R} {rs : List R} {f g : List Addr} : RR K S H σ env v r f → RRs K S H σ env vs rs g → (∀ a ∈ f, a ∉ g) → RRs K S H σ env (v :: vs) (r :: rs) (f ++ g)
theorem RRs.length {S H : Hp} {σ : St} {env : Env} : ∀ {vs : List V} {rs : List R} {f : List Addr}, RRs X.K S H σ env vs rs f → vs.length = rs.length
  | _, _, _, .nil => rfl
  | _, _, _, .cons _ q _ => by simp [RRs.length q]
theorem RRs.mono {S H S' H' : Hp} {σ : St} {env env' : Env} : ∀ {vs : List V} {rs : List R} {f : List Addr}, RRs X.K S H σ env vs rs f → Same S S' → Same H H' → (∀ a ∈ f, S' a = none) → ELe env env' → RRs X.K S' H' σ env' vs rs f
  | _, _, _, .nil, _, _, _, _ => .nil
  | _, _, _, .cons r q d, ss, hh, n, le => .cons (r.mono ss hh (fun a m => n a (List.mem_append_left _ m)) le) (RRs.mono q ss hh (fun a m => n a (List.mem_append_right _ m)) le) d
theorem RRs.dom {S H : Hp} {σ : St} {env : Env} : ∀ {vs : List V} {rs : List R} {f : List Addr}, RRs X.K S H σ env vs rs f → ∀ a ∈ f, H a ≠ none ∧ S a = none
  | _, _, _, .nil, a, m => nomatch m
  | _, _, _, .cons r q d, a, m => (List.mem_append.mp m).elim (r.dom a) (RRs.dom q a)
theorem RRs.reps {S H : Hp} {T : Addr → Prop} {σ : St} {env : Env} {φ : Nat → List Addr} (L : Hld X.K S H T σ env φ) : ∀ {vs : List V} {rs : List R} {f : List Addr}, RRs X.K S H σ env vs rs f → Reps X.K H vs (rs.map R.d)
  | _, _, _, .nil => .nil
  | _, _, _, .cons r q d => .cons (r.rep L) (RRs.reps L q)
def SA (X : Cx) (es : List Expr) (fs : List Ev) : Prop := ∀ (T : Addr → Prop) (S H : Hp) (σ : St) (env : Env) (φ : Nat → List Addr) (Q : List V → Hp → Prop) (rs : List R) (env' : Env), Hld X.K S H T σ env φ → evs fs env = some (rs, env') →
  (∀ vs S' H' φ' fq, Mid X.K T σ S H env S' H' env' φ' → RRs X.K S' H' σ env' vs rs fq → (∀ a ∈ fq, ¬ T a ∧ ∀ i, a ∉ φ' i) → Q vs H') → UA X es σ H Q
theorem star_one {e : Expr} {es : List Expr} {env : PySem.Env} (h : noStar e = true) : starEach (e :: es) env = (false, eval e env) :: starEach es env := by
  cases e <;> first | rfl | (cases h)
theorem sa_nil : SA X [] [] := by
  intro T S H σ env φ Q rs env' L e k
  cases e
  exact ⟨_, fun _ _ _ _ _ => pa_nil, k [] S H φ [] (.refl L) .nil fun _ m => nomatch m⟩
theorem sa_cons {es : List Expr} {fs : List Ev} (hn : noStar a = true) (ha : SE X a f) (hs : SA X es fs) : SA X (a :: es) (f :: fs) := by
  intro T S H σ env φ Q rs env' L e k
  unfold evs at e
  obtain ⟨⟨r1, env1⟩, e1, e⟩ := Option.bind_eq_some_iff.mp e
  obtain ⟨⟨rs', env2⟩, e2, e⟩ := Option.map_eq_some_iff.mp e
  cases e
  refine ⟨_, fun s0 H0 v0 f0 qq => pa_cons (UE.pe s0 H0 v0 f0 qq) (UA.pa s0 H0 v0 f0 qq) (star_one hn), ha T S H σ env φ _ r1 env1 L e1 fun v S1 H1 φ1 f1 p1 => ?_⟩
  refine hs (fun a => T a ∨ a ∈ f1) S1 H1 σ env1 φ1 _ rs' env2 (p1.hld.guard (fun a m => (p1.dq a m).2) fun a m => (p1.rr.dom a m).1) e2 fun vs S2 H2 φ2 fq m2 q2 d2 => ?_
  refine k (v :: vs) S2 H2 φ2 (f1 ++ fq) (p1.mid.trans (m2.weak fun _ t => .inl t)) (.cons (p1.rr.mono m2.ss m2.hh (fun a z => (m2.ts a (.inr z)).trans (p1.rr.dom a z).2) m2.le) q2 fun a m z => (d2 a z).1 (.inr m)) fun a m => ?_
  rcases List.mem_append.mp m with m | m
  · exact ⟨(p1.dq a m).1, fun i z => m2.hld.fr i a z (.inr m)⟩
  · exact ⟨fun t => (d2 a m).1 (.inl t), (d2 a m).2⟩
theorem fzs_ok {H : Hp} {T : Addr → Prop} {σ : St} : ∀ {rs : List R} {env : Env} {φ : Nat → List Addr} {S : Hp} {vs : List V} {fq : List Addr}, Hld X.K S H T σ env φ → RRs X.K S H σ env vs rs fq → (∀ a ∈ fq, ¬ T a ∧ ∀ i, a ∉ φ i) →
    ∃ S' φ', Mid X.K T σ S H env S' H (fzs rs env).2 φ' ∧ Reps X.K S' vs (fzs rs env).1
  | [], env, φ, S, _, _, L, q, _ => by
    cases q
    exact ⟨S, φ, .refl L, .nil⟩
  | r :: rs, env, φ, S, _, _, L, q, d => by
    cases q with
    | @cons v vs _ _ f1 g1 r1 q1 dj =>
      obtain ⟨S1, φ1, p1, i1, le1⟩ := fz_ok (L.guard (fq := g1) (fun a m => (d a (List.mem_append_right _ m)).2) fun a m => (q1.dom a m).1) r1 fun a m => ⟨fun t => t.elim (d a (List.mem_append_left _ m)).1 (dj a m), (d a (List.mem_append_left _ m)).2⟩
      have q2 : RRs X.K S1 H σ (fz r env).2 vs rs g1 := q1.mono p1.ss (Same.refl H) (fun a m => (p1.ts a (.inr m)).trans (q1.dom a m).2) p1.le
      obtain ⟨S2, φ2, m2, i2⟩ := fzs_ok (p1.hld.weak fun _ t => .inl t) q2 fun a m => ⟨(d a (List.mem_append_right _ m)).1, fun i z => (d a (List.mem_append_right _ m)).2 i (le1 i a z)⟩
      exact ⟨S2, φ2, (p1.mid.weak fun _ t => .inl t).trans m2, .cons (i1.mono m2.ss) i2⟩
theorem tks_ok {H : Hp} {T : Addr → Prop} {σ : St} : ∀ {rs : List R} {env : Env} {φ : Nat → List Addr} {S : Hp} {vs : List V} {fq : List Addr}, Hld X.K S H T σ env φ → RRs X.K S H σ env vs rs fq → (∀ a ∈ fq, ¬ T a ∧ ∀ i, a ∉ φ i) →
    ∃ S' φ', Mid X.K T σ S H env S' H (tks rs env).2 φ' ∧ RepOs X.K S' H vs (tks rs env).1 fq ∧ (∀ i a, a ∈ φ' i → a ∈ φ i)
  | [], env, φ, S, _, _, L, q, _ => by
    cases q
    exact ⟨S, φ, .refl L, .nil, fun _ _ m => m⟩
  | r :: rs, env, φ, S, _, _, L, q, d => by
    cases q with
    | @cons v vs _ _ f1 g1 r1 q1 dj =>
      obtain ⟨S1, φ1, p1, i1, le1⟩ := tk_ok (L.guard (fq := g1) (fun a m => (d a (List.mem_append_right _ m)).2) fun a m => (q1.dom a m).1) r1 fun a m => ⟨fun t => t.elim (d a (List.mem_append_left _ m)).1 (dj a m), (d a (List.mem_append_left _ m)).2⟩
      have q2 : RRs X.K S1 H σ (tk r env).2 vs rs g1 := q1.mono p1.ss (Same.refl H) (fun a m => (p1.ts a (.inr m)).trans (q1.dom a m).2) p1.le
      have L1 : Hld X.K S1 H (fun a => T a ∨ a ∈ f1) σ (tk r env).2 φ1 := (p1.hld.weak fun _ t => .inl t).guard (fun a m i z => (d a (List.mem_append_left _ m)).2 i (le1 i a z)) fun a m => (r1.dom a m).1
      obtain ⟨S2, φ2, m2, i2, le2⟩ := tks_ok L1 q2 fun a m => ⟨fun t => t.elim (d a (List.mem_append_right _ m)).1 fun z => dj a z m, fun i z => (d a (List.mem_append_right _ m)).2 i (le1 i a z)⟩
      refine ⟨S2, φ2, (p1.mid.weak fun _ t => .inl t).trans (m2.weak fun _ t => .inl t), .cons (i1.mono m2.ss _ fun a m => ⟨rfl, (m2.ts a (.inr m)).trans ?_⟩) i2 dj, fun i a m => le1 i a (le2 i a m)⟩
      exact (i1.dom _ a m).2

/-! ### displays -/
theorem se_list {es : List Expr} {fs : List Ev} (hs : SA X es fs) : SE X (.List es pos) (eList fs) := by
  intro T S H σ env φ Q r env' L e k
  unfold eList at e
  obtain ⟨⟨rs, env1⟩, e1, e⟩ := Option.bind_eq_some_iff.mp e
  split at e
  · rename_i hz
    cases e
    refine ⟨_, fun s0 H0 v0 f0 qq => pe_lst (UA.pa s0 H0 v0 f0 qq), hs T S H σ env φ _ rs env1 L e1 fun vs S1 H1 φ1 fq m1 q1 d1 => ⟨by rw [q1.length]; exact hz, fun p hp => ?_⟩⟩
    obtain ⟨S2, φ2, m2, q2, le2⟩ := tks_ok m1.hld q1 d1
    exact k _ _ _ _ _ ((m1.trans m2).new hp q2 fun a m => ⟨(d1 a m).1, fun i z => (d1 a m).2 i (le2 i a z)⟩).1
  · cases e
theorem se_tup {es : List Expr} {fs : List Ev} {x1 : Nat} (hs : SA X es fs) : SE X (.Tuple es x1 pos) (eTup fs) := by
  intro T S H σ env φ Q r env' L e k
  unfold eTup at e
  obtain ⟨⟨rs, env1⟩, e1, e⟩ := Option.bind_eq_some_iff.mp e
  split at e
  · rename_i hz
    cases e
    refine ⟨_, fun s0 H0 v0 f0 qq => pe_tup (UA.pa s0 H0 v0 f0 qq), hs T S H σ env φ _ rs env1 L e1 fun vs S1 H1 φ1 fq m1 q1 d1 => ⟨by rw [q1.length]; exact hz, fun p hp => ?_⟩⟩
    obtain ⟨S2, φ2, m2, q2, le2⟩ := tks_ok m1.hld q1 d1
    exact k _ _ _ _ _ ((m1.trans m2).new hp q2 fun a m => ⟨(d1 a m).1, fun i z => (d1 a m).2 i (le2 i a z)⟩).2
  · cases e

/-! ### calls of the text's own defs -/
/-- a def's promise, by its answer on data -/
def spC (K : PySem.W.Frag) (n : Nat) (call : List D → Option O) : Sp := fun vs H Q _ => vs.length = n ∧ ∃ ds o S, call ds = some o ∧ Same S H ∧ Reps K S vs ds ∧
  ∀ v H' S' fq, Same H H' → Same S' H' → Same S S' → (∀ a, H a ≠ none → S' a = S a) → RepO K S' H' v o fq → (∀ a ∈ fq, H a = none) → Q v H'
theorem ofO_rr {S H : Hp} {σ : St} {env : Env} {v : V} {o : O} {fq : List Addr} (h : RepO X.K S H v o fq) : RR X.K S H σ env v (ofO o) fq := by
  cases o with
  | frz d => cases h with
    | frz r => exact ⟨r, rfl⟩
  | own os => exact h
  | otup os => exact h
theorem back_star {es : List Expr} {env : PySem.Env} : (∀ e ∈ es, noStar e = true) → (backTo pos (starEach es env)).any (·.1) = false := by
  induction es with
  | nil => intro _; rfl
  | cons e es ih =>
    intro h
    rw [star_one (h e List.mem_cons_self)]
    exact ih fun e' m => h e' (List.mem_cons_of_mem _ m)
section
variable {x : Str} {p : Pos} {call : List D → Option O} {k : Nat} {fa : Addr} {fd : FuncData} {ps : List Str}
theorem call_body {es : List Expr} {fs : List Ev} (hs : SA X es fs) (hl : ∀ ds o, call ds = some o → ds.length = ps.length) {T : Addr → Prop} {S H : Hp} {σ : St} {env env' : Env} {φ : Nat → List Addr} {Q : VK} {r : R} (L : Hld X.K S H T σ env φ)
    (e : eCall call fs env = some (r, env')) (kq : ∀ v S' H' φ' fq, EPost X.K T σ S H env S' H' env' φ' v r fq → Q v H') : UA X es σ H fun vs H1 => spC X.K ps.length call (vs ++ []) H1 Q E0 := by
  unfold eCall at e
  obtain ⟨⟨rs, env1⟩, e1, e⟩ := Option.bind_eq_some_iff.mp e
  obtain ⟨o, e2, e⟩ := Option.map_eq_some_iff.mp e
  refine hs T S H σ env φ _ rs env1 L e1 fun vs S1 H1 φ1 fq m1 q1 d1 => ?_
  obtain ⟨S2, φ2, m2, q2⟩ := fzs_ok m1.hld q1 d1
  rw [List.append_nil]
  refine ⟨by rw [q2.length]; exact hl _ _ e2, _, o, S2, e2, m2.hld.same, q2, fun v H' S' fr hh sh ss ts rq fn => ?_⟩
  have tn : ∀ a, T a → H1 a ≠ none := m1.hld.tdom
  by_cases z : o.self = true
  · simp only [z, if_true] at e
    cases e
    have s1 : ∀ a ∈ fr, S1 a = none := fun a m => by
      cases q : S1 a with
      | none => rfl
      | some u => have := m1.hld.same a u q; rw [fn a m] at this; cases this
    have m3 : Mid X.K T σ S H env S1 H' env' φ1 := ⟨m1.hld.grow (Same.refl S1) hh (m1.hld.same.trans hh) fun i a m => (m1.hld.dom m).2, m1.hh.trans hh, m1.ss, m1.ts, m1.le⟩
    exact kq _ _ _ _ _ (m3.fin (ofO_rr (rq.anyS o z s1)) fun a m => ⟨fun t => tn a t (fn a m), fun i y => (m1.hld.dom y).1 (fn a m)⟩)
  · simp only [z] at e
    cases e
    have m3 : Mid X.K T σ S H env S' H' (fzs rs env1).2 φ2 := (m1.trans m2).trans ⟨m2.hld.grow ss hh sh fun i a m => (ts a (m2.hld.dom m).1).trans (m2.hld.dom m).2, hh, ss, fun a t => ts a (tn a t), .refl _⟩
    exact kq _ _ _ _ _ (m3.fin (ofO_rr rq) fun a m => ⟨fun t => tn a t (fn a m), fun i y => (m2.hld.dom y).1 (fn a m)⟩)
theorem se_call {e0 : Expr} {es : List Expr} {fs : List Ev} (F : FnG X.prog X.w X.K X.mg X.base k fa fd ps (spC X.K ps.length call)) (hr : Room k X.A) (hgd : X.A.guards = some []) (hg : Gl X x)
    (hm : X.mg x = some (.ref fa)) (hk : PySem.W.keepIn X.K (.ref fa) = true) (hb : Binds X.K fd ps []) (hdb : (x == ("__debug__" : Str)) = false) (hs : SA X (e0 :: es) fs) (hst : ∀ e ∈ e0 :: es, noStar e = true)
    (hl : ∀ ds o, call ds = some o → ds.length = ps.length) : SE X (.Call (.Name x p) (e0 :: es) [] pos) (eCall call fs) := by
  intro T S H σ env φ Q r env' L e kq
  exact ⟨_, fun s0 H0 v0 f0 qq => pe_callG F hr hgd (gl_alt hg s0 H0 v0 f0 qq) hm hk hb (UA.pa s0 H0 v0 f0 qq) hdb (star_one (hst e0 List.mem_cons_self)) (back_star fun e' m => hst e' (List.mem_cons_of_mem _ m)), call_body hs hl L e kq⟩
theorem se_call0 (F : FnG X.prog X.w X.K X.mg X.base k fa fd ps (spC X.K ps.length call)) (hr : Room k X.A) (hgd : X.A.guards = some []) (hg : Gl X x)
    (hm : X.mg x = some (.ref fa)) (hk : PySem.W.keepIn X.K (.ref fa) = true) (hb : Binds X.K fd ps []) (hdb : (x == ("__debug__" : Str)) = false)
    (hl : ∀ ds o, call ds = some o → ds.length = ps.length) : SE X (.Call (.Name x p) [] [] pos) (eCall call []) := by
  intro T S H σ env φ Q r env' L e kq
  refine ⟨_, fun s0 H0 v0 f0 qq => pe_callG0 F hr hgd (gl_alt hg s0 H0 v0 f0 qq) hm hk hb hdb, ?_⟩
  unfold eCall at e
  obtain ⟨⟨rs, env1⟩, e1, e⟩ := Option.bind_eq_some_iff.mp e
  cases e1
  obtain ⟨o, e2, e⟩ := Option.map_eq_some_iff.mp e
  show spC X.K ps.length call ([] ++ []) H Q E0
  refine ⟨hl _ _ e2, [], o, S, e2, L.same, .nil, fun v H' S' fr hh sh ss ts rq fn => ?_⟩
  have tn : ∀ a, T a → H a ≠ none := L.tdom
  by_cases z : o.self = true
  · simp only [z, if_true] at e
    cases e
    have s1 : ∀ a ∈ fr, S a = none := fun a m => by
      cases q : S a with
      | none => rfl
      | some u => have := L.same a u q; rw [fn a m] at this; cases this
    have m3 : Mid X.K T σ S H env S H' env φ := ⟨L.grow (Same.refl S) hh (L.same.trans hh) fun i a m => (L.dom m).2, hh, Same.refl S, fun _ _ => rfl, .refl _⟩
    exact kq _ _ _ _ _ (m3.fin (ofO_rr (rq.anyS o z s1)) fun a m => ⟨fun t => tn a t (fn a m), fun i y => (L.dom y).1 (fn a m)⟩)
  · simp only [z] at e
    cases e
    have m3 : Mid X.K T σ S H env S' H' env φ := ⟨L.grow ss hh sh fun i a m => (ts a (L.dom m).1).trans (L.dom m).2, hh, ss, fun a t => ts a (tn a t), .refl _⟩
    exact kq _ _ _ _ _ (m3.fin (ofO_rr rq) fun a m => ⟨fun t => tn a t (fn a m), fun i y => (L.dom y).1 (fn a m)⟩)
end

/-! ### built-in functions -/
theorem tyx {H : Hp} {v : V} {d : D} {n : String} (h : Rep X.K H v d) (e : tyName d = some n) : TyX X.K H v (.type n) := by
  cases h with
  | non => cases e; exact .base .non
  | bl => cases e; exact .base (.bl _)
  | int => cases e; exact .base (.int _)
  | str => cases e; exact .base (.str _)
  | lst r q =>
    cases e
    rcases r with (r | ⟨o, r⟩) | ⟨o, its, n, hk, hc, _⟩
    · exact .base (.lst r)
    · exact .base (.frz r)
    · exact .kList hk hc
  | tup r q =>
    cases e
    rcases r with (r | ⟨o, r⟩) | ⟨o, its, n, hk, hc, _⟩
    · exact .base (.tup r)
    · exact .fTuple r
    · exact .kTuple hk hc
theorem se_isi {t : Str} {n : String} {p pt : Pos} (hg : Gl X "isinstance") (hm : X.mg "isinstance" = none) (hgt : Gl X t) (hmt : X.mg t = none) (hv : bootBuiltins t = some (.type n)) (hn1 : t ≠ "__name__") (hd1 : (t == ("__debug__" : Str)) = false) (hn : noStar a = true) (ha : SE X a f) :
    SE X (.Call (.Name "isinstance" p) [a, .Name t pt] [] pos) (eIsi n f) := by
  intro T S H σ env φ Q r env' L e k
  unfold eIsi at e
  obtain ⟨⟨r1, env1⟩, e1, e⟩ := Option.bind_eq_some_iff.mp e
  obtain ⟨c, e2, e⟩ := Option.map_eq_some_iff.mp e
  cases e
  have pa : Al X fun Y => PA Y [a, .Name t pt] (tCons (UE X a) (tCons (tC (.ty n)) tNil)) := fun s0 H0 v0 f0 qq => pa_cons (UE.pe s0 H0 v0 f0 qq) (pa_cons (pe_bltn (v := .ty n) (gl_alt hgt s0 H0 v0 f0 qq) hmt hv rfl hn1 hd1) pa_nil) (star_one hn)
  refine ⟨_, fun s0 H0 v0 f0 qq => pe_callB (al_isi s0 H0 v0 f0 qq) (gl_alt hg s0 H0 v0 f0 qq) hm PyProof.Rows.boot_isinstance (pa s0 H0 v0 f0 qq) (he := star_one hn), ha T S H σ env φ _ r1 env1 L e1 fun v S1 H1 φ1 f1 p => ?_⟩
  unfold isInst at e2
  obtain ⟨m, e3, e4⟩ := Option.bind_eq_some_iff.mp e2
  exact ⟨v, .ty n, _, _, c, rfl, .ty n, tyx p.rep e3, kit_ty e4, k _ _ _ _ _ (p.mid.frz (.bl _))⟩
theorem rep_list {H : Hp} {v : V} {ds : List D} (h : Rep X.K H v (.list ds)) : ∃ a xs, v = .ref a ∧ SqL X.K H a xs ∧ Reps X.K H xs ds := by
  cases h with
  | lst r q => exact ⟨_, _, rfl, r, q⟩
theorem rep_tup {H : Hp} {v : V} {ds : List D} (h : Rep X.K H v (.tuple ds)) : ∃ a xs, v = .ref a ∧ SqT X.K H a xs ∧ Reps X.K H xs ds := by
  cases h with
  | tup r q => exact ⟨_, _, rfl, r, q⟩
theorem ints_rep {H : Hp} : ∀ {ds : List D} {xs : List V} {ns : List Int}, Reps X.K H xs ds → intsOf ds = some ns → xs = ns.map V.int
  | [], _, _, h, e => by cases h; cases e; rfl
  | d :: ds, _, ns, h, e => by
    cases h with
    | cons r q =>
      cases d <;> try (cases e; done)
      rename_i i
      unfold intsOf at e
      obtain ⟨ms, e1, rfl⟩ := Option.map_eq_some_iff.mp e
      rw [rep_int r, ints_rep q e1]
      rfl
/-- a built-in function's answer by the data -/
def BiOk (X : Cx) (f : Value) (ds : List D) (d : D) : Prop := ∃ rr : List V → Hp → VK → Prop, (Al X fun Y => CallR Y f rr) ∧ ∀ vs H (Q : VK), Reps X.K H vs ds → (∀ v, (∀ S, Rep X.K S v d) → Q v H) → rr vs H Q
theorem reps1 {H : Hp} {vs : List V} {d : D} (h : Reps X.K H vs [d]) : ∃ v, vs = [v] ∧ Rep X.K H v d := by
  cases h with
  | cons r q => cases q; exact ⟨_, rfl, r⟩
theorem reps2 {H : Hp} {vs : List V} {d e : D} (h : Reps X.K H vs [d, e]) : ∃ v w, vs = [v, w] ∧ Rep X.K H v d ∧ Rep X.K H w e := by
  cases h with
  | cons r q =>
    obtain ⟨w, rfl, r2⟩ := reps1 q
    exact ⟨_, _, rfl, r, r2⟩
theorem len_ok {ds : List D} {d : D} (h : biV "len" ds = some d) : BiOk X (.builtin "len") ds d := by
  unfold biV at h
  split at h <;> try (first | (cases h; done) | (simp at *; done))
  obtain ⟨n, e1, rfl⟩ := Option.map_eq_some_iff.mp h
  unfold lenV at e1
  split at e1
  · cases e1
    refine ⟨_, al_len, fun vs H Q r q => ?_⟩
    obtain ⟨v, rfl, r1⟩ := reps1 r
    obtain ⟨p, xs, rfl, h1, h2⟩ := rep_list r1
    exact ⟨p, xs, rfl, .inl h1, q _ fun _ => by rw [h2.length]; exact .int _⟩
  · cases e1
    refine ⟨_, al_len, fun vs H Q r q => ?_⟩
    obtain ⟨v, rfl, r1⟩ := reps1 r
    obtain ⟨p, xs, rfl, h1, h2⟩ := rep_tup r1
    exact ⟨p, xs, rfl, .inr h1, q _ fun _ => by rw [h2.length]; exact .int _⟩
  · split at e1
    · cases e1
      rename_i hz
      refine ⟨_, (fun _ _ _ _ _ => call_len_str), fun vs H Q r q => ?_⟩
      obtain ⟨v, rfl, r1⟩ := reps1 r
      exact ⟨_, by rw [rep_str r1], hz, q _ fun _ => .int _⟩
    · cases e1
  · cases e1
theorem abs_ok {ds : List D} {d : D} (h : biV "abs" ds = some d) : BiOk X (.builtin "abs") ds d := by
  unfold biV at h
  split at h <;> try (first | (cases h; done) | (simp at *; done))
  cases h
  refine ⟨_, (fun _ _ _ _ _ => call_abs), fun vs H Q r q => ?_⟩
  obtain ⟨v, rfl, r1⟩ := reps1 r
  exact ⟨_, by rw [rep_int r1], q _ fun _ => .int _⟩
theorem int_ok {ds : List D} {d : D} (h : biV "int" ds = some d) : BiOk X (.type "int") ds d := by
  unfold biV at h
  split at h <;> try (first | (cases h; done) | (simp at *; done))
  · cases h
    refine ⟨_, (fun _ _ _ _ _ => call_int1), fun vs H Q r q => ?_⟩
    obtain ⟨v, rfl, r1⟩ := reps1 r
    exact .inl ⟨_, by rw [rep_int r1], q _ fun _ => .int _⟩
  · cases h
    refine ⟨_, (fun _ _ _ _ _ => call_int1), fun vs H Q r q => ?_⟩
    obtain ⟨v, rfl, r1⟩ := reps1 r
    exact .inr ⟨_, by rw [rep_bool r1], q _ fun _ => .int _⟩
theorem repr_ok (hgd : X.A.guards = some []) (hu : X.A.units + 65 < cLine) {ds : List D} {d : D} (h : biV "repr" ds = some d) : BiOk X (.builtin "repr") ds d := by
  unfold biV at h
  split at h <;> try (first | (cases h; done) | (simp at *; done))
  split at h
  · rename_i hz
    cases h
    refine ⟨rReprD X.K, (fun s0 H0 v0 f0 _ => cr_reprD (X := Alt X s0 H0 v0 f0) hgd hu), fun vs H Q r q => ?_⟩
    obtain ⟨v, rfl, r1⟩ := reps1 r
    exact ⟨_, _, rfl, r1.dp, hz.1, hz.2.1, hz.2.2.1, hz.2.2.2, q _ fun _ => .str _⟩
  · cases h
theorem sum_ok (hc : X.calm = true) {ds : List D} {d : D} (h : biV "sum" ds = some d) : BiOk X (.builtin "sum") ds d := by
  unfold biV at h
  split at h <;> try (first | (cases h; done) | (simp at *; done))
  obtain ⟨n, e1, rfl⟩ := Option.map_eq_some_iff.mp h
  refine ⟨_, al_sum hc, fun vs H Q r q => ?_⟩
  obtain ⟨v, rfl, r1⟩ := reps1 r
  obtain ⟨p, xs, rfl, h1, h2⟩ := rep_list r1
  rw [ints_rep h2 e1] at h1
  exact ⟨p, n, rfl, h1, q _ fun _ => .int _⟩
theorem minL_spec : ∀ (r : List Int) (m : Int), (minL m r = m ∨ minL m r ∈ r) ∧ minL m r ≤ m ∧ ∀ y ∈ r, minL m r ≤ y
  | [], m => ⟨.inl rfl, Int.le_refl _, fun _ h => nomatch h⟩
  | a :: r, m => by
    obtain ⟨h1, h2, h3⟩ := minL_spec r (if a < m then a else m)
    show (minL (if a < m then a else m) r = m ∨ minL (if a < m then a else m) r ∈ a :: r) ∧ minL (if a < m then a else m) r ≤ m ∧ ∀ y ∈ a :: r, minL (if a < m then a else m) r ≤ y
    by_cases q : a < m
    · rw [if_pos q] at *
      refine ⟨.inr ?_, by omega, fun y hy => ?_⟩
      · rcases h1 with h | h
        · rw [h]; exact List.mem_cons_self
        · exact List.mem_cons_of_mem _ h
      · rcases List.mem_cons.mp hy with rfl | hy
        · exact h2
        · exact h3 y hy
    · rw [if_neg q] at *
      refine ⟨?_, h2, fun y hy => ?_⟩
      · rcases h1 with h | h
        · exact .inl h
        · exact .inr (List.mem_cons_of_mem _ h)
      · rcases List.mem_cons.mp hy with rfl | hy
        · omega
        · exact h3 y hy
theorem maxL_spec : ∀ (r : List Int) (m : Int), (maxL m r = m ∨ maxL m r ∈ r) ∧ m ≤ maxL m r ∧ ∀ y ∈ r, y ≤ maxL m r
  | [], m => ⟨.inl rfl, Int.le_refl _, fun _ h => nomatch h⟩
  | a :: r, m => by
    obtain ⟨h1, h2, h3⟩ := maxL_spec r (if m < a then a else m)
    show (maxL (if m < a then a else m) r = m ∨ maxL (if m < a then a else m) r ∈ a :: r) ∧ m ≤ maxL (if m < a then a else m) r ∧ ∀ y ∈ a :: r, y ≤ maxL (if m < a then a else m) r
    by_cases q : m < a
    · rw [if_pos q] at *
      refine ⟨.inr ?_, by omega, fun y hy => ?_⟩
      · rcases h1 with h | h
        · rw [h]; exact List.mem_cons_self
        · exact List.mem_cons_of_mem _ h
      · rcases List.mem_cons.mp hy with rfl | hy
        · exact h2
        · exact h3 y hy
    · rw [if_neg q] at *
      refine ⟨?_, h2, fun y hy => ?_⟩
      · rcases h1 with h | h
        · exact .inl h
        · exact .inr (List.mem_cons_of_mem _ h)
      · rcases List.mem_cons.mp hy with rfl | hy
        · omega
        · exact h3 y hy
theorem minI_spec {ns : List Int} {m : Int} (h : minI ns = some m) : 0 < ns.length ∧ m ∈ ns ∧ ∀ y ∈ ns, m ≤ y := by
  cases ns with
  | nil => cases h
  | cons a r =>
    cases h
    obtain ⟨h1, h2, h3⟩ := minL_spec r a
    refine ⟨by simp, ?_, fun y hy => ?_⟩
    · rcases h1 with h | h
      · rw [h]; exact List.mem_cons_self
      · exact List.mem_cons_of_mem _ h
    · rcases List.mem_cons.mp hy with rfl | hy
      · exact h2
      · exact h3 y hy
theorem maxI_spec {ns : List Int} {m : Int} (h : maxI ns = some m) : 0 < ns.length ∧ m ∈ ns ∧ ∀ y ∈ ns, y ≤ m := by
  cases ns with
  | nil => cases h
  | cons a r =>
    cases h
    obtain ⟨h1, h2, h3⟩ := maxL_spec r a
    refine ⟨by simp, ?_, fun y hy => ?_⟩
    · rcases h1 with h | h
      · rw [h]; exact List.mem_cons_self
      · exact List.mem_cons_of_mem _ h
    · rcases List.mem_cons.mp hy with rfl | hy
      · exact h2
      · exact h3 y hy
theorem max_ok (hc : X.calm = true) {ds : List D} {d : D} (h : biV "max" ds = some d) : BiOk X (.builtin "max") ds d := by
  unfold biV at h
  split at h <;> try (first | (cases h; done) | (simp at *; done))
  · cases h
    refine ⟨_, (fun s H v f _ => call_max2 (X := Alt X s H v f) hc), fun vs H Q r q => ?_⟩
    obtain ⟨v, w, rfl, r1, r2⟩ := reps2 r
    exact ⟨_, _, by rw [rep_int r1, rep_int r2], q _ fun _ => .int _⟩
  · obtain ⟨n, e1, h⟩ := Option.bind_eq_some_iff.mp h
    obtain ⟨m, e2, rfl⟩ := Option.map_eq_some_iff.mp h
    obtain ⟨k1, k2, k3⟩ := maxI_spec e2
    refine ⟨rMax X.K, (fun s H v f _ => cr_max (X := Alt X s H v f) hc), fun vs H Q r q => ?_⟩
    obtain ⟨v, rfl, r1⟩ := reps1 r
    obtain ⟨p, xs, rfl, h1, h2⟩ := rep_list r1
    rw [ints_rep h2 e1] at h1
    refine ⟨p, n, rfl, h1, k1, fun m' i1 i2 => ?_⟩
    have e : m' = m := by
      have a1 := k3 m' i1
      have a2 := i2 m k2
      omega
    rw [e]
    exact q _ fun _ => .int _
theorem min_ok (hc : X.calm = true) {ds : List D} {d : D} (h : biV "min" ds = some d) : BiOk X (.builtin "min") ds d := by
  unfold biV at h
  split at h <;> try (first | (cases h; done) | (simp at *; done))
  · cases h
    refine ⟨_, (fun s H v f _ => call_min2 (X := Alt X s H v f) hc), fun vs H Q r q => ?_⟩
    obtain ⟨v, w, rfl, r1, r2⟩ := reps2 r
    exact ⟨_, _, by rw [rep_int r1, rep_int r2], q _ fun _ => .int _⟩
  · obtain ⟨n, e1, h⟩ := Option.bind_eq_some_iff.mp h
    obtain ⟨m, e2, rfl⟩ := Option.map_eq_some_iff.mp h
    obtain ⟨k1, k2, k3⟩ := minI_spec e2
    refine ⟨rMin X.K, (fun s H v f _ => cr_min (X := Alt X s H v f) hc), fun vs H Q r q => ?_⟩
    obtain ⟨v, rfl, r1⟩ := reps1 r
    obtain ⟨p, xs, rfl, h1, h2⟩ := rep_list r1
    rw [ints_rep h2 e1] at h1
    refine ⟨p, n, rfl, h1, k1, fun m' i1 i2 => ?_⟩
    have e : m' = m := by
      have a1 := k3 m' i1
      have a2 := i2 m k2
      omega
    rw [e]
    exact q _ fun _ => .int _
theorem bi_body {es : List Expr} {fs : List Ev} {n : String} {fv : Value} (hs : SA X es fs) (hb : ∀ ds d, biV n ds = some d → BiOk X fv ds d) {T : Addr → Prop} {S H : Hp} {σ : St} {env env' : Env} {φ : Nat → List Addr} {Q : VK} {r : R} (L : Hld X.K S H T σ env φ)
    (e : eBi n fs env = some (r, env')) (kq : ∀ v S' H' φ' fq, EPost X.K T σ S H env S' H' env' φ' v r fq → Q v H') : ∃ rr : List V → Hp → VK → Prop, (Al X fun Y => CallR Y fv rr) ∧ tCB rr (UA X es) σ H Q := by
  unfold eBi at e
  obtain ⟨⟨rs, env1⟩, e1, e⟩ := Option.bind_eq_some_iff.mp e
  obtain ⟨d, e2, e⟩ := Option.map_eq_some_iff.mp e
  cases e
  obtain ⟨rr, h1, h2⟩ := hb _ _ e2
  refine ⟨rr, h1, hs T S H σ env φ _ rs env1 L e1 fun vs S1 H1 φ1 fq m1 q1 d1 => h2 vs H1 Q (q1.reps m1.hld) fun v hv => kq _ _ _ _ _ (m1.frz (hv _))⟩
theorem se_bi {x : Str} {p : Pos} {e0 : Expr} {es : List Expr} {fs : List Ev} {n id : String} (hg : Gl X x) (hm : X.mg x = none) (hv : bootBuiltins x = some (.builtin id)) (hn1 : x ≠ "__name__") (hd1 : (x == ("__debug__" : Str)) = false) (hst : ∀ e ∈ e0 :: es, noStar e = true)
    (hs : SA X (e0 :: es) fs) (hb : ∀ ds d, biV n ds = some d → BiOk X (.builtin id) ds d) : SE X (.Call (.Name x p) (e0 :: es) [] pos) (eBi n fs) := by
  intro T S H σ env φ Q r env' L e kq
  obtain ⟨rr, h1, h2⟩ := bi_body hs hb L e kq
  exact ⟨_, fun s0 H0 v0 f0 qq => pe_callB (h1 s0 H0 v0 f0 qq) (gl_alt hg s0 H0 v0 f0 qq) hm hv (UA.pa s0 H0 v0 f0 qq) hn1 hd1 (star_one (hst e0 List.mem_cons_self)) (back_star fun e' m => hst e' (List.mem_cons_of_mem _ m)), h2⟩
theorem se_biT {x : Str} {p : Pos} {e0 : Expr} {es : List Expr} {fs : List Ev} {n id : String} (hg : Gl X x) (hm : X.mg x = none) (hv : bootBuiltins x = some (.type id)) (hn1 : x ≠ "__name__") (hd1 : (x == ("__debug__" : Str)) = false) (hst : ∀ e ∈ e0 :: es, noStar e = true)
    (hs : SA X (e0 :: es) fs) (hb : ∀ ds d, biV n ds = some d → BiOk X (.type id) ds d) : SE X (.Call (.Name x p) (e0 :: es) [] pos) (eBi n fs) := by
  intro T S H σ env φ Q r env' L e kq
  obtain ⟨rr, h1, h2⟩ := bi_body hs hb L e kq
  exact ⟨_, fun s0 H0 v0 f0 qq => pe_callTy (h1 s0 H0 v0 f0 qq) (gl_alt hg s0 H0 v0 f0 qq) hm hv (UA.pa s0 H0 v0 f0 qq) hn1 hd1 (star_one (hst e0 List.mem_cons_self)) (back_star fun e' m => hst e' (List.mem_cons_of_mem _ m)), h2⟩
theorem one_arg' (hn : noStar a = true) : Al X fun Y => PA Y [a] (tCons (UE X a) tNil) := fun s0 H0 v0 f0 qq => pa_cons (UE.pe s0 H0 v0 f0 qq) pa_nil (star_one hn)
theorem biM_of {x : String} {r r' : R} (h : biM x r = some r') : (∃ os, r = .own (.own os) ∧ x = "list" ∧ r' = .own (.own os)) ∨ (∃ os, r = .own (.own os) ∧ x = "tuple" ∧ r' = .own (.otup os)) ∨ ∃ os, r = .own (.otup os) ∧ x = "list" ∧ r' = .own (.own os) := by
  unfold biM at h
  split at h
  · cases h; exact .inl ⟨_, rfl, rfl, rfl⟩
  · cases h; exact .inr (.inr ⟨_, rfl, rfl, rfl⟩)
  · cases h; exact .inr (.inl ⟨_, rfl, rfl, rfl⟩)
  · cases h
theorem se_biL {p : Pos} (hg : Gl X "list") (hm : X.mg "list" = none) (hn : noStar a = true) (ha : SE X a f) : SE X (.Call (.Name "list" p) [a] [] pos) (eBiS "list" f) := by
  intro T S H σ env φ Q r env' L e kq
  unfold eBiS at e
  obtain ⟨⟨r1, env1⟩, e1, e⟩ := Option.bind_eq_some_iff.mp e
  refine ⟨_, fun s0 H0 v0 f0 qq => pe_callTy (al_listof s0 H0 v0 f0 qq) (gl_alt hg s0 H0 v0 f0 qq) hm PyProof.Rows.boot_list (one_arg' hn s0 H0 v0 f0 qq) (he := star_one hn), ha T S H σ env φ _ r1 env1 L e1 fun v S1 H1 φ1 f1 p => ?_⟩
  split at e
  · rename_i r' hb
    cases e
    rcases biM_of hb with ⟨os, rfl, hx, rfl⟩ | ⟨os, rfl, hx, rfl⟩ | ⟨os, rfl, hx, rfl⟩
    · have rr : RepO X.K S1 H1 v (.own os) f1 := p.rr
      cases rr with
      | own eo n nn q => exact ⟨_, _, rfl, .inl (.of eo), fun l hl => kq _ _ _ _ _ (p.mid.new hl q fun a m => p.dq a (List.mem_cons_of_mem _ m)).1⟩
    · exact absurd hx (by decide)
    · have rr : RepO X.K S1 H1 v (.otup os) f1 := p.rr
      cases rr with
      | otup eo n nn q => exact ⟨_, _, rfl, .inr (.of eo), fun l hl => kq _ _ _ _ _ (p.mid.new hl q fun a m => p.dq a (List.mem_cons_of_mem _ m)).1⟩
  obtain ⟨r', e2, e⟩ := Option.map_eq_some_iff.mp e
  cases e
  simp only [sh_d] at e2
  obtain ⟨S4, φ4, m4, i4⟩ := p.share
  rw [sh_d] at i4
  generalize r1.d = d at e2 i4
  unfold biS at e2
  split at e2 <;> try (first | (cases e2; done) | (simp at *; done))
  · rename_i he1 he2
    cases e2
    cases he2
    obtain ⟨a', xs, rfl, h1, q1⟩ := it_list i4
    exact ⟨a', xs, rfl, .inl h1, fun l hl => kq _ _ _ _ _ (m4.mkL hl q1)⟩
  · rename_i he1 he2
    cases e2
    cases he2
    obtain ⟨a', xs, rfl, h1, q1⟩ := it_tup i4
    exact ⟨a', xs, rfl, .inr h1, fun l hl => kq _ _ _ _ _ (m4.mkL hl q1)⟩
theorem se_biTu {p : Pos} (hg : Gl X "tuple") (hm : X.mg "tuple" = none) (hn : noStar a = true) (ha : SE X a f) : SE X (.Call (.Name "tuple" p) [a] [] pos) (eBiS "tuple" f) := by
  intro T S H σ env φ Q r env' L e kq
  unfold eBiS at e
  obtain ⟨⟨r1, env1⟩, e1, e⟩ := Option.bind_eq_some_iff.mp e
  refine ⟨_, fun s0 H0 v0 f0 qq => pe_callTy (al_tupleof s0 H0 v0 f0 qq) (gl_alt hg s0 H0 v0 f0 qq) hm PyProof.Rows.boot_tuple (one_arg' hn s0 H0 v0 f0 qq) (he := star_one hn), ha T S H σ env φ _ r1 env1 L e1 fun v S1 H1 φ1 f1 p => ?_⟩
  split at e
  · rename_i r' hb
    cases e
    rcases biM_of hb with ⟨os, rfl, hx, rfl⟩ | ⟨os, rfl, hx, rfl⟩ | ⟨os, rfl, hx, rfl⟩
    · exact absurd hx (by decide)
    · have rr : RepO X.K S1 H1 v (.own os) f1 := p.rr
      cases rr with
      | own eo n nn q => exact ⟨_, _, rfl, .inl ⟨.of eo, fun l hl => kq _ _ _ _ _ (p.mid.new hl q fun a m => p.dq a (List.mem_cons_of_mem _ m)).2⟩⟩
    · exact absurd hx (by decide)
  obtain ⟨r', e2, e⟩ := Option.map_eq_some_iff.mp e
  cases e
  simp only [sh_d] at e2
  obtain ⟨S4, φ4, m4, i4⟩ := p.share
  rw [sh_d] at i4
  generalize r1.d = d at e2 i4
  unfold biS at e2
  split at e2 <;> try (first | (cases e2; done) | (simp at *; done))
  · rename_i he1 he2
    cases e2
    cases he2
    obtain ⟨a', xs, rfl, h1, q1⟩ := it_list i4
    exact ⟨a', xs, rfl, .inl ⟨h1, fun l hl => kq _ _ _ _ _ (m4.mkT hl q1)⟩⟩
end
end PY
set_option maxHeartbeats 1000000
/-! PySd: tests, what is walked, targets, comprehensions. -/
namespace PY
open PySem L2
section
variable {X : Cx} {pos : Pos} {a b c : Expr} {f g h : Ev} {s t : Tst}

/-! ### tests -/
def isPlainT : Expr → Bool
  | .UnaryOp .. => false
  | .BoolOp .. => false
  | .IfExp .. => false
  | .Compare .. => false
  | _ => true
theorem isTrue_of {e : Expr} {env : PySem.Env} (h : isPlainT e = true) : ∀ whole, isTrue e env whole = (do let v ← whole; standAt e.pos; holding [v] (truthy v)) := by
  intro whole
  cases e <;> first | rfl | (cases h)
theorem st_val0 (hp : isPlainT a = true) (ha : SE X a f) : ST X a (tV0 f) := by
  intro T S H σ env φ Q r env' L e k
  unfold tV0 at e
  obtain ⟨⟨r1, env1⟩, e1, e⟩ := Option.bind_eq_some_iff.mp e
  obtain ⟨i, e3, e⟩ := Option.map_eq_some_iff.mp e
  cases e
  refine ⟨_, fun s0 H0 v0 f0 qq => pt_val (UE.pe s0 H0 v0 f0 qq) (isTrue_of hp), ha T S H σ env φ _ r1 env1 L e1 fun v S1 H1 φ1 f1 p => ?_⟩
  have q := p.rep
  rw [asBool_eq e3] at q
  exact ⟨_, rep_bool q, k S1 H1 φ1 p.mid⟩
theorem st_val (hp : isPlainT a = true) (ha : SE X a f) : ST X a (tV f) := st_tmp (st_val0 hp ha)
theorem st_not (ha : ST X a s) : ST X (.UnaryOp .Not a pos) (tNot' s) := by
  intro T S H σ env φ Q r env' L e k
  unfold tNot' at e
  obtain ⟨⟨b1, env1⟩, e1, e⟩ := Option.map_eq_some_iff.mp e
  cases e
  exact ⟨_, fun s0 H0 v0 f0 qq => pt_not (UT.pt s0 H0 v0 f0 qq), ha T S H σ env φ _ b1 env1 L e1 fun S1 H1 φ1 m => k S1 H1 φ1 m⟩
def UW (X : Cx) (e : Expr) : TT := fun σ H Q => ∃ t, (Al X fun Y => PW Y e t) ∧ t σ H Q
theorem UW.pw {e : Expr} : Al X fun Y => PW Y e (UW X e) := fun s0 H0 v0 f0 qq => ⟨fun w pins s σ H Q I h => let ⟨_, p, q⟩ := h; (p s0 H0 v0 f0 qq).run w pins s σ H Q I q⟩
def SW (X : Cx) (e : Expr) (f : Tst) : Prop := ∀ (T : Addr → Prop) (S H : Hp) (σ : St) (env : Env) (φ : Nat → List Addr) (Q : Bool → Hp → Prop) (b : Bool) (env' : Env), Hld X.K S H T σ env φ → f env = some (b, env') →
  (∀ S' H' φ', Mid X.K T σ S H env S' H' env' φ' → Q b H') → UW X e σ H Q
theorem SW.st {e : Expr} {f : Tst} (h : SW X e f) : ST X e f := fun T S H σ env φ Q b env' L e k => by
  obtain ⟨t, p, q⟩ := h T S H σ env φ Q b env' L e k
  exact ⟨t, fun s0 H0 v0 f0 qq => (p s0 H0 v0 f0 qq).pt, q⟩
theorem sw_and1 (ha : ST X a s) : SW X (.BoolOp .And [a] pos) s := fun T S H σ env φ Q b env' L e k => ⟨_, fun s0 H0 v0 f0 qq => pw_and1 (UT.pt s0 H0 v0 f0 qq), ha T S H σ env φ Q b env' L e k⟩
theorem sw_or1 (ha : ST X a s) : SW X (.BoolOp .Or [a] pos) s := fun T S H σ env φ Q b env' L e k => ⟨_, fun s0 H0 v0 f0 qq => pw_or1 (UT.pt s0 H0 v0 f0 qq), ha T S H σ env φ Q b env' L e k⟩
theorem sw_and {rest : List Expr} (ha : ST X a s) (hb : SW X (.BoolOp .And (b :: rest) pos) t) : SW X (.BoolOp .And (a :: b :: rest) pos) (tAnd' s t) := by
  intro T S H σ env φ Q r env' L e k
  unfold tAnd' at e
  obtain ⟨⟨c, env1⟩, e1, e⟩ := Option.bind_eq_some_iff.mp e
  refine ⟨_, fun s0 H0 v0 f0 qq => pw_and (UT.pt s0 H0 v0 f0 qq) (UW.pw s0 H0 v0 f0 qq), ha T S H σ env φ _ c env1 L e1 fun S1 H1 φ1 m => ?_⟩
  cases c with
  | true => exact iteT (hb T S1 H1 σ env1 φ1 Q r env' m.hld e fun S2 H2 φ2 m2 => k S2 H2 φ2 (m.trans m2))
  | false =>
    cases e
    exact iteF (k S1 H1 φ1 m)
theorem sw_or {rest : List Expr} (ha : ST X a s) (hb : SW X (.BoolOp .Or (b :: rest) pos) t) : SW X (.BoolOp .Or (a :: b :: rest) pos) (tOr' s t) := by
  intro T S H σ env φ Q r env' L e k
  unfold tOr' at e
  obtain ⟨⟨c, env1⟩, e1, e⟩ := Option.bind_eq_some_iff.mp e
  refine ⟨_, fun s0 H0 v0 f0 qq => pw_or (UT.pt s0 H0 v0 f0 qq) (UW.pw s0 H0 v0 f0 qq), ha T S H σ env φ _ c env1 L e1 fun S1 H1 φ1 m => ?_⟩
  cases c with
  | false => exact iteF (hb T S1 H1 σ env1 φ1 Q r env' m.hld e fun S2 H2 φ2 m2 => k S2 H2 φ2 (m.trans m2))
  | true =>
    cases e
    exact iteT (k S1 H1 φ1 m)

/-! ### what is walked -/
structure Wk (J : It) (S : Hp) (vs : List V) : Prop where
  go : ∀ i H, Same S H → i < vs.length → J.go i H
  yld : ∀ i H x H', Same S H → i < vs.length → J.yld i H x H' → H' = H ∧ vs[i]? = some x
  stop : ∀ i H, Same S H → vs.length ≤ i → J.stop i H
theorem wk_list {K : PySem.W.Frag} {S : Hp} {l : Addr} {vs : List V} (r : SqL K S l vs) : Wk (Itl K l) S vs :=
  ⟨fun i H s h => ⟨vs, vs[i], (SqL.mono s r), List.getElem?_eq_getElem h⟩, fun i H x H' s h y => ⟨y.1, y.2 vs (SqL.mono s r)⟩, fun i H s h => ⟨vs, (SqL.mono s r), h⟩⟩
theorem wk_tup {K : PySem.W.Frag} {S : Hp} {l : Addr} {vs : List V} (r : SqT K S l vs) : Wk (Itt K l) S vs :=
  ⟨fun i H s h => ⟨vs, vs[i], SqT.mono s r, List.getElem?_eq_getElem h⟩, fun i H x H' s h y => ⟨y.1, y.2 vs (SqT.mono s r)⟩, fun i H s h => ⟨vs, SqT.mono s r, h⟩⟩
theorem rev_at {vs : List V} {i : Nat} (h : i < vs.length) : vs.reverse[i]? = vs[vs.length - 1 - i]? := by
  rw [List.getElem?_reverse h]
theorem wk_rev {K : PySem.W.Frag} {S : Hp} {l : Addr} {vs : List V} (r : SqL K S l vs) : Wk (Itv K l vs.length) S vs.reverse := by
  refine ⟨fun i H s h => ?_, fun i H x H' s h y => ?_, fun i H s h => ?_⟩
  · rw [List.length_reverse] at h
    exact ⟨h, vs, vs[vs.length - 1 - i], (SqL.mono s r), List.getElem?_eq_getElem (by omega)⟩
  · rw [List.length_reverse] at h
    exact ⟨y.1, by rw [rev_at h]; exact y.2 vs (SqL.mono s r)⟩
  · rw [List.length_reverse] at h
    exact h
def rangeV (lo : Int) (n : Nat) : List V := (List.range n).map fun (i : Nat) => V.int (lo + (i : Int))
theorem rangeV_rep {S : Hp} (lo : Int) (n : Nat) : Reps X.K S (rangeV lo n) (rangeD lo n) := by
  unfold rangeV rangeD
  induction List.range n with
  | nil => exact .nil
  | cons i r ih => exact .cons (.int _) ih
theorem wk_range {S : Hp} (lo : Int) (n : Nat) : Wk (Itr lo n) S (rangeV lo n) := by
  have hl : (rangeV lo n).length = n := by unfold rangeV; rw [List.length_map, List.length_range]
  refine ⟨fun i H s h => ?_, fun i H x H' s h y => ?_, fun i H s h => ?_⟩
  · rw [hl] at h; exact h
  · rw [hl] at h
    refine ⟨y.1, ?_⟩
    rw [y.2]
    unfold rangeV
    rw [List.getElem?_map, List.getElem?_range h]
    rfl
  · rw [hl] at h; exact h
def UI (X : Cx) (tg it : Expr) : TI := fun σ H R => ∃ wi, (Al X fun Y => PI Y tg it wi) ∧ wi σ H R
theorem UI.pi {tg it : Expr} : Al X fun Y => PI Y tg it (UI X tg it) := fun s0 H0 v0 f0 qq => ⟨fun pins s σ H R I h => let ⟨_, p, q⟩ := h; (p s0 H0 v0 f0 qq).run pins s σ H R I q⟩
def SI (X : Cx) (it : Expr) (f : Itw) : Prop := ∀ (tg : Expr) (T : Addr → Prop) (S H : Hp) (σ : St) (env : Env) (φ : Nat → List Addr) (R : It → Hp → Prop) (ds : List D) (env' : Env), Hld X.K S H T σ env φ → f env = some (ds, env') →
  (∀ J vs S' H' φ', Mid X.K T σ S H env S' H' env' φ' → Reps X.K S' vs ds → Wk J S' vs → R J H') → UI X tg it σ H R
theorem si_none {e : Expr} : SI X e fun _ => none := fun _ _ _ _ _ _ _ _ _ _ _ h => nomatch h
theorem si_val (ha : SE X a f) : SI X a (iV f) := by
  intro tg T S H σ env φ R ds env' L e k
  unfold iV at e
  obtain ⟨⟨r1, env1⟩, e1, e⟩ := Option.bind_eq_some_iff.mp e
  generalize hd : (fz r1 env1).1 = d at e
  cases d <;> try (simp only [hd] at e; cases e; done)
  · simp only [hd] at e
    cases e
    refine ⟨iList X.K (UE X a), fun s0 H0 v0 f0 qq => pi_list (X := Alt X s0 H0 v0 f0) (UE.pe s0 H0 v0 f0 qq), ha T S H σ env φ _ r1 env1 L e1 fun v S1 H1 φ1 f1 p => ?_⟩
    obtain ⟨S2, φ2, m2, q2⟩ := p.fz
    rw [hd] at q2
    obtain ⟨l, vs, rfl, r, q⟩ := rep_list q2
    exact ⟨l, rfl, ⟨vs, SqL.mono m2.hld.same r⟩, k _ vs S2 H1 φ2 m2 q (wk_list r)⟩
  · simp only [hd] at e
    cases e
    refine ⟨iTup X.K (UE X a), fun s0 H0 v0 f0 qq => pi_tup (X := Alt X s0 H0 v0 f0) (UE.pe s0 H0 v0 f0 qq), ha T S H σ env φ _ r1 env1 L e1 fun v S1 H1 φ1 f1 p => ?_⟩
    obtain ⟨S2, φ2, m2, q2⟩ := p.fz
    rw [hd] at q2
    obtain ⟨l, vs, rfl, r, q⟩ := rep_tup q2
    exact ⟨l, rfl, ⟨vs, SqT.mono m2.hld.same r⟩, k _ vs S2 H1 φ2 m2 q (wk_tup r)⟩
theorem star1 {e : Expr} {env : PySem.Env} (h : noStar e = true) : starEach [e] env = [(false, eval e env)] := star_one h
theorem si_rev {p : Pos} (hg : Gl X "reversed") (hm : X.mg "reversed" = none) (hn : noStar a = true) (ha : SE X a f) : SI X (.Call (.Name "reversed" p) [a] [] pos) (iRv f) := by
  intro tg T S H σ env φ R ds env' L e k
  unfold iRv at e
  obtain ⟨⟨r1, env1⟩, e1, e⟩ := Option.bind_eq_some_iff.mp e
  generalize hd : (fz r1 env1).1 = d at e
  cases d <;> try (simp only [hd] at e; cases e; done)
  simp only [hd] at e
  cases e
  refine ⟨iRev X.K _, fun s0 H0 v0 f0 qq => pi_reversed (X := Alt X s0 H0 v0 f0) (gl_alt hg s0 H0 v0 f0 qq) hm (one_arg' hn s0 H0 v0 f0 qq) (star1 hn), ha T S H σ env φ _ r1 env1 L e1 fun v S1 H1 φ1 f1 p => ?_⟩
  obtain ⟨S2, φ2, m2, q2⟩ := p.fz
  rw [hd] at q2
  obtain ⟨l, vs, rfl, r, q⟩ := rep_list q2
  exact ⟨l, vs, rfl, SqL.mono m2.hld.same r, k _ vs.reverse S2 H1 φ2 m2 q.reverse (wk_rev r)⟩
theorem si_r1 {p : Pos} (hg : Gl X "range") (hm : X.mg "range" = none) (hn : noStar a = true) (ha : SE X a f) : SI X (.Call (.Name "range" p) [a] [] pos) (iR1 f) := by
  intro tg T S H σ env φ R ds env' L e k
  unfold iR1 at e
  obtain ⟨⟨r1, env1⟩, e1, e⟩ := Option.bind_eq_some_iff.mp e
  obtain ⟨j, e2, e⟩ := Option.bind_eq_some_iff.mp e
  split at e
  · rename_i hz
    cases e
    refine ⟨_, fun s0 H0 v0 f0 qq => pi_range1 (gl_alt hg s0 H0 v0 f0 qq) hm (one_arg' hn s0 H0 v0 f0 qq) (star1 hn), ha T S H σ env φ _ r1 env1 L e1 fun v S1 H1 φ1 f1 p => ?_⟩
    have q := p.rep
    rw [asInt_eq e2] at q
    exact ⟨j, by rw [rep_int q], hz.1, hz.2, k _ _ S1 H1 φ1 p.mid (rangeV_rep _ _) (wk_range _ _)⟩
  · cases e
theorem si_r2 {p : Pos} (hg : Gl X "range") (hm : X.mg "range" = none) (hn : noStar a = true) (hn2 : noStar b = true) (ha : SE X a f) (hb : SE X b g) : SI X (.Call (.Name "range" p) [a, b] [] pos) (iR2 f g) := by
  intro tg T S H σ env φ R ds env' L e k
  unfold iR2 at e
  obtain ⟨⟨r1, env1⟩, e1, e⟩ := Option.bind_eq_some_iff.mp e
  obtain ⟨⟨r2, env2⟩, e2, e⟩ := Option.bind_eq_some_iff.mp e
  obtain ⟨i, e3, e⟩ := Option.bind_eq_some_iff.mp e
  obtain ⟨j, e4, e⟩ := Option.bind_eq_some_iff.mp e
  split at e
  · rename_i hz
    cases e
    refine ⟨_, fun s0 H0 v0 f0 qq => pi_range2 (gl_alt hg s0 H0 v0 f0 qq) hm (pa_cons (UE.pe s0 H0 v0 f0 qq) (pa_cons (UE.pe s0 H0 v0 f0 qq) pa_nil (star_one hn2)) (star_one hn)) (by rw [star_one hn, star_one hn2]; rfl) (star1 hn2), two ha hb L e1 e2 fun v w S' H' φ' f1 f2 p => ?_⟩
    have q1 := p.rep1
    rw [asInt_eq e3] at q1
    have q2 := p.rep2
    rw [asInt_eq e4] at q2
    exact ⟨i, j, by rw [rep_int q1, rep_int q2], hz, k _ _ S' H' φ' p.mid (rangeV_rep _ _) (wk_range _ _)⟩
  · cases e

theorem rangeD_len0 (lo : Int) (n : Nat) : (rangeD lo n).length = n := by unfold rangeD; rw [List.length_map, List.length_range]
theorem se_lrg1 {p p2 pos2 : Pos} (hc : X.calm = true) (hgl : Gl X "list") (hml : X.mg "list" = none) (hg : Gl X "range") (hm : X.mg "range" = none) (hn : noStar a = true) (ha : SE X a f) :
    SE X (.Call (.Name "list" p) [.Call (.Name "range" p2) [a] [] pos2] [] pos) (eLRg (iR1 f)) := by
  intro T S H σ env φ Q r env' L e kq
  unfold eLRg iR1 at e
  obtain ⟨⟨ds, env2⟩, e0, e⟩ := Option.bind_eq_some_iff.mp e
  obtain ⟨⟨r1, env1⟩, e1, e0⟩ := Option.bind_eq_some_iff.mp e0
  obtain ⟨j, e2, e0⟩ := Option.bind_eq_some_iff.mp e0
  split at e0
  · rename_i hz
    cases e0
    split at e
    · rename_i hl
      cases e
      refine ⟨_, fun s0 H0 v0 f0 qq => pe_listRg (X := Alt X s0 H0 v0 f0) hc (gl_alt hgl s0 H0 v0 f0 qq) hml (prg_1 (gl_alt hg s0 H0 v0 f0 qq) hm (UE.pe s0 H0 v0 f0 qq) (star1 hn)) (star1 rfl), ha T S H σ env φ _ r1 env1 L e1 fun v S1 H1 φ1 f1 p => ?_⟩
      have q := p.rep
      rw [asInt_eq e2] at q
      have hl : (rangeD 0 j.toNat).length ≤ 10000 := hl
      rw [rangeD_len0] at hl
      refine ⟨j, rep_int q, ⟨by omega, by omega, hz.1, hz.2, by omega⟩, fun l hl' => ?_⟩
      have e3 : rgV 0 j = rangeV 0 j.toNat := by unfold rgV rangeV; rw [Int.sub_zero]
      rw [e3]
      exact kq _ _ _ _ _ (p.mid.mkL hl' (rangeV_rep _ _))
    · cases e
  · cases e0
theorem se_lrg2 {p p2 pos2 : Pos} (hc : X.calm = true) (hgl : Gl X "list") (hml : X.mg "list" = none) (hg : Gl X "range") (hm : X.mg "range" = none) (hn : noStar a = true) (hn2 : noStar b = true) (ha : SE X a f) (hb : SE X b g) :
    SE X (.Call (.Name "list" p) [.Call (.Name "range" p2) [a, b] [] pos2] [] pos) (eLRg (iR2 f g)) := by
  intro T S H σ env φ Q r env' L e kq
  unfold eLRg iR2 at e
  obtain ⟨⟨ds, env3⟩, e0, e⟩ := Option.bind_eq_some_iff.mp e
  obtain ⟨⟨r1, env1⟩, e1, e0⟩ := Option.bind_eq_some_iff.mp e0
  obtain ⟨⟨r2, env2⟩, e2, e0⟩ := Option.bind_eq_some_iff.mp e0
  obtain ⟨i, e3, e0⟩ := Option.bind_eq_some_iff.mp e0
  obtain ⟨j, e4, e0⟩ := Option.bind_eq_some_iff.mp e0
  split at e0
  · rename_i hz
    cases e0
    split at e
    · rename_i hl
      cases e
      refine ⟨_, fun s0 H0 v0 f0 qq => pe_listRg (X := Alt X s0 H0 v0 f0) hc (gl_alt hgl s0 H0 v0 f0 qq) hml (prg_2 (gl_alt hg s0 H0 v0 f0 qq) hm (UE.pe s0 H0 v0 f0 qq) (UE.pe s0 H0 v0 f0 qq) (star_one hn) (star1 hn2) (by rw [star_one hn2]; rfl)) (star1 rfl), two ha hb L e1 e2 fun v w S' H' φ' f1 f2 p => ?_⟩
      have q1 := p.rep1
      rw [asInt_eq e3] at q1
      have q2 := p.rep2
      rw [asInt_eq e4] at q2
      have hl : (rangeD i (j - i).toNat).length ≤ 10000 := hl
      rw [rangeD_len0] at hl
      refine ⟨i, j, rep_int q1, rep_int q2, ⟨hz.1, hz.2.1, hz.2.2.1, hz.2.2.2, by omega⟩, fun l hl' => ?_⟩
      exact kq _ _ _ _ _ (p.mid.mkL hl' (rangeV_rep _ _))
    · cases e
  · cases e0

def downV (lo : Int) (n : Nat) : List V := (List.range n).map fun (i : Nat) => V.int (lo - (i : Int))
theorem downV_rep {S : Hp} (lo : Int) (n : Nat) : Reps X.K S (downV lo n) (downD lo n) := by
  unfold downV downD
  induction List.range n with
  | nil => exact .nil
  | cons i r ih => exact .cons (.int _) ih
theorem wk_down {S : Hp} (lo : Int) (n : Nat) : Wk (Itc lo (-1) n) S (downV lo n) := by
  have hl : (downV lo n).length = n := by unfold downV; rw [List.length_map, List.length_range]
  refine ⟨fun i H s h => ?_, fun i H x H' s h y => ?_, fun i H s h => ?_⟩
  · rw [hl] at h; exact h
  · rw [hl] at h
    refine ⟨y.1, ?_⟩
    rw [y.2]
    unfold downV
    rw [List.getElem?_map, List.getElem?_range h, Option.map_some]
    exact congrArg (fun z => some (V.int z)) (by omega)
  · rw [hl] at h; exact h
theorem si_r3 {p : Pos} {c : Expr} {h : Ev} (hg : Gl X "range") (hm : X.mg "range" = none) (hn : noStar a = true) (hn2 : noStar b = true) (hn3 : noStar c = true) (ha : SE X a f) (hb : SE X b g) (hc : SE X c h) : SI X (.Call (.Name "range" p) [a, b, c] [] pos) (iR3 f g h) := by
  intro tg T S H σ env φ R ds env' L e k
  unfold iR3 at e
  obtain ⟨⟨r1, env1⟩, e1, e⟩ := Option.bind_eq_some_iff.mp e
  obtain ⟨⟨r2, env2⟩, e2, e⟩ := Option.bind_eq_some_iff.mp e
  obtain ⟨⟨r3, env3⟩, e5, e⟩ := Option.bind_eq_some_iff.mp e
  obtain ⟨i, e3, e⟩ := Option.bind_eq_some_iff.mp e
  obtain ⟨j, e4, e⟩ := Option.bind_eq_some_iff.mp e
  obtain ⟨m, e6, e⟩ := Option.bind_eq_some_iff.mp e
  split at e
  · rename_i hz
    obtain ⟨rfl, z1, z2, z3, z4⟩ := hz
    cases e
    refine ⟨_, fun s0 H0 v0 f0 qq => pi_range3 (gl_alt hg s0 H0 v0 f0 qq) hm (pa_cons (UE.pe s0 H0 v0 f0 qq) (pa_cons (UE.pe s0 H0 v0 f0 qq) (pa_cons (UE.pe s0 H0 v0 f0 qq) pa_nil (star_one hn3)) (star_one hn2)) (star_one hn)) (star_one hn) (by rw [star_one hn2, star_one hn3]; rfl), two ha hb L e1 e2 fun v w S' H' φ' f1 f2 p => ?_⟩
    refine hc T S' H' σ env2 φ' _ r3 env3 p.mid.hld e5 fun u S2 H2 φ2 f3 p3 => ?_
    have q1 := p.rep1
    rw [asInt_eq e3] at q1
    have q2 := p.rep2
    rw [asInt_eq e4] at q2
    have q3 := p3.rep
    rw [asInt_eq e6] at q3
    exact ⟨i, j, -1, _, by rw [rep_int q1, rep_int q2, rep_int q3], RgC.neg z1 z2 z3 z4, k _ _ S2 H2 φ2 (p.mid.trans p3.mid) (downV_rep _ _) (wk_down _ _)⟩
  · cases e

/-! ### targets -/
/-- the values go to the slots, one after another -/
def setAll : St → List Nat → List V → St
  | σ, i :: is, v :: vs => setAll (σ.set i (some v)) is vs
  | σ, _, _ => σ
theorem setAll_length : ∀ (σ : St) (is : List Nat) (vs : List V), (setAll σ is vs).length = σ.length
  | σ, i :: is, v :: vs => by unfold setAll; rw [setAll_length, List.length_set]
  | σ, [], _ => by cases ‹List V› <;> rfl
  | σ, _ :: _, [] => rfl
def UG (X : Cx) (tg : Expr) : TG := fun v σ H Q => ∃ g, (Al X fun Y => PG Y tg g) ∧ g v σ H Q
theorem UG.pg {tg : Expr} : Al X fun Y => PG Y tg (UG X tg) := fun s0 H0 v0 f0 qq => ⟨fun pins s σ H v u Q I r h => let ⟨_, p, q⟩ := h; (p s0 H0 v0 f0 qq).run pins s σ H v u Q I r q⟩
/-- a name may be stored -/
def StorOk (X : Cx) (ok : Str → Bool) : Prop := ∀ x, ok x = true → Loc X.env.scope x ∧ (X.fn x = true ∨ X.env.scope.names.lookup x = some .local)
theorem so_alt {ok : Str → Bool} (so : StorOk X ok) : Al X fun Y => StorOk Y ok := fun s0 H0 v0 f0 qq x h => by
  obtain ⟨a, b⟩ := so x h
  refine ⟨?_, ?_⟩
  · show v0.scope.names.lookup x = _ ∨ _
    rw [qq]
    exact a
  · rcases b with b | b
    · exact .inl b
    · refine .inr ?_
      show v0.scope.names.lookup x = _
      rw [qq]
      exact b
theorem ixOf_at {N : List Str} {x : Str} {i : Nat} (h : ixOf N x = some i) : N[i]? = some x := by
  unfold ixOf at h
  obtain ⟨hi, hp, _⟩ := List.findIdx?_eq_some_iff_getElem.mp h
  rw [List.getElem?_eq_getElem hi]
  simpa using hp
def gNames (is : List Nat) : TGs := fun vs σ H Q => vs.length = is.length ∧ Q (setAll σ is vs) H
theorem names_pgs {ok : Str → Bool} (so : StorOk X ok) (nd : X.N.Nodup) : ∀ {es : List Expr} {is : List Nat}, namesIx X.N ok es = some is → PGs X es (gNames is) ∧ (assignEach es X.env).length = is.length ∧ (assignEach es X.env).findIdx? (·.1) = none
  | [], is, h => by
    cases h
    refine ⟨⟨fun pins s σ H vs us Q I r h => pgs_nil.run pins s σ H vs us Q I r ?_⟩, rfl, rfl⟩
    obtain ⟨e, q⟩ := h
    cases vs with
    | nil => exact ⟨rfl, q⟩
    | cons _ _ => cases e
  | e :: es, is, h => by
    cases e <;> try (cases h; done)
    rename_i x p
    unfold namesIx at h
    split at h
    · rename_i hk
      obtain ⟨i, e1, h⟩ := Option.bind_eq_some_iff.mp h
      obtain ⟨is', e2, rfl⟩ := Option.map_eq_some_iff.mp h
      obtain ⟨p1, p2, p3⟩ := names_pgs so nd e2
      have pn : PG X (.Name x p) (gName i) := pg_name nd (ixOf_at e1) (so x hk).1 (so x hk).2
      refine ⟨⟨fun pins s σ H vs us Q I r h => (pgs_cons pn p1 rfl).run pins s σ H vs us Q I r ?_⟩, ?_, ?_⟩
      · obtain ⟨el, q⟩ := h
        cases vs with
        | nil => cases el
        | cons v vs => exact ⟨v, vs, rfl, by simpa using el, q⟩
      · show (assignEach es X.env).length + 1 = _
        rw [p2]
        rfl
      · show (List.findIdx? (·.1) ((false, assign (.Name x p) X.env) :: assignEach es X.env)) = none
        rw [List.findIdx?_cons]
        simp only [Bool.false_eq_true, if_false, p3]
        rfl
    · cases h
/-- fresh and frozen values go to slots -/
theorem put_many {S H : Hp} {T : Addr → Prop} : ∀ {is : List Nat} {os : List O} {vs : List V} {σ : St} {env env' : Env} {φ : Nat → List Addr} {fq : List Addr}, Hld X.K S H T σ env φ → RepOs X.K S H vs os fq → (∀ a ∈ fq, ¬ T a ∧ ∀ i, a ∉ φ i) → putMany is os env = some env' → (∀ i ∈ is, i < env.length) →
    ∃ φ', Hld X.K S H T (setAll σ is vs) env' φ'
  | [], os, vs, σ, env, env', φ, fq, L, q, d, e, _ => by
    cases os with
    | nil =>
      cases e
      cases q
      exact ⟨φ, L⟩
    | cons _ _ => cases e
  | i :: is, os, vs, σ, env, env', φ, fq, L, q, d, e, hi => by
    cases os with
    | nil => cases e
    | cons o os =>
      cases q with
      | @cons v vs _ _ f1 g1 r q1 dj =>
        have e : putMany is os (env.set i (some o)) = some env' := e
        have L1 := L.guard (fq := g1) (fun a m => (d a (List.mem_append_right _ m)).2) fun a m => (q1.dom os a m).1
        have L2 := L1.put (i := i) (v := v) (o := o) (fq := f1) r (fun a m => ⟨fun t => t.elim (d a (List.mem_append_left _ m)).1 (dj a m), fun j _ => (d a (List.mem_append_left _ m)).2 j⟩) (Same.refl S) L.same
          (fun j a _ m => ⟨rfl, (L.dom m).2⟩) L1.tdom (hi i List.mem_cons_self)
        obtain ⟨φ', L3⟩ := put_many (L2.weak fun _ t => .inl t) q1 (fun a m => ⟨(d a (List.mem_append_right _ m)).1, fun j z => L2.fr j a z (.inr m)⟩) e fun j m => by rw [List.length_set]; exact hi j (List.mem_cons_of_mem _ m)
        exact ⟨φ', L3⟩
theorem setMany_put : ∀ (is : List Nat) (ds : List D) (env : Env), setMany is ds env = putMany is (ds.map .frz) env
  | [], [], _ => rfl
  | [], _ :: _, _ => rfl
  | _ :: _, [], _ => rfl
  | i :: is, d :: ds, env => setMany_put is ds (env.set i (some (.frz d)))
theorem putMany_length : ∀ {is : List Nat} {os : List O} {env env' : Env}, putMany is os env = some env' → env'.length = env.length ∧ os.length = is.length
  | [], [], _, _, h => by cases h; exact ⟨rfl, rfl⟩
  | [], _ :: _, _, _, h => by cases h
  | _ :: _, [], _, _, h => by cases h
  | i :: is, o :: os, env, env', h => by
    have := putMany_length (is := is) (os := os) (env := env.set i (some o)) h
    rw [List.length_set] at this
    exact ⟨this.1, by simp [this.2]⟩
theorem putMany_out : ∀ {is : List Nat} {os : List O} {env env' : Env}, putMany is os env = some env' → ∀ i, i ∉ is → env'[i]? = env[i]?
  | [], [], _, _, h, i, _ => by cases h; rfl
  | [], _ :: _, _, _, h, i, _ => by cases h
  | _ :: _, [], _, _, h, i, _ => by cases h
  | j :: is, o :: os, env, env', h, i, n => by
    have := putMany_out (is := is) (os := os) (env := env.set j (some o)) h i fun m => n (List.mem_cons_of_mem _ m)
    rw [this, List.getElem?_set_ne fun z => n (by rw [← z]; exact List.mem_cons_self)]
theorem setAll_out : ∀ (is : List Nat) (vs : List V) (σ : St) (i : Nat), i ∉ is → (setAll σ is vs)[i]? = σ[i]?
  | [], vs, σ, i, _ => by cases vs <;> rfl
  | _ :: _, [], _, _, _ => rfl
  | j :: is, v :: vs, σ, i, n => by
    show (setAll (σ.set j (some v)) is vs)[i]? = _
    rw [setAll_out is vs _ i fun m => n (List.mem_cons_of_mem _ m), List.getElem?_set_ne fun z => n (by rw [← z]; exact List.mem_cons_self)]
/-- a target takes a frozen value -/
def SG (X : Cx) (tg : Expr) (t : Tgt) : Prop := (∀ i ∈ t.slots, i < X.N.length) ∧ ∀ (T : Addr → Prop) (S H : Hp) (σ : St) (env : Env) (φ : Nat → List Addr) (v : V) (d : D) (env' : Env) (Q : St → Hp → Prop), Hld X.K S H T σ env φ → Rep X.K S v d → assignT t d env = some env' → (∀ i ∈ t.slots, i < env.length) →
  (∀ σ' φ', Hld X.K S H T σ' env' φ' → σ'.length = σ.length → (∀ i, i ∉ t.slots → σ'[i]? = σ[i]?) → (∀ i, i ∉ t.slots → env'[i]? = env[i]?) → Q σ' H) → UG X tg v σ H Q
theorem sg_of {ok : Str → Bool} (so : StorOk X ok) (nd : X.N.Nodup) (hc : X.calm = true) {tg : Expr} {t : Tgt} (h : tgtOf X.N ok tg = some t) : SG X tg t := by
  cases tg <;> try (cases h; done)
  · rename_i x p
    have h : (if ok x = true then (ixOf X.N x).map Tgt.one else none) = some t := h
    split at h
    · rename_i hk
      obtain ⟨i, e1, rfl⟩ := Option.map_eq_some_iff.mp h
      have hi : i < X.N.length := (List.getElem?_eq_some_iff.mp (ixOf_at e1)).1
      refine ⟨fun j m => by rw [List.mem_singleton.mp m]; exact hi, fun T S H σ env φ v d env' Q L r e hl k => ?_⟩
      cases e
      refine ⟨_, fun s0 H0 v0 f0 qq => pg_name nd (ixOf_at e1) (so_alt so s0 H0 v0 f0 qq x hk).1 (so_alt so s0 H0 v0 f0 qq x hk).2, ?_⟩
      refine k _ _ (L.put (i := i) (v := v) (o := .frz d) (fq := []) (.frz r) (fun _ m => nomatch m) (Same.refl S) L.same (fun j a _ m => ⟨rfl, (L.dom m).2⟩) L.tdom (hl i (List.mem_singleton_self i))) List.length_set (fun j n => ?_) fun j n => ?_
      · exact List.getElem?_set_ne fun z => n (by rw [← z]; exact List.mem_singleton_self _)
      · exact List.getElem?_set_ne fun z => n (by rw [← z]; exact List.mem_singleton_self _)
    · cases h
  · rename_i es k p
    have h : (namesIx X.N ok es).map Tgt.many = some t := h
    obtain ⟨is, e1, rfl⟩ := Option.map_eq_some_iff.mp h
    have pp : Al X fun Y => PGs Y es (gNames is) ∧ (assignEach es Y.env).length = is.length ∧ (assignEach es Y.env).findIdx? (·.1) = none := fun s0 H0 v0 f0 qq => names_pgs (so_alt so s0 H0 v0 f0 qq) nd e1
    have p1 : Al X fun Y => PGs Y es (gNames is) := fun s0 H0 v0 f0 qq => (pp s0 H0 v0 f0 qq).1
    have p2 : Al X fun Y => (assignEach es Y.env).length = is.length := fun s0 H0 v0 f0 qq => (pp s0 H0 v0 f0 qq).2.1
    have p3 : Al X fun Y => (assignEach es Y.env).findIdx? (·.1) = none := fun s0 H0 v0 f0 qq => (pp s0 H0 v0 f0 qq).2.2
    have hlt : ∀ {es : List Expr} {is : List Nat}, namesIx X.N ok es = some is → ∀ i ∈ is, i < X.N.length := by
      intro es
      induction es with
      | nil => intro is h i m; cases h; cases m
      | cons e es ih =>
        intro is h i m
        cases e <;> try (cases h; done)
        unfold namesIx at h
        split at h
        · obtain ⟨i', e1, h⟩ := Option.bind_eq_some_iff.mp h
          obtain ⟨is', e2, rfl⟩ := Option.map_eq_some_iff.mp h
          rcases List.mem_cons.mp m with rfl | m
          · exact (List.getElem?_eq_some_iff.mp (ixOf_at e1)).1
          · exact ih e2 i m
        · cases h
    refine ⟨hlt e1, fun T S H σ env φ v d env' Q L r e hl kq => ?_⟩
    cases d <;> try (cases e; done)
    · rename_i ds
      obtain ⟨a', vs, rfl, h1, h2⟩ := rep_list r
      have e : setMany is ds env = some env' := e
      rw [setMany_put] at e
      obtain ⟨φ', L'⟩ := put_many L (RepOs.frz h2) (fun _ m => nomatch m) e hl
      refine ⟨gUnl X.K _ _, fun s0 H0 v0 f0 qq => pg_unl (X := Alt X s0 H0 v0 f0) hc (p1 s0 H0 v0 f0 qq) (p2 s0 H0 v0 f0 qq) (p3 s0 H0 v0 f0 qq), a', vs, rfl, SqL.mono L.same h1, ?_, ?_⟩
      · have := (putMany_length e).2
        rw [List.length_map] at this
        rw [h2.length, this]
      · refine ⟨?_, ?_⟩
        · have := (putMany_length e).2
          rw [List.length_map] at this
          rw [h2.length, this]
        · exact kq _ _ L' (setAll_length _ _ _) (fun i n => setAll_out _ _ _ _ n) fun i n => putMany_out e i n
    · rename_i ds
      obtain ⟨a', vs, rfl, h1, h2⟩ := rep_tup r
      have e : setMany is ds env = some env' := e
      rw [setMany_put] at e
      obtain ⟨φ', L'⟩ := put_many L (RepOs.frz h2) (fun _ m => nomatch m) e hl
      refine ⟨gTup X.K _ _, fun s0 H0 v0 f0 qq => pg_tup (X := Alt X s0 H0 v0 f0) hc (p1 s0 H0 v0 f0 qq) (p2 s0 H0 v0 f0 qq) (p3 s0 H0 v0 f0 qq), a', vs, rfl, SqT.mono L.same h1, ?_, ?_⟩
      · have := (putMany_length e).2
        rw [List.length_map] at this
        rw [h2.length, this]
      · refine ⟨?_, ?_⟩
        · have := (putMany_length e).2
          rw [List.length_map] at this
          rw [h2.length, this]
        · exact kq _ _ L' (setAll_length _ _ _) (fun i n => setAll_out _ _ _ _ n) fun i n => putMany_out e i n
end
end PY
set_option maxHeartbeats 1000000
/-! PySe: comprehensions. -/
namespace PY
open PySem L2

theorem wipeE_length (env : Env) : ∀ vs : List Nat, (wipeE env vs).length = env.length
  | [] => rfl
  | v :: vs => by unfold wipeE; rw [List.length_set, wipeE_length env vs]
theorem wipeE_out {env : Env} {i : Nat} : ∀ {vs : List Nat}, i ∉ vs → (wipeE env vs)[i]? = env[i]?
  | [], _ => rfl
  | v :: vs, h => by
    unfold wipeE
    rw [List.getElem?_set_ne fun z => h (by rw [← z]; exact List.mem_cons_self), wipeE_out fun m => h (List.mem_cons_of_mem _ m)]
theorem wipeE_in {env : Env} {i : Nat} : ∀ {vs : List Nat}, i ∈ vs → ∀ o, (wipeE env vs)[i]? ≠ some (some o)
  | v :: vs, h, o => by
    unfold wipeE
    by_cases e : v = i
    · subst e
      by_cases hl : v < (wipeE env vs).length
      · rw [List.getElem?_set_self hl]
        exact fun z => nomatch z
      · rw [List.getElem?_eq_none (by simpa using hl)]
        exact fun z => nomatch z
    · rw [List.getElem?_set_ne e]
      rcases List.mem_cons.mp h with h | h
      · exact absurd h.symm e
      · exact wipeE_in h o
theorem wipe_out' {σ : St} {i : Nat} : ∀ {vs : List Nat}, i ∉ vs → (wipe σ vs)[i]? = σ[i]?
  | [], _ => rfl
  | v :: vs, h => by
    unfold wipe
    rw [List.getElem?_set_ne fun z => h (by rw [← z]; exact List.mem_cons_self), wipe_out' fun m => h (List.mem_cons_of_mem _ m)]
theorem wipe_in' {σ : St} {i : Nat} : ∀ {vs : List Nat}, i ∈ vs → i < σ.length → (wipe σ vs)[i]? = some none
  | v :: vs, h, hl => by
    unfold wipe
    by_cases e : v = i
    · subst e
      rw [List.getElem?_set_self (by rw [wipe_length]; exact hl)]
    · rw [List.getElem?_set_ne e]
      rcases List.mem_cons.mp h with h | h
      · exact absurd h.symm e
      · exact wipe_in' h hl
theorem wipe_eq {σ σ2 : St} {vs : List Nat} (hl : σ2.length = σ.length) (h : ∀ i, i ∉ vs → σ2[i]? = σ[i]?) : wipe σ2 vs = wipe σ vs := by
  apply List.ext_getElem?
  intro i
  by_cases m : i ∈ vs
  · by_cases hi : i < σ.length
    · rw [wipe_in' m hi, wipe_in' m (by omega)]
    · rw [List.getElem?_eq_none (by rw [wipe_length]; omega), List.getElem?_eq_none (by rw [wipe_length]; omega)]
  · rw [wipe_out' m, wipe_out' m, h i m]
theorem wipe_wipe {σ : St} {vs : List Nat} : wipe (wipe σ vs) vs = wipe σ vs := wipe_eq (wipe_length σ vs) fun i m => wipe_out' m
theorem restE_length (env w : Env) : ∀ vs : List Nat, (restE env w vs).length = w.length
  | [] => rfl
  | v :: vs => by unfold restE; rw [List.length_set, restE_length env w vs]
theorem restE_out {env w : Env} {i : Nat} : ∀ {vs : List Nat}, i ∉ vs → (restE env w vs)[i]? = w[i]?
  | [], _ => rfl
  | v :: vs, h => by
    unfold restE
    rw [List.getElem?_set_ne fun z => h (by rw [← z]; exact List.mem_cons_self), restE_out fun m => h (List.mem_cons_of_mem _ m)]
theorem restE_in {env w : Env} {i : Nat} : ∀ {vs : List Nat}, i ∈ vs → i < w.length → (restE env w vs)[i]? = some (env[i]?.getD none)
  | v :: vs, h, hl => by
    unfold restE
    by_cases e : v = i
    · subst e
      rw [List.getElem?_set_self (by rw [restE_length]; exact hl)]
    · rw [List.getElem?_set_ne e]
      rcases List.mem_cons.mp h with h | h
      · exact absurd h.symm e
      · exact restE_in h hl
section
variable {K : PySem.W.Frag} {S H S1 H1 S2 H2 : Hp} {T : Addr → Prop} {σ : St} {env w : Env} {φ φ1 φ2 : Nat → List Addr}
theorem Hld.wipe : ∀ (vs : List Nat), Hld K S H T σ env φ → ∃ φ', Hld K S H T (wipe σ vs) (wipeE env vs) φ' ∧ ∀ i a, a ∈ φ' i → a ∈ φ i
  | [], L => ⟨φ, L, fun _ _ m => m⟩
  | v :: vs, L => by
    obtain ⟨φ', L', k⟩ := Hld.wipe vs L
    refine ⟨_, L'.drop v (x := none), fun i a m => ?_⟩
    split at m
    · cases m
    · exact k i a m
theorem Hld.touch (L : Hld K S H T σ env φ) {p : Addr} {o : HO} (tp : T p) (sp : S p = none) : Hld K S (upd H p o) T σ env φ := by
  have hn : ∀ i a, a ∈ φ i → a ≠ p := fun i a m z => L.fr i a m (z ▸ tp)
  refine ⟨fun b u e => ?_, L.len, fun i u e => ?_, L.nil, L.disj, L.fr, fun a t => ?_⟩
  · rw [upd_ne (fun z => by rw [z, sp] at e; cases e)]
    exact L.same b u e
  · obtain ⟨v, e1, r⟩ := L.slot i u e
    exact ⟨v, e1, r.mono (Same.refl S) u fun a m => ⟨upd_ne (hn i a m), (L.dom m).2⟩⟩
  · by_cases z : a = p
    · rw [z, upd_same]; exact fun q => nomatch q
    · rw [upd_ne z]; exact L.tdom a t
theorem Hld.rest {vs : List Nat} (L : Hld K S1 H1 T σ env φ1) (Lw : Hld K S2 H2 T (L2.wipe σ vs) w φ2) (ss : Same S1 S2) (hl : w.length = env.length) (no : ∀ i ∈ vs, ownAt env i = false) (hw : ∀ i ∈ vs, ∀ o, w[i]? ≠ some (some o)) :
    Hld K S2 H2 T σ (restE env w vs) φ2 := by
  refine ⟨Lw.same, by rw [restE_length, hl]; exact L.len, fun i o e => ?_, fun i n => ?_, Lw.disj, Lw.fr, Lw.tdom⟩
  · by_cases m : i ∈ vs
    · have hi : i < w.length := by
        have := (List.getElem?_eq_some_iff.mp e).1
        rw [restE_length] at this
        exact this
      rw [restE_in m hi] at e
      have e' : env[i]? = some (some o) := by
        cases q : env[i]? with
        | none => rw [q] at e; cases e
        | some u => rw [q] at e; cases e; rfl
      obtain ⟨v, e1, r⟩ := L.slot i o e'
      have z := no i m
      unfold ownAt at z
      rw [e'] at z
      generalize φ1 i = f1 at r
      rw [Lw.nil i (hw i m)]
      cases o with
      | frz d => cases r with
        | frz r => exact ⟨v, e1, .frz (r.mono ss d)⟩
      | own os => cases z
      | otup os => cases z
    · rw [restE_out m] at e
      obtain ⟨v, e1, r⟩ := Lw.slot i o e
      rw [wipe_out' m] at e1
      exact ⟨v, e1, r⟩
  · by_cases m : i ∈ vs
    · exact Lw.nil i (hw i m)
    · exact Lw.nil i fun o e => n o (by rw [restE_out m]; exact e)
end

section
variable {X : Cx}
def UF (X : Cx) (es : List Expr) : TT := fun σ H Q => ∃ t, (Al X fun Y => PTs Y es t) ∧ t σ H Q
theorem UF.pts {es : List Expr} : Al X fun Y => PTs Y es (UF X es) := fun s0 H0 v0 f0 qq => ⟨fun pins s σ H Q I h => let ⟨_, p, q⟩ := h; (p s0 H0 v0 f0 qq).run pins s σ H Q I q⟩
def SF (X : Cx) (es : List Expr) (f : Tst) : Prop := ∀ (T : Addr → Prop) (S H : Hp) (σ : St) (env : Env) (φ : Nat → List Addr) (Q : Bool → Hp → Prop) (b : Bool) (env' : Env), Hld X.K S H T σ env φ → f env = some (b, env') →
  (∀ S' H' φ', Mid X.K T σ S H env S' H' env' φ' → Q b H') → UF X es σ H Q
theorem sf_nil : SF X [] tTrue := by
  intro T S H σ env φ Q b env' L e k
  cases e
  exact ⟨_, fun _ _ _ _ _ => pts_nil, k S H φ (.refl L)⟩
theorem sf_bad {es : List Expr} : SF X es fun _ => none := fun _ _ _ _ _ _ _ _ _ _ h => nomatch h
theorem sf_one {c : Expr} {f : Tst} (h : ST X c f) : SF X [c] f := fun T S H σ env φ Q b env' L e k => ⟨_, fun s0 H0 v0 f0 qq => pts_one (UT.pt s0 H0 v0 f0 qq), h T S H σ env φ Q b env' L e k⟩
/-- a block's context, somewhere -/
abbrev Blk (X : Cx) (scope : Scope) : Cx := X.blk X.s_0 X.H_0 scope (compEnvC scope [] 0 X.env) []
theorem blk_al {scope : Scope} {p : Cx → Prop} (h : Al (Blk X scope) p) : Al X fun Y => ∀ (s : Shared) (H : Hp) (C : Addr) (cl : List (Str × Addr)) (fp : List Addr), p (Y.blk s H scope (compEnvC scope cl C Y.env) fp) := fun s0 H0 v0 f0 qq s H C cl fp =>
  h s H (compEnvC scope cl C v0) fp (by show relS scope v0.scope = relS scope X.env.scope; rw [qq])
def noSet : Expr → Bool
  | .Set .. => false
  | _ => true
theorem fold_of {e : Expr} {env : PySem.Env} (h : noSet e = true) : ∀ x, foldedSetIterable e env x = pure x := by
  intro x
  cases e <;> first | rfl | (cases h)
theorem ELe.out {a b : Env} (h : ELe a b) {env : Env} {vs : List Nat} (k : ∀ i, i ∉ vs → ∀ o : O, env[i]? = some (some o) → ∃ o' : O, a[i]? = some (some o') ∧ o'.d = o.d) :
    ∀ i, i ∉ vs → ∀ o : O, env[i]? = some (some o) → ∃ o' : O, b[i]? = some (some o') ∧ o'.d = o.d := fun i n o e => by
  obtain ⟨o1, e1, d1⟩ := k i n o e
  obtain ⟨o2, e2, d2⟩ := h.2 i o1 e1
  exact ⟨o2, e2, d2.trans d1⟩
theorem lc_read {elt tg iter : Expr} {ifs : List Expr} {scope : Scope} {own : List (Str × Nat)} {t : Tgt} {fi : Itw} {tst : Tst} {fe : Ev} (hi : SI X iter fi)
    (hg : SG (Blk X scope) tg t) (hsub : ∀ i ∈ t.slots, i ∈ own.map (·.2)) (ht : SF (Blk X scope) ifs tst) (he : SE (Blk X scope) elt fe) {T : Addr → Prop} {S H : Hp} {σ : St} {env : Env} {φ : Nat → List Addr} {Q : VK} {r : R} {env' : Env} (L : Hld X.K S H T σ env φ)
    (e : eLC (own.map (·.2)) t fi tst fe env = some (r, env')) (k : ∀ v S' H' φ' fq, EPost X.K T σ S H env S' H' env' φ' v r fq → Q v H') :
    tLc (UI X tg iter) (UG (Blk X scope) tg) (UF (Blk X scope) ifs) (UE (Blk X scope) elt) (own.map (·.2)) σ H Q := by
  generalize hvs : own.map (·.2) = vs at e hsub
  unfold eLC at e
  obtain ⟨⟨ds, env1⟩, e1, e⟩ := Option.bind_eq_some_iff.mp e
  split at e
  · rename_i hno
    obtain ⟨⟨os, wf⟩, e2, e⟩ := Option.map_eq_some_iff.mp e
    cases e
    have hno' : ∀ i ∈ vs, ownAt env1 i = false := fun i m => by
      have := List.all_eq_true.mp hno i m
      simp only [Bool.and_eq_true, Bool.not_eq_true'] at this
      exact this.1
    have hln : ∀ i ∈ vs, i < env1.length := fun i m => by
      have := List.all_eq_true.mp hno i m
      simp only [Bool.and_eq_true, decide_eq_true_eq] at this
      exact this.2

    refine hi tg T S H σ env φ _ ds env1 L e1 fun J vI S1 H1 φ1 m1 q1 wk => ?_
    intro D hD
    have sD : ∀ {S' : Hp}, Same S' H1 → S' D = none := fun {S'} s => by
      cases z : S' D with
      | none => rfl
      | some u => have := s D u z; rw [hD] at this; cases this
    have tD : ¬ T D := fun z => m1.hld.tdom D z hD
    let W : Nat → Nat → Hp → Prop := fun i m Hc => m = vI.length - i ∧ i ≤ vI.length ∧ ∃ (S' : Hp) (w : Env) (φ' : Nat → List Addr) (acc : List O) (accv : List V) (fq : List Addr),
      Hld X.K S' Hc (fun a => T a ∨ a = D ∨ a ∈ fq) (wipe σ vs) w φ' ∧ Hc D = some (.lst accv) ∧ S' D = none ∧ D ∉ fq ∧ RepOs X.K S' Hc accv acc fq ∧ (∀ a ∈ fq, ¬ T a) ∧ lcGo vs t tst fe (ds.drop i) w acc = some (os, wf) ∧
      Same S1 S' ∧ Same H1 Hc ∧ (∀ a, T a → S' a = S1 a) ∧ w.length = env1.length ∧ (∀ i, i ∉ vs → ∀ o : O, env1[i]? = some (some o) → ∃ o' : O, w[i]? = some (some o') ∧ o'.d = o.d) ∧ (∀ i ∈ vs, ∀ o, w[i]? ≠ some (some o))
    refine ⟨W, ⟨vI.length, by omega, Nat.zero_le _, ?_⟩, ?_⟩
    · obtain ⟨φ', L', k'⟩ := m1.hld.wipe vs
      have hh : Same H1 (upd H1 D (.lst [])) := fun b u e => by rw [upd_ne (ne_of_none e hD)]; exact e
      have L2 : Hld X.K S1 (upd H1 D (.lst [])) (fun a => T a ∨ a = D ∨ a ∈ []) (wipe σ vs) (wipeE env1 vs) φ' := by
        have L3 := L'.grow (Same.refl S1) hh (L'.same.trans hh) fun i a m => (L'.dom m).2
        refine ⟨L3.same, L3.len, L3.slot, L3.nil, L3.disj, fun i a m z => ?_, fun a z => ?_⟩
        · rcases z with z | z | z
          · exact L3.fr i a m z
          · exact (L'.dom m).1 (z ▸ hD)
          · cases z
        · rcases z with z | z | z
          · exact L3.tdom a z
          · rw [z, upd_same]; exact fun q => nomatch q
          · cases z
      exact ⟨S1, _, φ', [], [], [], L2, upd_same, sD m1.hld.same, by simp, .nil, (fun _ m => nomatch m), e2, Same.refl S1, hh, fun _ _ => rfl, wipeE_length _ _, fun i n o e => ⟨o, by rw [wipeE_out n]; exact e, rfl⟩, fun i m o => wipeE_in m o⟩
    · rintro i m Hc ⟨hm, hi', S', w, φ', acc, accv, fq, Lc, eD, sD', nD, qa, tq, go, ss, hh, ts, wl, wo, wi⟩
      have L1 := m1.hld
      have sc : Same S1 Hc := L1.same.trans hh
      by_cases hlt : i < vI.length
      · refine .inr ⟨wk.go i Hc sc hlt, W (i + 1) (vI.length - (i + 1)), fun H' z => ⟨vI.length - (i + 1), by omega, z⟩, fun x H' y => ?_⟩
        obtain ⟨rfl, ex⟩ := wk.yld i Hc x H' sc hlt y
        have hid : i < ds.length := by rw [← q1.length]; exact hlt
        obtain ⟨x', ex', rx⟩ := q1.get (List.getElem?_eq_getElem hid)
        rw [ex] at ex'
        cases ex'
        rw [List.drop_eq_getElem_cons hid] at go
        obtain ⟨w1, g1, go⟩ := Option.bind_eq_some_iff.mp go
        obtain ⟨⟨b, w2⟩, g2, go⟩ := Option.bind_eq_some_iff.mp go
        refine hg.2 _ S' H' (wipe σ vs) w φ' x _ w1 _ Lc (rx.mono ss) g1 ?_ fun σ2 φ2 L2 l2 o2 oe2 => ⟨?_, ?_⟩
        · intro j mj
          rw [wl]
          exact hln j (hsub j mj)
        · exact (wipe_eq l2 fun j n => o2 j fun z => n (hsub j z)).trans wipe_wipe
        · have w1o : ∀ j, j ∉ vs → ∀ o : O, env1[j]? = some (some o) → ∃ o' : O, w1[j]? = some (some o') ∧ o'.d = o.d := fun j n o e => by
            rw [oe2 j fun z => n (hsub j z)]
            exact wo j n o e
          have w1l : w1.length = env1.length := by rw [L2.len, l2, ← Lc.len, wl]
          have ws : wipe σ2 vs = wipe σ vs := (wipe_eq l2 fun j n => o2 j fun z => n (hsub j z)).trans wipe_wipe
          refine ht _ S' H' σ2 w1 φ2 _ b w2 L2 g2 fun S3 H3 φ3 m3 => ?_
          cases b with
          | true =>
            obtain ⟨⟨r3, w3⟩, g3, go⟩ := Option.bind_eq_some_iff.mp go
            split at go
            · rename_i hz
              refine iteT (he _ S3 H3 σ2 w2 φ3 _ r3 w3 m3.hld g3 fun y S4 H4 φ4 f4 p4 => ?_)
              obtain ⟨S5, φ5, m5, r5, d5⟩ := p4.tk
              have mm : Mid X.K (fun a => T a ∨ a = D ∨ a ∈ fq) σ2 S' H' w1 S5 H4 (tk r3 w3).2 φ5 := m3.trans m5
              refine ⟨accv, mm.hh D _ eD, by rw [qa.length]; exact hz, rfl, by omega, ?_⟩
              have s5D : S5 D = none := (mm.ts D (.inr (.inl rfl))).trans sD'
              have nD4 : D ∉ f4 := fun z => (d5 D z).1 (.inr (.inl rfl))
              obtain ⟨φ6, L6, k6⟩ := (mm.hld.guard (fq := f4) (fun a z => (d5 a z).2) fun a z => (r5.dom _ a z).1).wipe vs
              have L7 := L6.touch (p := D) (o := .lst (accv ++ [y])) (.inl (.inr (.inl rfl))) s5D
              rw [ws] at L7
              refine ⟨S5, _, φ6, _, accv ++ [y], fq ++ f4, L7.weak (fun a z => ?_), upd_same, s5D, ?_, ?_, ?_, go, ss.trans mm.ss, ?_, ?_, ?_, ?_, fun j m o => wipeE_in m o⟩
              · rcases z with z | z | z
                · exact .inl (.inl z)
                · exact .inl (.inr (.inl z))
                · rcases List.mem_append.mp z with z | z
                  · exact .inl (.inr (.inr z))
                  · exact .inr z
              · intro z
                rcases List.mem_append.mp z with z | z
                · exact nD z
                · exact nD4 z
              · refine RepOs.append (g := f4) (qa.mono mm.ss acc fun a z => ⟨?_, (mm.ts a (.inr (.inr z))).trans (qa.dom acc a z).2⟩) ?_ fun a z q => (d5 a q).1 (.inr (.inr z))
                · rw [upd_ne (fun q : a = D => nD (q ▸ z))]
                  have h1 := (qa.dom acc a z).1
                  cases q : H' a with
                  | none => exact absurd q h1
                  | some u => exact mm.hh a u q
                · have r6 : RepO X.K S5 (upd H4 D (.lst (accv ++ [y]))) y (tk r3 w3).1 f4 := r5.mono (Same.refl S5) _ fun a z => ⟨upd_ne (fun q => nD4 (q ▸ z)), (r5.dom _ a z).2⟩
                  have r7 := RepOs.cons r6 RepOs.nil (fun a _ q => nomatch q)
                  rw [List.append_nil] at r7
                  exact r7
              · intro a z
                rcases List.mem_append.mp z with z | z
                · exact tq a z
                · exact fun q => (d5 a z).1 (.inl q)
              · intro b u e
                rw [upd_ne (ne_of_none e hD)]
                exact mm.hh b u (hh b u e)
              · intro a z
                exact (mm.ts a (.inl z)).trans (ts a z)
              · rw [wipeE_length, mm.le.1]; exact w1l
              · intro j n o e
                obtain ⟨o', e', d'⟩ := mm.le.out w1o j n o e
                exact ⟨o', by rw [wipeE_out n]; exact e', d'⟩
            · cases go
          | false =>
            refine iteF ⟨rfl, by omega, ?_⟩
            obtain ⟨φ6, L6, k6⟩ := m3.hld.wipe vs
            rw [ws] at L6
            refine ⟨S3, _, φ6, acc, accv, fq, L6, m3.hh D _ eD, (m3.ts D (.inr (.inl rfl))).trans sD', nD, qa.mono m3.ss acc fun a z => ⟨?_, (m3.ts a (.inr (.inr z))).trans (qa.dom acc a z).2⟩, tq, go, ss.trans m3.ss, hh.trans m3.hh, fun a z => (m3.ts a (.inl z)).trans (ts a z), by rw [wipeE_length, m3.le.1]; exact w1l, fun j n o e => ?_, fun j m o => wipeE_in m o⟩
            · have h1 := (qa.dom acc a z).1
              cases q : H' a with
              | none => exact absurd q h1
              | some u => exact m3.hh a u q
            · obtain ⟨o', e', d'⟩ := m3.le.out w1o j n o e
              exact ⟨o', by rw [wipeE_out n]; exact e', d'⟩
      · refine .inl ⟨wk.stop i Hc sc (by omega), ?_⟩
        have hid : ds.length ≤ i := by rw [← q1.length]; omega
        rw [List.drop_eq_nil_of_le hid] at go
        cases go
        have LR := Hld.rest L1 (Lc.weak fun a z => .inl z) ss wl hno' wi
        refine k (.ref D) S' Hc φ' (D :: fq) ⟨LR, .own eD sD' nD qa, fun a m => ?_, m1.hh.trans hh, m1.ss.trans ss, fun a z => (ts a z).trans (m1.ts a z), m1.le.trans ?_⟩
        · rcases List.mem_cons.mp m with rfl | m
          · exact ⟨tD, fun j z => Lc.fr j a z (.inr (.inl rfl))⟩
          · exact ⟨tq a m, fun j z => Lc.fr j a z (.inr (.inr m))⟩
        · refine ⟨by rw [restE_length]; exact wl, fun j o e => ?_⟩
          by_cases n : j ∈ vs
          · exact ⟨o, by rw [restE_in n (by rw [wl]; exact (List.getElem?_eq_some_iff.mp e).1), e]; rfl, rfl⟩
          · rw [restE_out n]
            exact wo j n o e
  · cases e
theorem se_lc {pos : Pos} {elt tg iter : Expr} {ifs : List Expr} {scope : Scope} {own : List (Str × Nat)} {t : Tgt} {fi : Itw} {tst : Tst} {fe : Ev} (hc : X.calm = true) (nd : X.N.Nodup) (ok : BlkOk X.N X.env.scope scope own) (hi : SI X iter fi)
    (hg : SG (Blk X scope) tg t) (hsub : ∀ i ∈ t.slots, i ∈ own.map (·.2)) (ht : SF (Blk X scope) ifs tst) (he : SE (Blk X scope) elt fe) (hs : noSet iter = true) :
    SE X (.ListComp elt [⟨tg, iter, ifs, 0⟩] scope pos) (eLC (own.map (·.2)) t fi tst fe) := by
  intro T S H σ env φ Q r env' L e k
  refine ⟨_, fun s0 H0 v0 f0 qq => pe_lc (X := Alt X s0 H0 v0 f0) hc nd (UI.pi s0 H0 v0 f0 qq) (own := own) (by
      show BlkOk X.N v0.scope scope own
      rw [qq]
      exact ok) (blk_al UG.pg s0 H0 v0 f0 qq) (blk_al UF.pts s0 H0 v0 f0 qq) (blk_al UE.pe s0 H0 v0 f0 qq) (fold_of hs), ?_⟩
  exact lc_read hi hg hsub ht he L e k
end
end PY
set_option maxHeartbeats 2000000
/-! PySe2: comprehensions of two loops. -/
namespace PY
open PySem L2
section
variable {X : Cx}
/-- what stands between the turns of a comprehension -/
structure LW (K : PySem.W.Frag) (T : Addr → Prop) (σw : St) (S1 H1 : Hp) (D : Addr) (vs : List Nat) (env1 : Env) (S' Hc : Hp) (w : Env) (φ' : Nat → List Addr) (acc : List O) (accv : List V) (fq : List Addr) : Prop where
  hld : Hld K S' Hc (fun a => T a ∨ a = D ∨ a ∈ fq) σw w φ'
  at_ : Hc D = some (.lst accv)
  sD : S' D = none
  nD : D ∉ fq
  reps : RepOs K S' Hc accv acc fq
  tq : ∀ a ∈ fq, ¬ T a
  ss : Same S1 S'
  hh : Same H1 Hc
  ts : ∀ a, T a → S' a = S1 a
  wl : w.length = env1.length
  wo : ∀ i, i ∉ vs → ∀ o : O, env1[i]? = some (some o) → ∃ o' : O, w[i]? = some (some o') ∧ o'.d = o.d
/-- a step that only freezes, in a state between the turns -/
theorem LW.mid {T : Addr → Prop} {σw : St} {S1 H1 : Hp} {D : Addr} {vs : List Nat} {env1 : Env} {S' Hc S3 H3 : Hp} {w w3 : Env} {φ' φ3 : Nat → List Addr} {acc : List O} {accv : List V} {fq : List Addr} {K : PySem.W.Frag}
    (L : LW K T σw S1 H1 D vs env1 S' Hc w φ' acc accv fq) (m : Mid K (fun a => T a ∨ a = D ∨ a ∈ fq) σw S' Hc w S3 H3 w3 φ3) : LW K T σw S1 H1 D vs env1 S3 H3 w3 φ3 acc accv fq := by
  refine ⟨m.hld, m.hh D _ L.at_, (m.ts D (.inr (.inl rfl))).trans L.sD, L.nD, L.reps.mono m.ss acc fun a z => ⟨?_, (m.ts a (.inr (.inr z))).trans (L.reps.dom acc a z).2⟩, L.tq, L.ss.trans m.ss, L.hh.trans m.hh, fun a z => (m.ts a (.inl z)).trans (L.ts a z), m.le.1.trans L.wl, m.le.out L.wo⟩
  have h1 := (L.reps.dom acc a z).1
  cases q : Hc a with
  | none => exact absurd q h1
  | some u => exact m.hh a u q
/-- slots are wiped -/
theorem LW.wipe {T : Addr → Prop} {σw : St} {S1 H1 : Hp} {D : Addr} {vs vs1 : List Nat} {env1 : Env} {S' Hc : Hp} {w : Env} {φ' : Nat → List Addr} {acc : List O} {accv : List V} {fq : List Addr} {K : PySem.W.Frag}
    (L : LW K T σw S1 H1 D vs env1 S' Hc w φ' acc accv fq) (hs : ∀ i ∈ vs1, i ∈ vs) : ∃ φ3, LW K T (L2.wipe σw vs1) S1 H1 D vs env1 S' Hc (wipeE w vs1) φ3 acc accv fq := by
  obtain ⟨φ6, L6, k6⟩ := L.hld.wipe vs1
  refine ⟨φ6, L6, L.at_, L.sD, L.nD, L.reps, L.tq, L.ss, L.hh, L.ts, (wipeE_length _ _).trans L.wl, fun i n o e => ?_⟩
  obtain ⟨o', e', d'⟩ := L.wo i n o e
  exact ⟨o', by rw [wipeE_out fun z => n (hs i z)]; exact e', d'⟩
/-- a target is assigned -/
theorem LW.asg {T : Addr → Prop} {σw σ2 : St} {S1 H1 : Hp} {D : Addr} {vs sl : List Nat} {env1 : Env} {S' Hc : Hp} {w w1 : Env} {φ' φ2 : Nat → List Addr} {acc : List O} {accv : List V} {fq : List Addr} {K : PySem.W.Frag}
    (L : LW K T σw S1 H1 D vs env1 S' Hc w φ' acc accv fq) (hs : ∀ i ∈ sl, i ∈ vs) (L2' : Hld K S' Hc (fun a => T a ∨ a = D ∨ a ∈ fq) σ2 w1 φ2) (l2 : σ2.length = σw.length) (oe2 : ∀ i, i ∉ sl → w1[i]? = w[i]?) : LW K T σ2 S1 H1 D vs env1 S' Hc w1 φ2 acc accv fq :=
  ⟨L2', L.at_, L.sD, L.nD, L.reps, L.tq, L.ss, L.hh, L.ts, by rw [L2'.len, l2, ← L.hld.len, L.wl], fun j n o e => by
    rw [oe2 j fun z => n (hs j z)]
    exact L.wo j n o e⟩
/-- an item is put behind -/
theorem LW.app {T : Addr → Prop} {σ2 : St} {S1 H1 : Hp} {D : Addr} {vs vs1 : List Nat} {env1 : Env} {S3 H3 S4 H4 : Hp} {w2 w3 : Env} {φ3 φ4 : Nat → List Addr} {acc : List O} {accv : List V} {fq f4 : List Addr} {y : V} {r3 : R}
    (L : LW X.K T σ2 S1 H1 D vs env1 S3 H3 w2 φ3 acc accv fq) (p4 : EPost X.K (fun a => T a ∨ a = D ∨ a ∈ fq) σ2 S3 H3 w2 S4 H4 w3 φ4 y r3 f4) (hs : ∀ i ∈ vs1, i ∈ vs) (hD : H1 D = none) :
    H4 D = some (.lst accv) ∧ accv.length = acc.length ∧ ∃ S' φ', Same S3 S' ∧ LW X.K T (L2.wipe σ2 vs1) S1 H1 D vs env1 S' (upd H4 D (.lst (accv ++ [y]))) (wipeE (tk r3 w3).2 vs1) φ' (acc ++ [(tk r3 w3).1]) (accv ++ [y]) (fq ++ f4) := by
  obtain ⟨S5, φ5, mm, r5, d5⟩ := p4.tk
  have L5 := L.mid mm
  refine ⟨L5.at_, L.reps.length, ?_⟩
  have s5D := L5.sD
  have nD4 : D ∉ f4 := fun z => (d5 D z).1 (.inr (.inl rfl))
  obtain ⟨φ6, L6, k6⟩ := (mm.hld.guard (fq := f4) (fun a z => (d5 a z).2) fun a z => (r5.dom _ a z).1).wipe vs1
  have L7 := L6.touch (p := D) (o := .lst (accv ++ [y])) (.inl (.inr (.inl rfl))) s5D
  refine ⟨S5, φ6, mm.ss, L7.weak (fun a z => ?_), upd_same, s5D, ?_, ?_, ?_, L5.ss, ?_, L5.ts, (wipeE_length _ _).trans L5.wl, ?_⟩
  · rcases z with z | z | z
    · exact .inl (.inl z)
    · exact .inl (.inr (.inl z))
    · rcases List.mem_append.mp z with z | z
      · exact .inl (.inr (.inr z))
      · exact .inr z
  · intro z
    rcases List.mem_append.mp z with z | z
    · exact L.nD z
    · exact nD4 z
  · refine RepOs.append (g := f4) (L5.reps.mono (Same.refl S5) acc fun a z => ⟨upd_ne (fun q : a = D => L.nD (q ▸ z)), (L5.reps.dom acc a z).2⟩) ?_ fun a z q => (d5 a q).1 (.inr (.inr z))
    have r6 : RepO X.K S5 (upd H4 D (.lst (accv ++ [y]))) y (tk r3 w3).1 f4 := r5.mono (Same.refl S5) _ fun a z => ⟨upd_ne (fun q => nD4 (q ▸ z)), (r5.dom _ a z).2⟩
    have r7 := RepOs.cons r6 RepOs.nil (fun a _ q => nomatch q)
    rw [List.append_nil] at r7
    exact r7
  · intro a z
    rcases List.mem_append.mp z with z | z
    · exact L.tq a z
    · exact fun q => (d5 a z).1 (.inl q)
  · intro b u e
    rw [upd_ne (ne_of_none e hD)]
    exact L5.hh b u e
  · intro i n o e
    obtain ⟨o', e', d'⟩ := L5.wo i n o e
    exact ⟨o', by rw [wipeE_out fun z => n (hs i z)]; exact e', d'⟩
theorem lc2_read {elt tg iter tg1 iter1 : Expr} {ifs ifs1 : List Expr} {scope : Scope} {own : List (Str × Nat)} {vs1 : List Nat} {t t1 : Tgt} {fi fi1 : Itw} {tst tst1 : Tst} {fe : Ev} (hi : SI X iter fi)
    (hg : SG (Blk X scope) tg t) (hsub : ∀ i ∈ t.slots, i ∈ own.map (·.2)) (ht : SF (Blk X scope) ifs tst) (hi1 : SI (Blk X scope) iter1 fi1) (hg1 : SG (Blk X scope) tg1 t1) (hsub1 : ∀ i ∈ t1.slots, i ∈ vs1) (hv : ∀ i ∈ vs1, i ∈ own.map (·.2))
    (ht1 : SF (Blk X scope) ifs1 tst1) (he : SE (Blk X scope) elt fe) {T : Addr → Prop} {S H : Hp} {σ : St} {env : Env} {φ : Nat → List Addr} {Q : VK} {r : R} {env' : Env} (L : Hld X.K S H T σ env φ)
    (e : eLC2 (own.map (·.2)) t fi tst fi1 vs1 t1 tst1 fe env = some (r, env')) (k : ∀ v S' H' φ' fq, EPost X.K T σ S H env S' H' env' φ' v r fq → Q v H') :
    tLc2 (UI X tg iter) (UG (Blk X scope) tg) (UF (Blk X scope) ifs) (UI (Blk X scope) tg1 iter1) (UG (Blk X scope) tg1) (UF (Blk X scope) ifs1) (UE (Blk X scope) elt) (own.map (·.2)) vs1 σ H Q := by
  generalize hvs : own.map (·.2) = vs at e hsub hv
  unfold eLC2 at e
  obtain ⟨⟨ds, env1⟩, e1, e⟩ := Option.bind_eq_some_iff.mp e
  split at e
  · rename_i hno
    obtain ⟨⟨os, wf⟩, e2, e⟩ := Option.map_eq_some_iff.mp e
    cases e
    have hno' : ∀ i ∈ vs, ownAt env1 i = false := fun i m => by
      have := List.all_eq_true.mp hno i m
      simp only [Bool.and_eq_true, Bool.not_eq_true'] at this
      exact this.1
    have hln : ∀ i ∈ vs, i < env1.length := fun i m => by
      have := List.all_eq_true.mp hno i m
      simp only [Bool.and_eq_true, decide_eq_true_eq] at this
      exact this.2
    refine hi tg T S H σ env φ _ ds env1 L e1 fun J vI S1 H1 φ1 m1 q1 wk => ?_
    intro D hD
    have sD : ∀ {S' : Hp}, Same S' H1 → S' D = none := fun {S'} s => by
      cases z : S' D with
      | none => rfl
      | some u => have := s D u z; rw [hD] at this; cases this
    have tD : ¬ T D := fun z => m1.hld.tdom D z hD
    let W : Nat → Nat → Hp → Prop := fun i m Hc => m = vI.length - i ∧ i ≤ vI.length ∧ ∃ (S' : Hp) (w : Env) (φ' : Nat → List Addr) (acc : List O) (accv : List V) (fq : List Addr),
      LW X.K T (wipe σ vs) S1 H1 D vs env1 S' Hc w φ' acc accv fq ∧ lc2Go vs t tst fi1 vs1 t1 tst1 fe (ds.drop i) w acc = some (os, wf) ∧ (∀ i ∈ vs, ∀ o, w[i]? ≠ some (some o))
    refine ⟨W, ⟨vI.length, by omega, Nat.zero_le _, ?_⟩, ?_⟩
    · obtain ⟨φ', L', k'⟩ := m1.hld.wipe vs
      have hh : Same H1 (upd H1 D (.lst [])) := fun b u e => by rw [upd_ne (ne_of_none e hD)]; exact e
      have L2 : Hld X.K S1 (upd H1 D (.lst [])) (fun a => T a ∨ a = D ∨ a ∈ []) (wipe σ vs) (wipeE env1 vs) φ' := by
        have L3 := L'.grow (Same.refl S1) hh (L'.same.trans hh) fun i a m => (L'.dom m).2
        refine ⟨L3.same, L3.len, L3.slot, L3.nil, L3.disj, fun i a m z => ?_, fun a z => ?_⟩
        · rcases z with z | z | z
          · exact L3.fr i a m z
          · exact (L'.dom m).1 (z ▸ hD)
          · cases z
        · rcases z with z | z | z
          · exact L3.tdom a z
          · rw [z, upd_same]; exact fun q => nomatch q
          · cases z
      exact ⟨S1, _, φ', [], [], [], ⟨L2, upd_same, sD m1.hld.same, by simp, .nil, (fun _ m => nomatch m), Same.refl S1, hh, fun _ _ => rfl, wipeE_length _ _, fun i n o e => ⟨o, by rw [wipeE_out n]; exact e, rfl⟩⟩, e2, fun i m o => wipeE_in m o⟩
    · rintro i m Hc ⟨hm, hi', S', w, φ', acc, accv, fq, LS, go, wi⟩
      have L1 := m1.hld
      have sc : Same S1 Hc := L1.same.trans LS.hh
      by_cases hlt : i < vI.length
      · refine .inr ⟨wk.go i Hc sc hlt, W (i + 1) (vI.length - (i + 1)), fun H' z => ⟨vI.length - (i + 1), by omega, z⟩, fun x H' y => ?_⟩
        obtain ⟨rfl, ex⟩ := wk.yld i Hc x H' sc hlt y
        have hid : i < ds.length := by rw [← q1.length]; exact hlt
        obtain ⟨x', ex', rx⟩ := q1.get (List.getElem?_eq_getElem hid)
        rw [ex] at ex'
        cases ex'
        rw [List.drop_eq_getElem_cons hid] at go
        obtain ⟨w1, g1, go⟩ := Option.bind_eq_some_iff.mp go
        obtain ⟨⟨b, w2⟩, g2, go⟩ := Option.bind_eq_some_iff.mp go
        refine hg.2 _ S' H' (wipe σ vs) w φ' x _ w1 _ LS.hld (rx.mono LS.ss) g1 ?_ fun σ2 φ2 L2 l2 o2 oe2 => ⟨?_, ?_⟩
        · intro j mj
          rw [LS.wl]
          exact hln j (hsub j mj)
        · exact (wipe_eq l2 fun j n => o2 j fun z => n (hsub j z)).trans wipe_wipe
        · have ws : wipe σ2 vs = wipe σ vs := (wipe_eq l2 fun j n => o2 j fun z => n (hsub j z)).trans wipe_wipe
          have LA := LS.asg hsub L2 l2 oe2
          refine ht _ S' H' σ2 w1 φ2 _ b w2 L2 g2 fun S3 H3 φ3 m3 => ?_
          have LB := LA.mid m3
          cases b with
          | true =>
            obtain ⟨⟨ds1, w3⟩, g3, go⟩ := Option.bind_eq_some_iff.mp go
            refine iteT (hi1 tg1 _ S3 H3 σ2 w2 φ3 _ ds1 w3 LB.hld g3 fun J1 vI1 S4 H4 φ4 m4 q4 wk1 => ?_)
            have LC := LB.mid m4
            obtain ⟨⟨accO, wO⟩, g4, go⟩ := Option.bind_eq_some_iff.mp go
            let W1 : Nat → Nat → Hp → Prop := fun j k Hc => k = vI1.length - j ∧ j ≤ vI1.length ∧ ∃ (S' : Hp) (w : Env) (φ' : Nat → List Addr) (acc : List O) (accv : List V) (fq : List Addr),
              LW X.K T (wipe σ2 vs1) S1 H1 D vs env1 S' Hc w φ' acc accv fq ∧ Same S4 S' ∧ Same S4 Hc ∧ lcGo vs1 t1 tst1 fe (ds1.drop j) w acc = some (accO, wO)
            refine ⟨W1, ⟨vI1.length, by omega, Nat.zero_le _, ?_⟩, ?_⟩
            · obtain ⟨φ5, LD⟩ := LC.wipe (vs1 := vs1) hv
              exact ⟨S4, _, φ5, acc, accv, fq, LD, Same.refl S4, LD.hld.same, g4⟩
            · rintro j kk Hd ⟨hk, hj', Sd, wd, φd, accd, accvd, fqd, LE, sSd, sSh, god⟩
              by_cases hlt1 : j < vI1.length
              · refine .inr ⟨wk1.go j Hd sSh hlt1, W1 (j + 1) (vI1.length - (j + 1)), fun H' z => ⟨vI1.length - (j + 1), by omega, z⟩, fun x1 H'' y1 => ?_⟩
                obtain ⟨rfl, ex1⟩ := wk1.yld j Hd x1 H'' sSh hlt1 y1
                have hid1 : j < ds1.length := by rw [← q4.length]; exact hlt1
                obtain ⟨x1', ex1', rx1⟩ := q4.get (List.getElem?_eq_getElem hid1)
                rw [ex1] at ex1'
                cases ex1'
                rw [List.drop_eq_getElem_cons hid1] at god
                obtain ⟨w5, g5, god⟩ := Option.bind_eq_some_iff.mp god
                obtain ⟨⟨b1, w6⟩, g6, god⟩ := Option.bind_eq_some_iff.mp god
                refine hg1.2 _ Sd H'' (wipe σ2 vs1) wd φd x1 _ w5 _ LE.hld (rx1.mono sSd) g5 ?_ fun σ3 φ5 L5 l5 o5 oe5 => ⟨?_, ?_⟩
                · intro jj mj
                  rw [LE.wl]
                  exact hln jj (hv jj (hsub1 jj mj))
                · exact (wipe_eq l5 fun jj n => o5 jj fun z => n (hsub1 jj z)).trans wipe_wipe
                · have ws1 : wipe σ3 vs1 = wipe σ2 vs1 := (wipe_eq l5 fun jj n => o5 jj fun z => n (hsub1 jj z)).trans wipe_wipe
                  have LF := LE.asg (fun i z => hv i (hsub1 i z)) L5 l5 oe5
                  refine ht1 _ Sd H'' σ3 w5 φ5 _ b1 w6 L5 g6 fun S7 H7 φ7 m7 => ?_
                  have LG := LF.mid m7
                  cases b1 with
                  | true =>
                    obtain ⟨⟨r8, w8⟩, g8, god⟩ := Option.bind_eq_some_iff.mp god
                    split at god
                    · rename_i hz
                      refine iteT (he _ S7 H7 σ3 w6 φ7 _ r8 w8 LG.hld g8 fun yv S8 H8 φ8 f8 p8 => ?_)
                      obtain ⟨a1, a2, S9, φ9, s79, LH⟩ := LG.app p8 hv hD
                      rw [ws1] at LH
                      have s49 : Same S4 S9 := (sSd.trans m7.ss).trans s79
                      refine ⟨_, a1, by rw [a2]; exact hz, rfl, by omega, S9, _, φ9, _, _, _, LH, s49, s49.trans LH.hld.same, god⟩
                    · cases god
                  | false =>
                    refine iteF ⟨rfl, by omega, ?_⟩
                    obtain ⟨φ9, LH⟩ := LG.wipe (vs1 := vs1) hv
                    rw [ws1] at LH
                    exact ⟨S7, _, φ9, _, _, _, LH, sSd.trans m7.ss, (sSd.trans m7.ss).trans LH.hld.same, god⟩
              · refine .inl ⟨wk1.stop j Hd sSh (by omega), rfl, by omega, ?_⟩
                have hid1 : ds1.length ≤ j := by rw [← q4.length]; omega
                rw [List.drop_eq_nil_of_le hid1] at god
                cases god
                obtain ⟨φ9, LH⟩ := LE.wipe (vs1 := vs) fun _ m => m
                have ws3 : wipe (wipe σ2 vs1) vs = wipe σ vs := by
                  rw [← ws]
                  exact wipe_eq (wipe_length _ _) fun jj n => wipe_out' fun z => n (hv jj z)
                rw [ws3] at LH
                exact ⟨Sd, _, φ9, _, _, _, LH, go, fun i m o => wipeE_in m o⟩
          | false =>
            refine iteF ⟨rfl, by omega, ?_⟩
            obtain ⟨φ6, LH⟩ := LB.wipe (vs1 := vs) fun _ m => m
            rw [ws] at LH
            exact ⟨S3, _, φ6, acc, accv, fq, LH, go, fun i m o => wipeE_in m o⟩
      · refine .inl ⟨wk.stop i Hc sc (by omega), ?_⟩
        have hid : ds.length ≤ i := by rw [← q1.length]; omega
        rw [List.drop_eq_nil_of_le hid] at go
        cases go
        have LR := Hld.rest L1 (LS.hld.weak fun a z => .inl z) LS.ss LS.wl hno' wi
        refine k (.ref D) S' Hc φ' (D :: fq) ⟨LR, .own LS.at_ LS.sD LS.nD LS.reps, fun a m => ?_, m1.hh.trans LS.hh, m1.ss.trans LS.ss, fun a z => (LS.ts a z).trans (m1.ts a z), m1.le.trans ?_⟩
        · rcases List.mem_cons.mp m with rfl | m
          · exact ⟨tD, fun j z => LS.hld.fr j a z (.inr (.inl rfl))⟩
          · exact ⟨LS.tq a m, fun j z => LS.hld.fr j a z (.inr (.inr m))⟩
        · refine ⟨by rw [restE_length]; exact LS.wl, fun j o e => ?_⟩
          by_cases n : j ∈ vs
          · exact ⟨o, by rw [restE_in n (by rw [LS.wl]; exact (List.getElem?_eq_some_iff.mp e).1), e]; rfl, rfl⟩
          · rw [restE_out n]
            exact LS.wo j n o e
  · cases e
theorem se_lc2 {pos : Pos} {elt tg iter tg1 iter1 : Expr} {ifs ifs1 : List Expr} {scope : Scope} {own : List (Str × Nat)} {vs1 : List Nat} {t t1 : Tgt} {fi fi1 : Itw} {tst tst1 : Tst} {fe : Ev} (hc : X.calm = true) (nd : X.N.Nodup) (ok : BlkOk X.N X.env.scope scope own) (hi : SI X iter fi)
    (hg : SG (Blk X scope) tg t) (hsub : ∀ i ∈ t.slots, i ∈ own.map (·.2)) (ht : SF (Blk X scope) ifs tst) (hi1 : SI (Blk X scope) iter1 fi1) (hg1 : SG (Blk X scope) tg1 t1) (hsub1 : ∀ i ∈ t1.slots, i ∈ vs1) (hv : ∀ i ∈ vs1, i ∈ own.map (·.2))
    (ht1 : SF (Blk X scope) ifs1 tst1) (he : SE (Blk X scope) elt fe) (hs : noSet iter = true) (hs1 : noSet iter1 = true) :
    SE X (.ListComp elt [⟨tg, iter, ifs, 0⟩, ⟨tg1, iter1, ifs1, 0⟩] scope pos) (eLC2 (own.map (·.2)) t fi tst fi1 vs1 t1 tst1 fe) := by
  intro T S H σ env φ Q r env' L e k
  refine ⟨_, fun s0 H0 v0 f0 qq => pe_lc2 (X := Alt X s0 H0 v0 f0) hc nd (UI.pi s0 H0 v0 f0 qq) (own := own) (vs1 := vs1) (by
      show BlkOk X.N v0.scope scope own
      rw [qq]
      exact ok) hv (blk_al UG.pg s0 H0 v0 f0 qq) (blk_al UF.pts s0 H0 v0 f0 qq) (blk_al UI.pi s0 H0 v0 f0 qq) (blk_al UG.pg s0 H0 v0 f0 qq) (blk_al UF.pts s0 H0 v0 f0 qq) (blk_al UE.pe s0 H0 v0 f0 qq) (fold_of hs) (fun _ => fold_of hs1), ?_⟩
  exact lc2_read hi hg hsub ht hi1 hg1 hsub1 hv ht1 he L e k
end
end PY
set_option maxHeartbeats 1000000
/-! PyS3: methods with a scalar answer; sorted of numbers. -/
namespace PY
open PySem L2
section
variable {X : Cx} {pos : Pos} {a b c : Expr} {f g h : Ev}
def rSortedD (K : PySem.W.Frag) : List V → Hp → VK → Prop := fun vs H Q => ∃ (a : Addr) (bs : List (V × PyData)), vs = [V.ref a] ∧ SqL K H a (bs.map (·.1)) ∧ (∀ b ∈ bs, Dp K H b.1 b.2) ∧ PySem.W.AllAlike (bs.map (·.2)) ∧ PySem.W.Sortable (bs.map (·.2)) ∧ (∀ b ∈ bs, b.2.depth ≤ 60) ∧
  ∀ p : Addr, H p = none → Q (.ref p) (upd H p (.lst ((bs.mergeSort (PySem.W.dataLe false fun b => b.2)).map (·.1))))
theorem each_vals {us : List Value} : ∀ {bs : List (V × PyData)}, Vals (bs.map (·.1)) us → PySem.W.EachIs (fun (u : Value) (b : V × PyData) => RelV b.1 u ∧ b ∈ bs) us bs := by
  have key : ∀ (bs : List (V × PyData)) (us : List Value), Vals (bs.map (·.1)) us → PySem.W.EachIs (fun (u : Value) (b : V × PyData) => RelV b.1 u) us bs := by
    intro bs
    induction bs with
    | nil => intro us r; cases r; exact .nil
    | cons b bs ih =>
      intro us r
      cases r with
      | cons h t => exact .cons h (ih _ t)
  intro bs r
  exact PySem.W.each_mem (key bs us r)
theorem vals_each : ∀ {us : List Value} {bs : List (V × PyData)}, PySem.W.EachIs (fun (u : Value) (b : V × PyData) => RelV b.1 u) us bs → Vals (bs.map (·.1)) us
  | _, _, .nil => .nil
  | _, _, .cons h t => .cons h (vals_each t)
theorem cr_sortedD (hu : X.A.units + 65 < cLine) : CallR X (.builtin "sorted") (rSortedD X.K) := by
  intro pins s σ H vs us Q I r h
  obtain ⟨a, bs, rfl, hs, hd, hal, hk, hdep, q⟩ := h
  obtain ⟨its, rv, hl, hz⟩ := I.list hs
  rw [Vals.ref1 r]
  have e0 := each_vals rv
  have e : PySem.W.EachIs (fun (u : Value) (b : V × PyData) => RelV b.1 u) its bs := e0.mono fun _ _ h => h.1
  have er : PySem.W.EachIs (fun (u : Value) (b : V × PyData) => ∃ as, Reads s.heap u b.2 as) its bs := e0.mono fun u b h => Dp.reads I b.2 b.1 u (hd b h.2) h.1
  refine PySem.W.sorted_data (enc := fun b : V × PyData => b.2) hl.isList e er hal hk (by simpa using hz) (fun b m => by have := hdep b m; omega) fun out hlen eo => ?_
  obtain ⟨ep, he'⟩ := PyProof.Rows.sortedAll_at s.heap its out.toArray
  refine ⟨.ref _, upd H (s.heap.objs.size + 1) (.lst ((bs.mergeSort (PySem.W.dataLe false fun b => b.2)).map (·.1))), I.laid (t' := s.toks) (fun _ _ => PyProof.Rows.sortedAll_old) (Nat.le_succ _) ⟨?_, out, ep, vals_each eo, he'⟩, rfl, q _ (I.hok.fresh (Nat.le_succ _))⟩
  rw [List.length_map, List.length_mergeSort]
  simpa using hz
def rSortedX (K : PySem.W.Frag) : List V → Hp → VK → Prop := fun vs H Q => rSortedI K vs H Q ∨ rSortedD K vs H Q
theorem cr_sortedX (hu : X.A.units + 65 < cLine) : CallR X (.builtin "sorted") (rSortedX X.K) := by
  intro pins s σ H vs us Q I r h
  rcases h with h | h
  · exact cr_sortedI pins s σ H vs us Q I r h
  · exact cr_sortedD hu pins s σ H vs us Q I r h
theorem al_sortedX (hu : X.A.units + 65 < cLine) : Al X fun Y => CallR Y (.builtin "sorted") (rSortedX X.K) := fun s H v f _ => cr_sortedX (X := Alt X s H v f) hu
theorem zip_fst : ∀ {ys : List V} {xs : List D}, ys.length = xs.length → (ys.zip xs).map (·.1) = ys ∧ (ys.zip xs).map (·.2) = xs
  | [], [], _ => ⟨rfl, rfl⟩
  | [], _ :: _, h => by simp at h
  | _ :: _, [], h => by simp at h
  | y :: ys, x :: xs, h => by
    obtain ⟨h1, h2⟩ := zip_fst (ys := ys) (xs := xs) (by simpa using h)
    simp [h1, h2]
theorem reps_len {K : PySem.W.Frag} {H : Hp} : ∀ {ys : List V} {xs : List D}, Reps K H ys xs → ys.length = xs.length
  | [], [], _ => rfl
  | [], _ :: _, h => by cases h
  | _ :: _, [], h => by cases h
  | y :: ys, x :: xs, h => by
    cases h with
    | cons h1 h2 => simp [reps_len h2]
theorem reps_zip {K : PySem.W.Frag} {H : Hp} : ∀ {ys : List V} {xs : List D}, Reps K H ys xs → ∀ b ∈ ys.zip xs, Rep K H b.1 b.2
  | [], _, _, b, m => by simp at m
  | _ :: _, [], _, b, m => by simp at m
  | y :: ys, x :: xs, h, b, m => by
    cases h with
    | cons h1 h2 =>
      rw [List.zip_cons_cons] at m
      rcases List.mem_cons.mp m with rfl | m
      · exact h1
      · exact reps_zip h2 b m
theorem reps_of {K : PySem.W.Frag} {H : Hp} : ∀ {bs : List (V × D)}, (∀ b ∈ bs, Rep K H b.1 b.2) → Reps K H (bs.map (·.1)) (bs.map (·.2))
  | [], _ => .nil
  | b :: bs, h => .cons (h b List.mem_cons_self) (reps_of fun c m => h c (List.mem_cons_of_mem _ m))
theorem sortOk_ok {xs : List D} (h : sortOk xs = true) : PySem.W.AllAlike xs ∧ PySem.W.Sortable xs ∧ ∀ d ∈ xs, d.depth ≤ 60 := by
  unfold sortOk at h
  rw [Bool.and_eq_true, Bool.and_eq_true] at h
  obtain ⟨⟨h1, h2⟩, h3⟩ := h
  refine ⟨fun d hd e he => List.all_eq_true.mp (List.all_eq_true.mp h1 d hd) e he, ?_, fun d hd => of_decide_eq_true (List.all_eq_true.mp h3 d hd)⟩
  rw [Bool.or_eq_true] at h2
  rcases h2 with h2 | h2
  · refine .inl fun d hd => ?_
    have := List.all_eq_true.mp h2 d hd
    unfold tupNE at this
    split at this
    · exact ⟨_, _, rfl⟩
    · cases this
  · refine .inr fun d hd => ?_
    have := List.all_eq_true.mp h2 d hd
    refine ⟨fun e => ?_, fun ys e => ?_⟩ <;> (subst e; cases this)
theorem al_upper : Al X fun Y => MtR Y "str.upper" (fun x xs H Q => ∃ a, x = .str a ∧ xs = [] ∧ a.length ≤ 5592405 ∧ Q (.str (Txt.upper a)) H) := fun s H v f _ => mt_upper (X := Alt X s H v f)
theorem al_lcount : Al X fun Y => MtR Y "list.count" (rCntI X.K) := fun s H v f _ => mt_lcount (X := Alt X s H v f)
theorem al_lindex (hu : X.A.units + 65 < cLine) : Al X fun Y => MtR Y "list.index" (rIndexD X.K) := fun s H v f _ => mt_indexD (X := Alt X s H v f) hu
theorem al_sortedI : Al X fun Y => CallR Y (.builtin "sorted") (rSortedI X.K) := fun s H v f _ => cr_sortedI (X := Alt X s H v f)
theorem se_upper {s : Str} {sp apos cpos : Pos} (hline : (apos.endLine == cpos.line) = true) (ha : SE X (.Name s sp) f) : SE X (.Call (.Attribute (.Name s sp) "upper" apos) [] [] cpos) (eMet0 "upper" f) := by
  intro T S H σ env φ Q r env' L e k
  unfold eMet0 at e
  obtain ⟨⟨r1, env1⟩, e1, e⟩ := Option.bind_eq_some_iff.mp e
  obtain ⟨d, e2, e⟩ := Option.map_eq_some_iff.mp e
  cases e
  refine ⟨tBM0 X.K "str" (fun x xs H Q => ∃ a, x = .str a ∧ xs = [] ∧ a.length ≤ 5592405 ∧ Q (.str (Txt.upper a)) H) (UE X (.Name s sp)), fun s0 H0 v0 f0 qq => pe_bm0 PySem.F.plainAttrs_str PySem.F.slot_str_upper PySem.F.type_str_upper (al_upper s0 H0 v0 f0 qq) (UE.pe s0 H0 v0 f0 qq) rfl hline, ha T S H σ env φ _ r1 env1 L e1 fun v S1 H1 φ1 f1 p => ?_⟩
  have q := p.rep
  generalize r1.d = d1 at e2 q
  cases d1 <;> try (cases e2; done)
  rename_i z
  have e2 : (if z.length ≤ 5592405 then some (PyData.str (Txt.upper z)) else none) = some d := e2
  split at e2
  · rename_i hz
    cases e2
    cases q
    exact ⟨rfl, z, rfl, rfl, hz, k _ _ _ _ _ (p.mid.frz (.str _))⟩
  · cases e2
theorem intsOf_dIs : ∀ {xs : List D} {ns : List Int}, intsOf xs = some ns → xs = ns.map .int
  | [], ns, h => by cases h; rfl
  | x :: xs, ns, h => by
    cases x <;> try (cases h; done)
    obtain ⟨ms, e1, rfl⟩ := Option.map_eq_some_iff.mp h
    rw [intsOf_dIs e1]
    rfl
theorem met1_go {s : Str} {sp apos cpos : Pos} {m : Str} {id : String} {rr : V → List V → Hp → VK → Prop} {σ : St} {H : Hp} {Q : VK} {r1 r2 : R} {env env1 env2 : Env} {T : Addr → Prop} {S : Hp} {φ : Nat → List Addr}
    (sl : Slot "list" m id) (ty : typeOf (.builtin id) = pure (.type "method_descriptor")) (hm : Al X fun Y => MtR Y id rr) (hline : (apos.endLine == cpos.line) = true) (hn : noStar a = true) (hb : SE X (.Name s sp) f) (ha : SE X a g)
    (L : Hld X.K S H T σ env φ) (e1 : f env = some (r1, env1)) (e2 : g env1 = some (r2, env2))
    (k : ∀ v w S' H' φ', Mid X.K T σ S H env S' H' env2 φ' → Rep X.K H' v r1.d → Rep X.K H' w r2.d → rr v [w] H' Q) (hl : ∃ xs, r1.d = .list xs) : UE X (.Call (.Attribute (.Name s sp) m apos) [a] [] cpos) σ H Q := by
  refine ⟨tBM X.K "list" rr (UE X (.Name s sp)) (tCons (UE X a) tNil), fun s0 H0 v0 f0 qq => pe_bm PySem.F.plainAttrs_list sl ty (hm s0 H0 v0 f0 qq) (UE.pe s0 H0 v0 f0 qq) (one_arg' hn s0 H0 v0 f0 qq) rfl (by rw [star1 hn]; rfl) hline (star_one hn) rfl, hb T S H σ env φ _ r1 env1 L e1 fun v S1 H1 φ1 f1 p1 => ?_⟩
  obtain ⟨xs, hx⟩ := hl
  have q1 := p1.rep
  rw [hx] at q1
  refine ⟨?_, ?_⟩
  · cases q1 with
    | lst r q => exact .inl ⟨rfl, _, r⟩
  · refine ha (fun a => T a ∨ a ∈ f1) S1 H1 σ env1 φ1 _ r2 env2 (p1.hld.guard (fun a m => (p1.dq a m).2) fun a m => (p1.rr.dom a m).1) e2 fun w S2 H2 φ2 f2 p2 => ?_
    have rr1 : RR X.K S2 H2 σ env2 v r1 f1 := p1.rr.mono p2.ss p2.hh (fun a z => (p2.ts a (.inr z)).trans (p1.rr.dom a z).2) p2.le
    have m := p1.mid.trans (p2.mid.weak fun _ t => .inl t)
    exact k v w S2 H2 φ2 m (rr1.rep m.hld) p2.rep
theorem se_count {s : Str} {sp apos cpos : Pos} (hline : (apos.endLine == cpos.line) = true) (hn : noStar a = true) (hb : SE X (.Name s sp) f) (ha : SE X a g) : SE X (.Call (.Attribute (.Name s sp) "count" apos) [a] [] cpos) (eMet1 "count" f g) := by
  intro T S H σ env φ Q r env' L e k
  unfold eMet1 at e
  obtain ⟨⟨r1, env1⟩, e1, e⟩ := Option.bind_eq_some_iff.mp e
  obtain ⟨⟨r2, env2⟩, e2, e⟩ := Option.bind_eq_some_iff.mp e
  obtain ⟨d, e3, e⟩ := Option.map_eq_some_iff.mp e
  cases e
  have key : ∃ xs j ns, r1.d = .list xs ∧ r2.d = .int j ∧ intsOf xs = some ns ∧ d = .int (ns.count j : Nat) := by
    generalize r1.d = d1 at e3
    generalize r2.d = d2 at e3
    cases d1 <;> try (cases e3; done)
    cases d2 <;> try (cases e3; done)
    rename_i xs j
    have e3 : ((intsOf xs).map fun ns => PyData.int (ns.count j : Nat)) = some d := e3
    obtain ⟨ns, h1, h2⟩ := Option.map_eq_some_iff.mp e3
    exact ⟨xs, j, ns, rfl, rfl, h1, h2.symm⟩
  obtain ⟨xs, j, ns, h1, h2, h3, rfl⟩ := key
  refine met1_go PySem.F.slot_list_count PySem.F.type_list_count al_lcount hline hn hb ha L e1 e2 (fun v w S' H' φ' m q1 q2 => ?_) ⟨xs, h1⟩
  rw [h1] at q1
  rw [h2] at q2
  cases q2
  obtain ⟨p, ys, rfl, r, q⟩ := rep_list q1
  rw [ints_rep q h3] at r
  exact ⟨p, ns, j, rfl, rfl, r, k _ _ _ _ _ (m.frz (.int _))⟩
theorem se_index {s : Str} {sp apos cpos : Pos} (hu : X.A.units + 65 < cLine) (hline : (apos.endLine == cpos.line) = true) (hn : noStar a = true) (hb : SE X (.Name s sp) f) (ha : SE X a g) : SE X (.Call (.Attribute (.Name s sp) "index" apos) [a] [] cpos) (eMet1 "index" f g) := by
  intro T S H σ env φ Q r env' L e k
  unfold eMet1 at e
  obtain ⟨⟨r1, env1⟩, e1, e⟩ := Option.bind_eq_some_iff.mp e
  obtain ⟨⟨r2, env2⟩, e2, e⟩ := Option.bind_eq_some_iff.mp e
  obtain ⟨d, e3, e⟩ := Option.map_eq_some_iff.mp e
  cases e
  have key : ∃ xs j, r1.d = .list xs ∧ SeqAt.shaped (.list xs) = true ∧ SeqAt.shaped r2.d = true ∧ xs.findIdx? (fun y => PyData.eqv y r2.d) = some j ∧ d = .int (j : Nat) := by
    generalize r1.d = d1 at e3
    generalize r2.d = d2 at e3
    cases d1 <;> try (cases e3; done)
    rename_i xs
    have e3 : (if SeqAt.shaped (.list xs) = true ∧ SeqAt.shaped d2 = true then (xs.findIdx? fun y => PyData.eqv y d2).map fun (j : Nat) => PyData.int (j : Int) else none) = some d := e3
    split at e3
    · rename_i hs
      obtain ⟨j, h1, h2⟩ := Option.map_eq_some_iff.mp e3
      exact ⟨xs, j, rfl, hs.1, hs.2, h1, h2.symm⟩
    · cases e3
  obtain ⟨xs, j, h1, h2, h3, h4, rfl⟩ := key
  refine met1_go PySem.F.slot_list_index PySem.F.type_list_index (al_lindex hu) hline hn hb ha L e1 e2 (fun v w S' H' φ' m q1 q2 => ?_) ⟨xs, h1⟩
  rw [h1] at q1
  obtain ⟨hj, h5, h6⟩ := List.findIdx?_eq_some_iff_getElem.mp h4
  have q1' := q1.dp
  cases q1 with
  | lst rl rq =>
    refine ⟨_, w, r2.d, xs, j, xs[j], rfl, rfl, q1', q2.dp, h2, h3, List.getElem?_eq_getElem hj, h5, fun i z hi hz => ?_, k _ _ _ _ _ (m.frz (.int _))⟩
    have hi' : i < xs.length := by omega
    rw [List.getElem?_eq_getElem hi'] at hz
    cases hz
    have := h6 i hi
    simpa using this
theorem insI_perm (a : Int) : ∀ r : List Int, (insI a r).Perm (a :: r)
  | [] => .refl _
  | b :: r => by
    unfold insI
    split
    · exact .refl _
    · exact ((insI_perm a r).cons b).trans (.swap _ _ _)
theorem sortI_perm : ∀ r : List Int, (sortI r).Perm r
  | [] => .refl _
  | a :: r => (insI_perm a _).trans ((sortI_perm r).cons a)
theorem insI_srt (a : Int) : ∀ r : List Int, r.Pairwise (· ≤ ·) → (insI a r).Pairwise (· ≤ ·)
  | [], _ => List.pairwise_singleton _ _
  | b :: r, h => by
    unfold insI
    rw [List.pairwise_cons] at h
    split
    · rename_i q
      refine List.Pairwise.cons (fun c m => ?_) (List.pairwise_cons.mpr h)
      rcases List.mem_cons.mp m with rfl | m
      · exact q
      · have := h.1 c m; omega
    · rename_i q
      refine List.Pairwise.cons (fun c m => ?_) (insI_srt a r h.2)
      rcases List.mem_cons.mp ((insI_perm a r).mem_iff.mp m) with rfl | m
      · omega
      · exact h.1 c m
theorem sortI_srt : ∀ r : List Int, (sortI r).Pairwise (· ≤ ·)
  | [] => .nil
  | a :: r => insI_srt a _ (sortI_srt r)
theorem sortI_eq {r s : List Int} (h1 : s.Perm r) (h2 : s.Pairwise (· ≤ ·)) : s = sortI r :=
  List.Perm.eq_of_pairwise (fun _ _ _ _ h g => by omega) h2 (sortI_srt r) (h1.trans (sortI_perm r).symm)
theorem se_sorted {p : Pos} (hu : X.A.units + 65 < cLine) (hg : Gl X "sorted") (hm : X.mg "sorted" = none) (hn : noStar a = true) (ha : SE X a f) : SE X (.Call (.Name "sorted" p) [a] [] pos) (eBiS "sorted" f) := by
  intro T S H σ env φ Q r env' L e kq
  unfold eBiS at e
  obtain ⟨⟨r1, env1⟩, e1, e⟩ := Option.bind_eq_some_iff.mp e
  refine ⟨_, fun s0 H0 v0 f0 qq => pe_callB (al_sortedX hu s0 H0 v0 f0 qq) (gl_alt hg s0 H0 v0 f0 qq) hm PyProof.Rows.boot_sorted (one_arg' hn s0 H0 v0 f0 qq) (by decide +kernel) (by decide +kernel) (star_one hn) rfl, ha T S H σ env φ _ r1 env1 L e1 fun v S1 H1 φ1 f1 p => ?_⟩
  split at e
  · rename_i r' hb
    cases e
    rcases biM_of hb with ⟨os, rfl, hx, rfl⟩ | ⟨os, rfl, hx, rfl⟩ | ⟨os, rfl, hx, rfl⟩ <;> exact absurd hx (by decide)
  obtain ⟨r', e2, e⟩ := Option.map_eq_some_iff.mp e
  cases e
  simp only [sh_d] at e2
  obtain ⟨S4, φ4, m4, i4⟩ := p.share
  rw [sh_d] at i4
  generalize r1.d = d at e2 i4
  cases d <;> try (cases e2; done)
  rename_i xs
  have e2 := e2
  change (match intsOf xs with
    | some ns => some (mkL ((sortI ns).map .int))
    | none => if sortOk xs = true then some (mkL (sortD xs)) else none) = _ at e2
  obtain ⟨l, ys, rfl, h2, q⟩ := it_list i4
  split at e2
  · rename_i ns h1
    injection e2 with e2
    subst e2
    rw [ints_rep q h1] at h2
    refine Or.inl ⟨l, ns, rfl, h2, fun ns' pp hp hs hh => ?_⟩
    rw [sortI_eq hp hs]
    have qq : Reps X.K S4 ((sortI ns).map V.int) ((sortI ns).map PyData.int) := by
      generalize sortI ns = zs
      induction zs with
      | nil => exact .nil
      | cons z zs ih => exact .cons (.int _) ih
    exact kq _ _ _ _ _ (m4.mkL hh qq)
  · split at e2 <;> try (cases e2; done)
    rename_i ok
    injection e2 with e2
    subst e2
    obtain ⟨o1, o2, o3⟩ := sortOk_ok ok
    obtain ⟨z1, z2⟩ := zip_fst (reps_len q)
    have rz := reps_zip q
    have mm : ∀ b ∈ ys.zip xs, b.2 ∈ xs := fun b m => by rw [← z2]; exact List.mem_map.mpr ⟨b, m, rfl⟩
    refine Or.inr ⟨l, ys.zip xs, rfl, by rw [z1]; exact h2, fun b m => (Rep.mono m4.hld.same _ (rz b m)).dp, by rw [z2]; exact o1, by rw [z2]; exact o2, fun b m => o3 _ (mm b m), fun pp hh => ?_⟩
    have qq : Reps X.K S4 (((ys.zip xs).mergeSort (PySem.W.dataLe false fun b => b.2)).map (·.1)) (sortD xs) := by
      have e : sortD xs = ((ys.zip xs).mergeSort (PySem.W.dataLe false fun b => b.2)).map (·.2) := by
        unfold sortD
        rw [List.map_mergeSort (r := PySem.W.dataLe false fun b : V × D => b.2) (s := PySem.W.dataLe false fun d : D => d) (f := fun b : V × D => b.2) (fun _ _ _ _ => rfl), z2]
      rw [e]
      exact reps_of fun b m => rz b (List.mem_mergeSort.mp m)
    exact kq _ _ _ _ _ (m4.mkL hh qq)
end
end PY
set_option maxHeartbeats 1000000
/-! PySf: statements. -/
namespace PY
open PySem L2

structure SStp (T : Addr → Prop) (S H S' H' : Hp) : Prop where
  ss : Same S S'
  ts : ∀ a, T a → S' a = S a
  th : ∀ a, T a → H' a = H a
section
variable {K : PySem.W.Frag} {T : Addr → Prop} {S H S1 H1 S2 H2 : Hp}
theorem SStp.refl : SStp T S H S H := ⟨Same.refl S, fun _ _ => rfl, fun _ _ => rfl⟩
theorem SStp.trans (a : SStp T S H S1 H1) (b : SStp T S1 H1 S2 H2) : SStp T S H S2 H2 := ⟨a.ss.trans b.ss, fun x t => (b.ts x t).trans (a.ts x t), fun x t => (b.th x t).trans (a.th x t)⟩
theorem Mid.st {σ : St} {env env1 : Env} {φ1 : Nat → List Addr} (m : Mid K T σ S H env S1 H1 env1 φ1) (td : ∀ a, T a → H a ≠ none) : SStp T S H S1 H1 := ⟨m.ss, m.ts, fun a t => by
  cases q : H a with
  | none => exact absurd q (td a t)
  | some u => exact m.hh a u q⟩
end
def US (X : Cx) (st : Stmt) : TS := fun D σ H => ∃ t, PS X st t ∧ t D σ H
theorem US.ps {X : Cx} {st : Stmt} : PS X st (US X st) := ⟨fun pins s σ H D I h => let ⟨_, p, q⟩ := h; p.run pins s σ H D I q⟩
def UB (X : Cx) (st : List Stmt) : TS := fun D σ H => ∃ t, PSs X st t ∧ t D σ H
theorem UB.pss {X : Cx} {st : List Stmt} : PSs X st (UB X st) := ⟨fun pins s σ H D I h => let ⟨_, p, q⟩ := h; p.run pins s σ H D I q⟩
def CPost (K : PySem.W.Frag) (T : Addr → Prop) (S H : Hp) (N : Nat) (D : Ends) : Ctl → Prop
  | .next env' => ∀ σ' S' H' φ', Hld K S' H' T σ' env' φ' → σ'.length = N → SStp T S H S' H' → D.nx σ' H'
  | .brk env' => ∀ σ' S' H' φ', Hld K S' H' T σ' env' φ' → σ'.length = N → SStp T S H S' H' → D.bk σ' H'
  | .cont env' => ∀ σ' S' H' φ', Hld K S' H' T σ' env' φ' → σ'.length = N → SStp T S H S' H' → D.ct σ' H'
  | .ret o => ∀ v S' H' fq, RepO K S' H' v o fq → Same S' H' → (∀ a ∈ fq, ¬ T a) → SStp T S H S' H' → D.rt v H'
theorem CPost.step {K : PySem.W.Frag} {T : Addr → Prop} {S H S1 H1 : Hp} {N : Nat} {D : Ends} {c : Ctl} (k : CPost K T S H N D c) (s : SStp T S H S1 H1) : CPost K T S1 H1 N D c := by
  cases c with
  | next e => exact fun σ' S' H' φ' L hl st => k σ' S' H' φ' L hl (s.trans st)
  | brk e => exact fun σ' S' H' φ' L hl st => k σ' S' H' φ' L hl (s.trans st)
  | cont e => exact fun σ' S' H' φ' L hl st => k σ' S' H' φ' L hl (s.trans st)
  | ret o => exact fun v S' H' fq r sh d st => k v S' H' fq r sh d (s.trans st)
def SS (X : Cx) (st : Stmt) (f : Stm) : Prop := ∀ (T : Addr → Prop) (S H : Hp) (σ : St) (env : Env) (φ : Nat → List Addr) (D : Ends) (c : Ctl), Hld X.K S H T σ env φ → σ.length = X.N.length → f env = some c → CPost X.K T S H X.N.length D c → US X st D σ H
def SB (X : Cx) (st : List Stmt) (f : Stm) : Prop := ∀ (T : Addr → Prop) (S H : Hp) (σ : St) (env : Env) (φ : Nat → List Addr) (D : Ends) (c : Ctl), Hld X.K S H T σ env φ → σ.length = X.N.length → f env = some c → CPost X.K T S H X.N.length D c → UB X st D σ H

section
variable {X : Cx} {pos : Pos} {a e : Expr} {f g : Ev} {st : Stmt}
theorem ss_none : SS X st sNone := fun _ _ _ _ _ _ _ _ _ _ h _ => nomatch h
theorem sb_none {sts : List Stmt} : SB X sts sNone := fun _ _ _ _ _ _ _ _ _ _ h _ => nomatch h
/-! ### blocks -/
theorem sb_nil : SB X [] sNext := by
  intro T S H σ env φ D c L hl e k
  cases e
  exact ⟨_, pss_nil, k σ S H φ L hl .refl⟩
theorem sb_one {f : Stm} (h : SS X st f) : SB X [st] f := fun T S H σ env φ D c L hl e k => ⟨_, pss_one US.ps, h T S H σ env φ D c L hl e k⟩
theorem sb_cons {sts : List Stmt} {f g : Stm} (h : SS X st f) (hs : SB X sts g) : SB X (st :: sts) (sSeq f g) := by
  intro T S H σ env φ D c L hl e k
  unfold sSeq at e
  obtain ⟨c1, e1, e⟩ := Option.bind_eq_some_iff.mp e
  refine ⟨_, pss_cons US.ps UB.pss, h T S H σ env φ _ c1 L hl e1 ?_⟩
  cases c1 with
  | next e2 => exact fun σ' S' H' φ' L' hl' s' => hs T S' H' σ' e2 φ' D c L' hl' e (k.step s')
  | brk e2 => cases e; exact k
  | cont e2 => cases e; exact k
  | ret o => cases e; exact k
/-! ### small statements -/
theorem ss_pass : SS X (.Pass pos) sNext := by
  intro T S H σ env φ D c L hl e k
  cases e
  exact ⟨_, ps_pass, k σ S H φ L hl .refl⟩
theorem ss_brk : SS X (.Break pos) sBrk := by
  intro T S H σ env φ D c L hl e k
  cases e
  exact ⟨_, ps_break, k σ S H φ L hl .refl⟩
theorem ss_cont : SS X (.Continue pos) sCont := by
  intro T S H σ env φ D c L hl e k
  cases e
  exact ⟨_, ps_continue, k σ S H φ L hl .refl⟩
theorem ss_retN : SS X (.Return none pos) sRetN := by
  intro T S H σ env φ D c L hl e k
  cases e
  exact ⟨_, ps_retN, k .non S H [] (.frz .non) L.same (fun _ m => nomatch m) .refl⟩
theorem ss_ret (ha : SE X a f) : SS X (.Return (some a) pos) (sRet f) := by
  intro T S H σ env φ D c L hl e k
  unfold sRet at e
  obtain ⟨⟨r1, env1⟩, e1, e⟩ := Option.map_eq_some_iff.mp e
  refine ⟨_, ps_ret UE.pe.self, ha T S H σ env φ _ r1 env1 L e1 fun v S1 H1 φ1 f1 p => ?_⟩
  have s := p.mid.st L.tdom
  have rr := p.rr
  cases r1 with
  | frz d =>
    cases e
    exact k v S1 H1 [] (.frz rr.1) p.hld.same (fun _ m => nomatch m) s
  | own o =>
    cases e
    exact k v S1 H1 f1 rr p.hld.same (fun a m => (p.dq a m).1) s
  | bor i d =>
    obtain ⟨q1, q2, o, q3, q4⟩ := rr
    have ec : c = .ret o := by
      simp only [q3] at e
      exact e.symm
    subst ec
    obtain ⟨w, q5, r⟩ := p.hld.slot i o q3
    rw [q2] at q5
    cases q5
    exact k v S1 H1 _ r p.hld.same (fun a m => p.hld.fr i a m) s
theorem bors_mem {i : Nat} {is : List Nat} (h : is.contains i = false) : i ∉ is := fun m => by
  rw [List.contains_iff_mem.mpr m] at h
  cases h
/-- what the slots hold moves out -/
theorem mv_ok {S H : Hp} {T : Addr → Prop} {σ : St} {env : Env} {φ : Nat → List Addr} (L : Hld X.K S H T σ env φ) : ∀ {rs : List R} {vs : List V} {fq : List Addr}, RRs X.K S H σ env vs rs fq → (∀ a ∈ fq, ∀ i, a ∉ φ i) → dupN (bors rs) = false →
    ∃ g, RepOs X.K S H vs (rs.map (mvO env)) g ∧ ∀ a ∈ g, a ∈ fq ∨ ∃ i ∈ bors rs, a ∈ φ i
  | [], _, _, q, _, _ => by
    cases q
    exact ⟨[], .nil, fun _ m => nomatch m⟩
  | r :: rs, _, _, q, dq, nd => by
    cases q with
    | @cons v vs _ _ f1 g1 r1 q1 dj =>
      have dq2 : ∀ a ∈ g1, ∀ i, a ∉ φ i := fun a m => dq a (List.mem_append_right _ m)
      cases r with
      | frz d =>
        obtain ⟨g, q2, k⟩ := mv_ok L q1 dq2 nd
        have e := r1.2
        subst e
        exact ⟨[] ++ g, .cons (.frz r1.1) q2 (fun _ m => nomatch m), fun a m => (k a m)⟩
      | own o =>
        obtain ⟨g, q2, k⟩ := mv_ok L q1 dq2 nd
        refine ⟨f1 ++ g, .cons r1 q2 fun a m z => ?_, fun a m => ?_⟩
        · rcases k a z with z | ⟨i, _, z⟩
          · exact dj a m z
          · exact dq a (List.mem_append_left _ m) i z
        · rcases List.mem_append.mp m with m | m
          · exact .inl (List.mem_append_left _ m)
          · exact (k a m).imp (List.mem_append_right _) id
      | bor i d =>
        have nd' : (bors rs).contains i = false ∧ dupN (bors rs) = false := by
          have : ((bors rs).contains i || dupN (bors rs)) = false := nd
          simpa using this
        obtain ⟨g, q2, k⟩ := mv_ok L q1 dq2 nd'.2
        obtain ⟨e1, e2, o, e3, e4⟩ := r1
        subst e1
        obtain ⟨w, e5, r⟩ := L.slot i o e3
        rw [e2] at e5
        cases e5
        have eo : mvO env (.bor i d) = o := by
          show (env[i]?.getD none).getD (.frz d) = o
          rw [e3]
          rfl
        refine ⟨φ i ++ g, ?_, fun a m => ?_⟩
        · rw [List.map_cons, eo]
          refine .cons r q2 fun a m z => ?_
          rcases k a z with z | ⟨j, mj, z⟩
          · exact dq2 a z i m
          · have := L.disj i j a m z
            subst this
            exact bors_mem nd'.1 mj
        · rcases List.mem_append.mp m with m | m
          · exact .inr ⟨i, List.mem_cons_self, m⟩
          · rcases k a m with z | ⟨j, mj, z⟩
            · exact .inl z
            · exact .inr ⟨j, List.mem_cons_of_mem _ mj, z⟩
theorem ss_retT {es : List Expr} {fs : List Ev} {x1 : Nat} {p : Pos} (hs : SA X es fs) : SS X (.Return (some (.Tuple es x1 p)) pos) (sRetT fs) := by
  intro T S H σ env φ D c L hl e k
  unfold sRetT at e
  obtain ⟨⟨rs, env1⟩, e1, e⟩ := Option.bind_eq_some_iff.mp e
  split at e
  · rename_i hz
    cases e
    refine ⟨_, ps_ret UE.pe.self, _, fun s0 H0 v0 f0 qq => pe_tup (UA.pa s0 H0 v0 f0 qq), hs T S H σ env φ _ rs env1 L e1 fun vs S1 H1 φ1 fq m1 q1 d1 => ⟨by rw [q1.length]; exact hz, fun p hp => ?_⟩⟩
    have L1 := m1.hld
    by_cases nd : dupN (bors rs) = true
    · obtain ⟨S2, φ2, m2, q2, le2⟩ := tks_ok m1.hld q1 d1
      have E := ((m1.trans m2).new hp q2 fun a m => ⟨(d1 a m).1, fun i z => (d1 a m).2 i (le2 i a z)⟩).2
      rw [if_pos nd] at k
      exact k _ _ _ _ E.rr E.hld.same (fun a m => (E.dq a m).1) (E.mid.st L.tdom)
    · rw [if_neg nd] at k
      obtain ⟨g, q2, kg⟩ := mv_ok L1 q1 (fun a m => (d1 a m).2) (by simpa using nd)
      have sp : S1 p = none := by
        cases z : S1 p with
        | none => rfl
        | some u => rw [L1.same p u z] at hp; cases hp
      have np : p ∉ g := fun m => (q2.dom _ p m).1 hp
      have hh : Same H1 (upd H1 p (.tup vs)) := fun b u e => by rw [upd_ne (ne_of_none e hp)]; exact e
      have M : Mid X.K T σ S H env S1 (upd H1 p (.tup vs)) env1 φ1 := ⟨L1.grow (Same.refl S1) hh (L1.same.trans hh) fun i a m => (L1.dom m).2, m1.hh.trans hh, m1.ss, m1.ts, m1.le⟩
      refine k (.ref p) S1 (upd H1 p (.tup vs)) (p :: g) (.otup upd_same sp np (q2.mono (Same.refl S1) _ fun b m => ⟨upd_ne fun z => np (z ▸ m), (q2.dom _ b m).2⟩)) M.hld.same (fun a m => ?_) (M.st L.tdom)
      rcases List.mem_cons.mp m with rfl | m
      · exact fun t => L1.tdom a t hp
      · rcases kg a m with z | ⟨i, _, z⟩
        · exact (d1 a z).1
        · exact L1.fr i a z
  · cases e
theorem ss_if {t : Tst} {c : Expr} {x y : List Stmt} {fx fy : Stm} (hc : ST X c t) (hx : SB X x fx) (hy : SB X y fy) : SS X (.If c x y pos) (sIf t fx fy) := by
  intro T S H σ env φ D cc L hl e k
  unfold sIf at e
  obtain ⟨⟨b, env1⟩, e1, e⟩ := Option.bind_eq_some_iff.mp e
  refine ⟨_, ps_if UT.pt.self UB.pss UB.pss, hc T S H σ env φ _ b env1 L e1 fun S1 H1 φ1 m => ?_⟩
  cases b with
  | true => exact iteT (hx T S1 H1 σ env1 φ1 D cc m.hld hl e (k.step (m.st L.tdom)))
  | false => exact iteF (hy T S1 H1 σ env1 φ1 D cc m.hld hl e (k.step (m.st L.tdom)))
/-! ### stores -/
def noComp : Expr → Bool
  | .ListComp .. => false
  | .SetComp .. => false
  | .DictComp .. => false
  | _ => true
theorem swap_of {t : Option Expr} {l : Nat} {env : PySem.Env} (h : noComp e = true) : swapsWith e t l env = pure false := by
  cases e <;> first | rfl | (cases h)
theorem set_same {σ : St} {i : Nat} {v : V} (h : σ[i]? = some (some v)) : σ.set i (some v) = σ := by
  apply List.ext_getElem?
  intro j
  by_cases q : j = i
  · subst q
    rw [List.getElem?_set_self (List.getElem?_eq_some_iff.mp h).1, h]
  · rw [List.getElem?_set_ne (Ne.symm q)]
/-- what a store to a slot leaves -/
theorem store_post {T : Addr → Prop} {σ : St} {S H S1 H1 : Hp} {env env1 : Env} {φ1 : Nat → List Addr} {v : V} {r : R} {f1 : List Addr} (p : EPost X.K T σ S H env S1 H1 env1 φ1 v r f1) (td : ∀ a, T a → H a ≠ none) {i : Nat} (hi : i < σ.length) {D : Ends} {n : Nat} (hl : σ.length = n)
    (k : CPost X.K T S H n D (.next ((tk r env1).2.set i (some (tk r env1).1)))) : D.nx (σ.set i (some v)) H1 := by
  obtain ⟨S2, φ2, m2, r2, d2⟩ := p.tk
  have L2 := m2.hld.put (i := i) (v := v) (o := (tk r env1).1) (fq := f1) r2 (fun a m => ⟨(d2 a m).1, fun j _ => (d2 a m).2 j⟩) (Same.refl S2) m2.hld.same (fun j a _ m => ⟨rfl, (m2.hld.dom m).2⟩) m2.hld.tdom (by rw [m2.hld.len]; exact hi)
  exact k _ S2 H1 _ L2 (by rw [List.length_set]; exact hl) (m2.st td)
theorem ss_set {i : Nat} {x : Str} {p : Pos} (nd : X.N.Nodup) (hx : X.N[i]? = some x) (hloc : Loc X.env.scope x ∧ (X.fn x = true ∨ X.env.scope.names.lookup x = some .local)) (hn : noComp e = true) (ha : SE X e f) :
    SS X (.Assign [.Name x p] e pos) (sSet i f) := by
  intro T S H σ env φ D c L hl ee k
  unfold sSet at ee
  obtain ⟨⟨r1, env1⟩, e1, ee⟩ := Option.map_eq_some_iff.mp ee
  cases ee
  refine ⟨_, ps_set nd hx hloc.1 UE.pe.self (swap_of hn) hloc.2, ha T S H σ env φ _ r1 env1 L e1 fun v S1 H1 φ1 f1 p => ?_⟩
  exact store_post p L.tdom (by rw [hl]; exact (List.getElem?_eq_some_iff.mp hx).1) hl k
theorem swap_lc {elt : Expr} {gs : List Comprehension} {scope : Scope} {p py : Pos} {y : Str} {l : Nat} {env : PySem.Env} : ∃ b, swapsWith (.ListComp elt gs scope p) (some (.Name y py)) l env = pure b ∧ (b = true → env.kindOf y = some .local) := by
  refine ⟨_, rfl, fun h => ?_⟩
  simp only [Bool.and_eq_true, beq_iff_eq] at h
  exact h.1.1.2
theorem ss_setLc {i : Nat} {y : Str} {py p : Pos} {elt tg iter : Expr} {ifs : List Expr} {scope : Scope} {own : List (Str × Nat)} {t : Tgt} {fi : Itw} {tst : Tst} {fe : Ev} (nd : X.N.Nodup) (hx : X.N[i]? = some y) (hloc : Loc X.env.scope y ∧ (X.fn y = true ∨ X.env.scope.names.lookup y = some .local))
    (hc : X.calm = true) (ok : BlkOk X.N X.env.scope scope own) (hi : SI X iter fi) (hg : SG (Blk X scope) tg t) (hsub : ∀ i ∈ t.slots, i ∈ own.map (·.2)) (ht : SF (Blk X scope) ifs tst) (he : SE (Blk X scope) elt fe) (hs : noSet iter = true) :
    SS X (.Assign [.Name y py] (.ListComp elt [⟨tg, iter, ifs, 0⟩] scope p) pos) (sSet i (eLC (own.map (·.2)) t fi tst fe)) := by
  intro T S H σ env φ D c L hl ee k
  have hh := se_lc (pos := p) hc nd ok hi hg hsub ht he hs
  unfold sSet at ee
  obtain ⟨⟨r1, env1⟩, e1, ee⟩ := Option.map_eq_some_iff.mp ee
  cases ee
  have hil : i < σ.length := by rw [hl]; exact (List.getElem?_eq_some_iff.mp hx).1
  obtain ⟨b, hb, hk⟩ := swap_lc (elt := elt) (gs := [⟨tg, iter, ifs, 0⟩]) (scope := scope) (p := p) (py := py) (y := y) (l := pos.line) (env := X.env)
  cases b with
  | false => exact ⟨_, ps_set nd hx hloc.1 UE.pe.self hb hloc.2, hh T S H σ env φ _ r1 env1 L e1 fun v S1 H1 φ1 f1 p => store_post p L.tdom hil hl k⟩
  | true =>
    refine ⟨_, ps_setLc hc nd hx (hk rfl) hb UI.pi.self ok (blk_al UG.pg).self (blk_al UF.pts).self (blk_al UE.pe).self (fold_of hs), ?_⟩
    exact lc_read (Q := fun x H1 => gName i x σ H1 D.nx) hi hg hsub ht he L e1 fun v S1 H1 φ1 f1 p => store_post p L.tdom hil hl k
theorem ss_setLc2 {i : Nat} {y : Str} {py p : Pos} {elt tg iter tg1 iter1 : Expr} {ifs ifs1 : List Expr} {scope : Scope} {own : List (Str × Nat)} {vs1 : List Nat} {t t1 : Tgt} {fi fi1 : Itw} {tst tst1 : Tst} {fe : Ev} (nd : X.N.Nodup) (hx : X.N[i]? = some y) (hloc : Loc X.env.scope y ∧ (X.fn y = true ∨ X.env.scope.names.lookup y = some .local))
    (hc : X.calm = true) (ok : BlkOk X.N X.env.scope scope own) (hi : SI X iter fi) (hg : SG (Blk X scope) tg t) (hsub : ∀ i ∈ t.slots, i ∈ own.map (·.2)) (ht : SF (Blk X scope) ifs tst) (hi1 : SI (Blk X scope) iter1 fi1) (hg1 : SG (Blk X scope) tg1 t1) (hsub1 : ∀ i ∈ t1.slots, i ∈ vs1) (hv : ∀ i ∈ vs1, i ∈ own.map (·.2))
    (ht1 : SF (Blk X scope) ifs1 tst1) (he : SE (Blk X scope) elt fe) (hs : noSet iter = true) (hs1 : noSet iter1 = true) :
    SS X (.Assign [.Name y py] (.ListComp elt [⟨tg, iter, ifs, 0⟩, ⟨tg1, iter1, ifs1, 0⟩] scope p) pos) (sSet i (eLC2 (own.map (·.2)) t fi tst fi1 vs1 t1 tst1 fe)) := by
  intro T S H σ env φ D c L hl ee k
  have hh := se_lc2 (pos := p) hc nd ok hi hg hsub ht hi1 hg1 hsub1 hv ht1 he hs hs1
  unfold sSet at ee
  obtain ⟨⟨r1, env1⟩, e1, ee⟩ := Option.map_eq_some_iff.mp ee
  cases ee
  have hil : i < σ.length := by rw [hl]; exact (List.getElem?_eq_some_iff.mp hx).1
  obtain ⟨b, hb, hk⟩ := swap_lc (elt := elt) (gs := [⟨tg, iter, ifs, 0⟩, ⟨tg1, iter1, ifs1, 0⟩]) (scope := scope) (p := p) (py := py) (y := y) (l := pos.line) (env := X.env)
  cases b with
  | false => exact ⟨_, ps_set nd hx hloc.1 UE.pe.self hb hloc.2, hh T S H σ env φ _ r1 env1 L e1 fun v S1 H1 φ1 f1 p => store_post p L.tdom hil hl k⟩
  | true =>
    refine ⟨_, ps_setLc2 hc nd hx (hk rfl) hb UI.pi.self ok hv (blk_al UG.pg).self (blk_al UF.pts).self (blk_al UI.pi).self (blk_al UG.pg).self (blk_al UF.pts).self (blk_al UE.pe).self (fold_of hs) (fun _ => fold_of hs1), ?_⟩
    exact lc2_read (Q := fun x H1 => gName i x σ H1 D.nx) hi hg hsub ht hi1 hg1 hsub1 hv ht1 he L e1 fun v S1 H1 φ1 f1 p => store_post p L.tdom hil hl k
/-! ### the methods that change a list -/
theorem slotL_eq {env : Env} {i : Nat} {os : List O} (h : slotL env i = some os) : env[i]? = some (some (.own os)) := by
  unfold slotL at h
  split at h
  · rename_i e
    cases h
    exact e
  · cases h
/-- the list in a slot -/
theorem Hld.lst {S H : Hp} {T : Addr → Prop} {σ : St} {env : Env} {φ : Nat → List Addr} (L : Hld X.K S H T σ env φ) {i : Nat} {os : List O} (e : env[i]? = some (some (.own os))) :
    ∃ p vs fp, σ[i]? = some (some (.ref p)) ∧ φ i = p :: fp ∧ H p = some (.lst vs) ∧ S p = none ∧ p ∉ fp ∧ RepOs X.K S H vs os fp := by
  obtain ⟨v, e1, r⟩ := L.slot i _ e
  generalize hf : φ i = fi at r
  cases r with
  | own h1 h2 h3 h4 => exact ⟨_, _, _, e1, rfl, h1, h2, h3, h4⟩
/-- the list in a slot is changed -/
theorem Hld.chg {S H : Hp} {T : Addr → Prop} {σ : St} {env : Env} {φ : Nat → List Addr} (L : Hld X.K S H T σ env φ) {i : Nat} {p : Addr} {fp : List Addr} {vs ws : List V} {ps : List O} {fq : List Addr} (e1 : σ[i]? = some (some (.ref p))) (ef : φ i = p :: fp) (h1 : H p = some (.lst vs)) (h2 : S p = none) (hq : p ∉ fq)
    (q : RepOs X.K S H ws ps fq) (dq : ∀ a ∈ fq, ¬ T a ∧ ∀ j, j ≠ i → a ∉ φ j) : Hld X.K S (upd H p (.lst ws)) T σ (env.set i (some (.own ps))) (fun j => if j = i then p :: fq else φ j) ∧ SStp T S H S (upd H p (.lst ws)) := by
  have mp : p ∈ φ i := by rw [ef]; exact List.mem_cons_self
  have hT : ¬ T p := L.fr i p mp
  have hi : i < env.length := by rw [L.len]; exact (List.getElem?_eq_some_iff.mp e1).1
  have sm : Same S (upd H p (.lst ws)) := fun b u e => by rw [upd_ne (fun z => by rw [z, h2] at e; cases e)]; exact L.same b u e
  have P := L.put (i := i) (v := .ref p) (o := .own ps) (fq := p :: fq) (S' := S) (H' := upd H p (.lst ws)) (.own upd_same h2 hq (q.mono (Same.refl S) ps fun a m => ⟨upd_ne fun z => hq (z ▸ m), (q.dom ps a m).2⟩))
    (fun a m => by
      rcases List.mem_cons.mp m with rfl | m
      · exact ⟨hT, fun j n z => n (L.disj j i a z mp)⟩
      · exact dq a m) (Same.refl S) sm
    (fun j a n m => ⟨upd_ne fun z => n (L.disj j i a m (z ▸ mp)), (L.dom m).2⟩) (fun a t => by
      by_cases z : a = p
      · exact absurd (z ▸ t) hT
      · rw [upd_ne z]; exact L.tdom a t) hi
  rw [set_same e1] at P
  exact ⟨P, Same.refl S, fun _ _ => rfl, fun a t => upd_ne fun z => hT (z ▸ t)⟩
theorem tyL {K : PySem.W.Frag} {H : Hp} {p : Addr} {vs : List V} (h : H p = some (.lst vs)) : tyV K "list" (.ref p) H := .inl ⟨rfl, vs, .inl (.inl h)⟩
theorem few1 {cpos : Pos} {env : PySem.Env} (hn : noStar a = true) : ((backTo cpos (starEach [a] env)).all (fun x => !x.1) && (backToKw cpos (keywordEach [] env)).all (fun x => x.1.isSome)
      && decide ([a].length + ([] : List Keyword).length + (if ([] : List Keyword).isEmpty then 0 else 1) < 30)) = true := by
  rw [star1 hn]
  rfl
theorem ss_append {i : Nat} {x : Str} {p apos cpos : Pos} (hx : X.N[i]? = some x) (hv : Vis X.env.scope x) (hd : (x == ("__debug__" : Str)) = false) (hcd : (x == ("__classdict__" : Str)) = false) (hline : (apos.endLine == cpos.line) = true) (hn : noStar a = true) (ha : SE X a f) :
    SS X (.Expr (.Call (.Attribute (.Name x p) "append" apos) [a] [] cpos) pos) (sAppend i f) := by
  intro T S H σ env φ D c L hl ee k
  unfold sAppend at ee
  obtain ⟨os0, e0, ee⟩ := Option.bind_eq_some_iff.mp ee
  obtain ⟨⟨r1, env1⟩, e1, ee⟩ := Option.bind_eq_some_iff.mp ee
  obtain ⟨os, e2, ee⟩ := Option.bind_eq_some_iff.mp ee
  split at ee
  · rename_i hz
    cases ee
    obtain ⟨p0, vs0, fp0, s0, g0, h0, _, _, _⟩ := L.lst (slotL_eq e0)
    refine ⟨_, ps_expr (pe_bm PySem.F.plainAttrs_list PySem.F.slot_list_append PySem.F.type_list_append mt_append (pe_var hx hv hd hcd) (one_arg' hn).self rfl (few1 hn) hline (star_one hn) rfl) (swap_of rfl), ?_⟩
    refine ⟨.ref p0, s0, tyL h0, ?_⟩
    refine ha T S H σ env φ _ r1 env1 L e1 fun y S1 H1 φ1 f1 p1 => ?_
    obtain ⟨S2, φ2, m2, r2, d2⟩ := p1.tk
    obtain ⟨p2, vs, fp, s2, g2, h2, n2, nf, q2⟩ := m2.hld.lst (slotL_eq e2)
    rw [s0] at s2
    cases s2
    refine ⟨p0, vs, y, rfl, rfl, h2, by rw [q2.length]; exact hz, ?_⟩
    have q3 : RepOs X.K S2 H1 (vs ++ [y]) (os ++ [(tk r1 env1).1]) (fp ++ f1) := by
      have r7 := RepOs.cons r2 RepOs.nil (fun a _ q => nomatch q)
      rw [List.append_nil] at r7
      exact q2.append r7 fun a z q => (d2 a q).2 i (by rw [g2]; exact List.mem_cons_of_mem _ z)
    obtain ⟨L3, s3⟩ := m2.hld.chg (ws := vs ++ [y]) s0 g2 h2 n2 (fun z => by
      rcases List.mem_append.mp z with z | z
      · exact nf z
      · exact (d2 p0 z).2 i (by rw [g2]; exact List.mem_cons_self)) q3 fun a z => by
        rcases List.mem_append.mp z with z | z
        · have mz : a ∈ φ2 i := by rw [g2]; exact List.mem_cons_of_mem _ z
          exact ⟨m2.hld.fr i a mz, fun j n w => n (m2.hld.disj j i a w mz)⟩
        · exact ⟨(d2 a z).1, fun j _ => (d2 a z).2 j⟩
    exact k _ S2 _ _ L3 hl ((m2.st L.tdom).trans s3)
  · cases ee
/-- one of the items, a fresh list, is changed -/
theorem RepOs.child {K : PySem.W.Frag} {S H : Hp} : ∀ {os : List O} {vs : List V} {fp : List Addr} {j : Nat} {cs : List O}, RepOs K S H vs os fp → os[j]? = some (.own cs) →
    ∃ q ws g, vs[j]? = some (.ref q) ∧ H q = some (.lst ws) ∧ S q = none ∧ q ∈ fp ∧ (∀ a ∈ g, a ∈ fp) ∧ q ∉ g ∧ RepOs K S H ws cs g ∧
      ∀ (H' : Hp) (ws' : List V) (cs' : List O) (g' : List Addr), (∀ a, a ≠ q → H' a = H a) → H' q = some (.lst ws') → RepOs K S H' ws' cs' g' → q ∉ g' → (∀ a ∈ g', a ∈ fp → a ∈ g) → ∃ fp', RepOs K S H' vs (os.set j (.own cs')) fp' ∧ ∀ a ∈ fp', a ∈ fp ∨ a ∈ g'
  | [], _, _, _, _, h, e => by simp at e
  | o :: os, _, _, 0, cs, h, e => by
    simp only [List.getElem?_cons_zero, Option.some.injEq] at e
    subst e
    cases h with
    | @cons v vs _ _ f g r q d =>
      cases r with
      | @own p ws _ fp h1 h2 h3 h4 =>
        refine ⟨p, ws, fp, rfl, h1, h2, by simp, fun a m => by simp [m], h3, h4, fun H' ws' cs' g' k e2 q2 n2 s2 => ?_⟩
        have np : p ∉ g := d p List.mem_cons_self
        have q3 : RepOs K S H' vs os g := q.mono (Same.refl S) os fun a m => ⟨k a fun z => np (z ▸ m), (q.dom os a m).2⟩
        refine ⟨(p :: g') ++ g, .cons (.own e2 h2 n2 q2) q3 fun a m z => ?_, fun a m => ?_⟩
        · rcases List.mem_cons.mp m with rfl | m
          · exact np z
          · have := s2 a m (by simp [z])
            exact d a (List.mem_cons_of_mem _ this) z
        · rcases List.mem_append.mp m with m | m
          · rcases List.mem_cons.mp m with rfl | m
            · exact .inl (by simp)
            · exact .inr m
          · exact .inl (by simp [m])
  | o :: os, _, _, j + 1, cs, h, e => by
    have e' : os[j]? = some (.own cs) := by simpa using e
    cases h with
    | @cons v vs _ _ f g r q d =>
      obtain ⟨p, ws, gg, e1, h1, h2, m1, s1, n1, q1, k1⟩ := RepOs.child q e'
      refine ⟨p, ws, gg, by simpa using e1, h1, h2, List.mem_append_right _ m1, fun a m => List.mem_append_right _ (s1 a m), n1, q1, fun H' ws' cs' g' k e2 q2 n2 s2 => ?_⟩
      obtain ⟨fp', q3, s3⟩ := k1 H' ws' cs' g' k e2 q2 n2 fun a m z => s2 a m (List.mem_append_right _ z)
      have nf : ∀ a ∈ f, a ≠ p := fun a m z => d a m (z ▸ m1)
      refine ⟨f ++ fp', .cons (r.mono (Same.refl S) o fun a m => ⟨k a (nf a m), (r.dom o a m).2⟩) q3 fun a m z => ?_, fun a m => ?_⟩
      · rcases s3 a z with z | z
        · exact d a m z
        · exact d a m (s1 a (s2 a z (List.mem_append_left _ m)))
      · rcases List.mem_append.mp m with m | m
        · exact .inl (List.mem_append_left _ m)
        · exact (s3 a m).imp (List.mem_append_right _) id
theorem chAt_eq {env : Env} {i : Nat} {b : Bool} {os : List O} (h : chAt env i = some (b, os)) : env[i]? = some (some (mkO b os)) := by
  unfold chAt at h
  split at h
  · rename_i e; cases h; exact e
  · rename_i e; cases h; exact e
  · cases h
theorem ownJ_eq {os : List O} {j : Nat} {cs : List O} (h : ownJ os j = some cs) : os[j]? = some (.own cs) := by
  unfold ownJ at h
  split at h
  · rename_i e; cases h; exact e
  · cases h
def hoOf : Bool → List V → HO
  | true, vs => .lst vs
  | false, vs => .tup vs
theorem Hld.ch {K : PySem.W.Frag} {S H : Hp} {T : Addr → Prop} {σ : St} {env : Env} {φ : Nat → List Addr} (L : Hld K S H T σ env φ) {i : Nat} {b : Bool} {os : List O} (e : env[i]? = some (some (mkO b os))) :
    ∃ p vs fp, σ[i]? = some (some (.ref p)) ∧ φ i = p :: fp ∧ H p = some (hoOf b vs) ∧ S p = none ∧ p ∉ fp ∧ RepOs K S H vs os fp := by
  obtain ⟨v, e1, r⟩ := L.slot i _ e
  generalize hf : φ i = fi at r
  cases b with
  | true => cases r with
    | own h1 h2 h3 h4 => exact ⟨_, _, _, e1, rfl, h1, h2, h3, h4⟩
  | false => cases r with
    | otup h1 h2 h3 h4 => exact ⟨_, _, _, e1, rfl, h1, h2, h3, h4⟩
theorem rep_mk {K : PySem.W.Frag} {S H : Hp} {p : Addr} {b : Bool} {vs : List V} {os : List O} {fp : List Addr} (h1 : H p = some (hoOf b vs)) (h2 : S p = none) (h3 : p ∉ fp) (h4 : RepOs K S H vs os fp) : RepO K S H (.ref p) (mkO b os) (p :: fp) := by
  cases b with
  | true => exact .own h1 h2 h3 h4
  | false => exact .otup h1 h2 h3 h4
theorem hoOf_inj {b b' : Bool} {vs ws : List V} (h : hoOf b vs = hoOf b' ws) : b = b' ∧ vs = ws := by
  cases b <;> cases b' <;> cases h <;> exact ⟨rfl, rfl⟩
theorem ixN_at {xs : List V} {k : Int} {j : Nat} (h : ixN xs.length k = some j) : L2.atI xs k = xs[j]? := by
  unfold L2.atI
  rw [h]
  rfl
theorem al_ixs2 : Al X fun Y => IxR Y (fun x y H Q => rIxL X.K x y H Q ∨ rIxT X.K x y H Q) := fun s H v f _ => (ix_list (X := Alt X s H v f)).or (ix_tup (X := Alt X s H v f))
theorem ss_append1 {i : Nat} {x : Str} {p tp apos cpos : Pos} {ix : Expr} (hx : X.N[i]? = some x) (hv : Vis X.env.scope x) (hd : (x == ("__debug__" : Str)) = false) (hcd : (x == ("__classdict__" : Str)) = false) (hline : (apos.endLine == cpos.line) = true) (hp : plainIx ix = true) (hn : noStar a = true) (hi : SE X ix g) (ha : SE X a f) :
    SS X (.Expr (.Call (.Attribute (.Subscript (.Name x p) ix tp) "append" apos) [a] [] cpos) pos) (sAppend1 i g f) := by
  intro T S H σ env φ D c L hl ee k
  unfold sAppend1 at ee
  obtain ⟨⟨b0, os0⟩, e0, ee⟩ := Option.bind_eq_some_iff.mp ee
  obtain ⟨⟨r2, env1⟩, e1, ee⟩ := Option.bind_eq_some_iff.mp ee
  obtain ⟨z, e2, ee⟩ := Option.bind_eq_some_iff.mp ee
  obtain ⟨⟨b1, os1⟩, e3, ee⟩ := Option.bind_eq_some_iff.mp ee
  obtain ⟨j, e4, ee⟩ := Option.bind_eq_some_iff.mp ee
  obtain ⟨cs1, e5, ee⟩ := Option.bind_eq_some_iff.mp ee
  obtain ⟨⟨r3, env2⟩, e6, ee⟩ := Option.bind_eq_some_iff.mp ee
  obtain ⟨⟨b2, os2⟩, e7, ee⟩ := Option.bind_eq_some_iff.mp ee
  obtain ⟨cs2, e8, ee⟩ := Option.bind_eq_some_iff.mp ee
  split at ee
  · rename_i hz
    cases ee
    obtain ⟨p0, vs0, fp0, s0, g0, h0, _, _, _⟩ := L.ch (chAt_eq e0)
    refine ⟨_, ps_expr (pe_bm PySem.F.plainAttrs_list PySem.F.slot_list_append PySem.F.type_list_append mt_append (pe_ix al_ixs2.self (pe_var hx hv hd hcd) UE.pe.self (plain_of hp)) (one_arg' hn).self rfl (few1 hn) hline (star_one hn) rfl) (swap_of rfl), ?_⟩
    refine ⟨.ref p0, s0, ?_⟩
    refine hi T S H σ env φ _ r2 env1 L e1 fun iv S1 H1 φ1 f1 p1 => ?_
    have q1 := p1.rep
    rw [asInt_eq e2] at q1
    obtain ⟨p1', vs1, fp1, s1, g1, h1, n1, nf1, w1⟩ := p1.hld.ch (chAt_eq e3)
    rw [s0] at s1
    cases s1
    obtain ⟨q, ws1, gg1, c1, c2, c3, _, _, _, _, _⟩ := w1.child (ownJ_eq e5)
    have hat : L2.atI vs1 z = some (.ref q) := by
      rw [ixN_at (by rw [w1.length]; exact e4)]
      exact c1
    have rest : tyV X.K "list" (.ref q) H1 ∧ tCons (UE X a) tNil σ H1 (fun xs H2 => rAppend (.ref q) xs H2 fun _ H3 => D.nx σ H3) := by
      refine ⟨tyL c2, ?_⟩
      refine ha T S1 H1 σ env1 φ1 _ r3 env2 p1.hld e6 fun y S2 H2 φ2 f2 p2 => ?_
      obtain ⟨S3, φ3, m3, r3', d3⟩ := p2.tk
      obtain ⟨p2', vs2, fp2, s2, g2, h2, n2, nf2, w2⟩ := m3.hld.ch (chAt_eq e7)
      rw [s0] at s2
      cases s2
      have hsame : b1 = b2 ∧ vs1 = vs2 := by
        have := m3.hh p0 _ h1
        rw [h2] at this
        exact hoOf_inj (Option.some.inj this).symm
      obtain ⟨rfl, rfl⟩ := hsame
      obtain ⟨q', ws, gg, c1', c2', c3', mq, sg, nq, w3, mod⟩ := w2.child (ownJ_eq e8)
      rw [c1] at c1'
      cases c1'
      have qp : q ≠ p0 := fun z => nf2 (z ▸ mq)
      have mi : ∀ a ∈ fp2, a ∈ φ3 i := fun a m => by rw [g2]; exact List.mem_cons_of_mem _ m
      have nq2 : q ∉ f2 := fun z => (d3 q z).2 i (mi q mq)
      have r4 : RepOs X.K S3 H2 (ws ++ [y]) (cs2 ++ [(tk r3 env2).1]) (gg ++ f2) := by
        have r7 := RepOs.cons r3' RepOs.nil (fun a _ q => nomatch q)
        rw [List.append_nil] at r7
        exact w3.append r7 fun a z w => (d3 a w).2 i (mi a (sg a z))
      have nq3 : q ∉ gg ++ f2 := fun z => (List.mem_append.mp z).elim nq nq2
      have r5 : RepOs X.K S3 (upd H2 q (.lst (ws ++ [y]))) (ws ++ [y]) (cs2 ++ [(tk r3 env2).1]) (gg ++ f2) := r4.mono (Same.refl S3) _ fun a m => ⟨upd_ne fun z => nq3 (z ▸ m), (r4.dom _ a m).2⟩
      obtain ⟨fp', w4, s4⟩ := mod (upd H2 q (.lst (ws ++ [y]))) _ _ _ (fun a n => upd_ne n) upd_same r5 nq3 fun a m z => by
        rcases List.mem_append.mp m with m | m
        · exact m
        · exact absurd (mi a z) ((d3 a m).2 i)
      have np' : p0 ∉ fp' := fun z => by
        rcases s4 p0 z with z | z
        · exact nf2 z
        · rcases List.mem_append.mp z with z | z
          · exact nf2 (sg p0 z)
          · exact (d3 p0 z).2 i (by rw [g2]; exact List.mem_cons_self)
      have Tq : ¬ T q := m3.hld.fr i q (mi q mq)
      have rnew : RepO X.K S3 (upd H2 q (.lst (ws ++ [y]))) (.ref p0) (mkO b1 (os2.set j (.own (cs2 ++ [(tk r3 env2).1])))) (p0 :: fp') := rep_mk (by rw [upd_ne (Ne.symm qp)]; exact h2) n2 np' w4
      have LL := m3.hld.put (i := i) (v := .ref p0) rnew (fun a m => by
        rcases List.mem_cons.mp m with rfl | m
        · have mp : a ∈ φ3 i := by rw [g2]; exact List.mem_cons_self
          exact ⟨m3.hld.fr i a mp, fun l n w => n (m3.hld.disj l i a w mp)⟩
        · rcases s4 a m with z | z
          · exact ⟨m3.hld.fr i a (mi a z), fun l n w => n (m3.hld.disj l i a w (mi a z))⟩
          · rcases List.mem_append.mp z with z | z
            · exact ⟨m3.hld.fr i a (mi a (sg a z)), fun l n w => n (m3.hld.disj l i a w (mi a (sg a z)))⟩
            · exact ⟨(d3 a z).1, fun l _ => (d3 a z).2 l⟩) (Same.refl S3) (fun b u eb => by
          rw [upd_ne (fun z => by rw [z, c3'] at eb; cases eb)]
          exact m3.hld.same b u eb) (fun l a n m => ⟨upd_ne fun z => n (m3.hld.disj l i a m (z ▸ mi q mq)), (m3.hld.dom m).2⟩) (fun a t => by
          rw [upd_ne (fun z : a = q => Tq (z ▸ t))]
          exact m3.hld.tdom a t) (by rw [m3.hld.len]; exact (List.getElem?_eq_some_iff.mp s0).1)
      rw [set_same s0] at LL
      have st1 : SStp T S H S3 H2 := (p1.mid.st L.tdom).trans (m3.st p1.hld.tdom)
      exact ⟨q, ws, y, rfl, rfl, c2', by rw [w3.length]; exact hz, k σ S3 _ _ LL hl (st1.trans ⟨Same.refl S3, fun _ _ => rfl, fun a t => upd_ne fun z => Tq (z ▸ t)⟩)⟩
    cases b1 with
    | true => exact .inl ⟨p0, vs1, z, .ref q, rfl, rep_int q1, .of h1, hat, rest⟩
    | false => exact .inr ⟨p0, vs1, z, .ref q, rfl, rep_int q1, .of h1, hat, rest⟩
  · cases ee
theorem RepOs.split {S H : Hp} : ∀ {os1 os2 : List O} {vs : List V} {fp : List Addr}, RepOs X.K S H vs (os1 ++ os2) fp → ∃ vs1 vs2 f1 f2, vs = vs1 ++ vs2 ∧ fp = f1 ++ f2 ∧ RepOs X.K S H vs1 os1 f1 ∧ RepOs X.K S H vs2 os2 f2 ∧ ∀ a ∈ f1, a ∉ f2
  | [], os2, vs, fp, h => ⟨[], vs, [], fp, rfl, rfl, .nil, h, fun _ m => nomatch m⟩
  | o :: os1, os2, vs, fp, h => by
    cases h with
    | @cons v vs _ _ f g r q d =>
      obtain ⟨vs1, vs2, f1, f2, rfl, rfl, q1, q2, d2⟩ := RepOs.split q
      refine ⟨v :: vs1, vs2, f ++ f1, f2, rfl, by rw [List.append_assoc], .cons r q1 fun a m z => d a m (List.mem_append_left _ z), q2, fun a m z => ?_⟩
      rcases List.mem_append.mp m with m | m
      · exact d a m (List.mem_append_right _ z)
      · exact d2 a m z
theorem RepOs.one {S H : Hp} {o : O} {vs : List V} {fp : List Addr} (h : RepOs X.K S H vs [o] fp) : ∃ v, vs = [v] ∧ RepO X.K S H v o fp := by
  cases h with
  | @cons v vs _ _ f g r q d =>
    cases q
    exact ⟨v, rfl, by rw [List.append_nil]; exact r⟩
/-- the last one goes out of a list in a slot -/
theorem pop_read {T : Addr → Prop} {S H : Hp} {σ : St} {env : Env} {φ : Nat → List Addr} (L : Hld X.K S H T σ env φ) {i : Nat} {os : List O} {o : O} (e : env[i]? = some (some (.own os))) (eo : os.getLast? = some o) {Q : VK}
    (k : ∀ y H' φ' f2, Hld X.K S H' T σ (env.set i (some (.own os.dropLast))) φ' → RepO X.K S H' y o f2 → (∀ a ∈ f2, ¬ T a ∧ ∀ j, a ∉ φ' j) → SStp T S H S H' → Q y H') : tBM0 X.K "list" rPop (tVar i) σ H Q := by
  obtain ⟨p0, vs, fp, s0, g0, h0, n0, nf, q0⟩ := L.lst e
  have eos : os = os.dropLast ++ [o] := by
    have hne : os ≠ [] := by intro z; rw [z] at eo; cases eo
    have h1 := List.dropLast_concat_getLast hne
    rw [List.getLast?_eq_getLast hne] at eo
    cases eo
    exact h1.symm
  rw [eos] at q0
  obtain ⟨vs1, vs2, f1, f2, rfl, rfl, q1, q2, d2⟩ := q0.split
  obtain ⟨y, rfl, r⟩ := q2.one
  refine ⟨.ref p0, s0, tyL h0, p0, vs1 ++ [y], y, rfl, rfl, h0, ?_, ?_⟩
  · rw [List.length_append, List.length_singleton, Nat.add_sub_cancel, List.getElem?_append_right (Nat.le_refl _), Nat.sub_self]
    rfl
  · rw [List.dropLast_concat]
    have mem : ∀ a, a ∈ f1 ++ f2 → a ∈ φ i := fun a m => by rw [g0]; exact List.mem_cons_of_mem _ m
    obtain ⟨L3, s3⟩ := L.chg (ws := vs1) s0 g0 h0 n0 (fun z => nf (List.mem_append_left _ z)) q1 fun a z => ⟨L.fr i a (mem a (List.mem_append_left _ z)), fun j n w => n (L.disj j i a w (mem a (List.mem_append_left _ z)))⟩
    refine k y _ _ f2 L3 (r.mono (Same.refl S) o fun a m => ⟨upd_ne fun z => nf (z ▸ List.mem_append_right _ m), (r.dom o a m).2⟩) (fun a m => ⟨L.fr i a (mem a (List.mem_append_right _ m)), fun j z => ?_⟩) s3
    by_cases q : j = i
    · rw [if_pos q] at z
      rcases List.mem_cons.mp z with z | z
      · exact nf (z ▸ List.mem_append_right _ m)
      · exact d2 a z m
    · rw [if_neg q] at z
      exact q (L.disj j i a z (mem a (List.mem_append_right _ m)))
theorem ss_pop {i : Nat} {x : Str} {p apos cpos : Pos} (hx : X.N[i]? = some x) (hv : Vis X.env.scope x) (hd : (x == ("__debug__" : Str)) = false) (hcd : (x == ("__classdict__" : Str)) = false) (hline : (apos.endLine == cpos.line) = true) :
    SS X (.Expr (.Call (.Attribute (.Name x p) "pop" apos) [] [] cpos) pos) (sPop i) := by
  intro T S H σ env φ D c L hl ee k
  unfold sPop at ee
  obtain ⟨os, e0, ee⟩ := Option.bind_eq_some_iff.mp ee
  split at ee
  · cases ee
  · rename_i hz
    cases ee
    obtain ⟨o, eo⟩ : ∃ o, os.getLast? = some o := by
      cases h : os.getLast? with
      | none =>
        rw [List.getLast?_eq_none_iff] at h
        rw [h] at hz
        exact absurd rfl hz
      | some o => exact ⟨o, rfl⟩
    refine ⟨_, ps_expr (pe_bm0 PySem.F.plainAttrs_list PySem.F.slot_list_pop PySem.F.type_list_pop mt_pop (pe_var hx hv hd hcd) rfl hline) (swap_of rfl), ?_⟩
    exact pop_read L (slotL_eq e0) eo fun y H' φ' f2 L' r d s => k σ S H' φ' L' hl s
theorem ss_setpop {i j : Nat} {x y : Str} {p py apos cpos : Pos} (nd : X.N.Nodup) (hy : X.N[j]? = some y) (hloc : Loc X.env.scope y ∧ (X.fn y = true ∨ X.env.scope.names.lookup y = some .local)) (hx : X.N[i]? = some x) (hv : Vis X.env.scope x) (hd : (x == ("__debug__" : Str)) = false) (hcd : (x == ("__classdict__" : Str)) = false) (hline : (apos.endLine == cpos.line) = true) :
    SS X (.Assign [.Name y py] (.Call (.Attribute (.Name x p) "pop" apos) [] [] cpos) pos) (sSetPop j i) := by
  intro T S H σ env φ D c L hl ee k
  unfold sSetPop at ee
  obtain ⟨os, e0, ee⟩ := Option.bind_eq_some_iff.mp ee
  obtain ⟨o, eo, ee⟩ := Option.map_eq_some_iff.mp ee
  cases ee
  refine ⟨_, ps_set nd hy hloc.1 (pe_bm0 PySem.F.plainAttrs_list PySem.F.slot_list_pop PySem.F.type_list_pop mt_pop (pe_var hx hv hd hcd) rfl hline) (swap_of rfl) hloc.2, ?_⟩
  refine pop_read L (slotL_eq e0) eo fun z H' φ' f2 L' r d s => ?_
  have L2 := L'.put (i := j) (v := z) (o := o) (fq := f2) r (fun a m => ⟨(d a m).1, fun l _ => (d a m).2 l⟩) (Same.refl S) L'.same (fun l a _ m => ⟨rfl, (L'.dom m).2⟩) L'.tdom (by rw [L'.len, hl]; exact (List.getElem?_eq_some_iff.mp hy).1)
  exact k _ S H' _ L2 (by rw [List.length_set]; exact hl) s
theorem RepOs.set {S H : Hp} : ∀ {os : List O} {vs : List V} {fp : List Addr} {j : Nat} {v : V} {o : O} {f : List Addr}, RepOs X.K S H vs os fp → RepO X.K S H v o f → (∀ a ∈ f, a ∉ fp) → ∃ g, RepOs X.K S H (vs.set j v) (os.set j o) g ∧ ∀ a ∈ g, a ∈ fp ∨ a ∈ f
  | [], _, _, _, _, _, _, h, _, _ => by cases h; exact ⟨[], .nil, fun _ m => nomatch m⟩
  | u :: os, _, _, 0, v, o, f, h, r, d => by
    cases h with
    | cons r1 q1 d1 => exact ⟨_, .cons r q1 fun a m z => d a m (List.mem_append_right _ z), fun a m => (List.mem_append.mp m).elim .inr fun z => .inl (List.mem_append_right _ z)⟩
  | u :: os, _, _, j + 1, v, o, f, h, r, d => by
    cases h with
    | cons r1 q1 d1 =>
      obtain ⟨g, q2, s⟩ := RepOs.set (j := j) q1 r fun a m z => d a m (List.mem_append_right _ z)
      refine ⟨_, .cons r1 q2 fun a m z => ?_, fun a m => ?_⟩
      · rcases s a z with z | z
        · exact d1 a m z
        · exact d a z (List.mem_append_left _ m)
      · rcases List.mem_append.mp m with m | m
        · exact .inl (List.mem_append_left _ m)
        · exact (s a m).imp (List.mem_append_right _) id
theorem swap_sub {o i : Expr} {tp : Pos} {l : Nat} {env : PySem.Env} : swapsWithSole [.Subscript o i tp] e l env = pure false := by
  cases e <;> rfl
theorem sto_sub {o i : Expr} {tp : Pos} {env : PySem.Env} : swappedStores [.Subscript o i tp] e env = pure none := by
  cases e <;> rfl
theorem asg_sub {o i : Expr} {tp : Pos} {env : PySem.Env} (h : plainIx i = true) : ∀ v, assign (.Subscript o i tp) env v = (do
      let ov ← holding [v] (eval o env)
      let iv ← holding [v, ov] (eval i env)
      standAt tp
      holding [v, ov, iv] (setItem ov iv v)
      release [v, ov, iv] []) := by
  intro v
  cases i <;> first | rfl | (cases h)
theorem ss_store {i : Nat} {x : Str} {p tp : Pos} {ix : Expr} (hx : X.N[i]? = some x) (hv : Vis X.env.scope x) (hd : (x == ("__debug__" : Str)) = false) (hcd : (x == ("__classdict__" : Str)) = false) (hp : plainIx ix = true) (hi : SE X ix g) (ha : SE X e f) :
    SS X (.Assign [.Subscript (.Name x p) ix tp] e pos) (sStore i g f) := by
  intro T S H σ env φ D c L hl ee k
  unfold sStore at ee
  obtain ⟨⟨r1, env1⟩, e1, ee⟩ := Option.bind_eq_some_iff.mp ee
  obtain ⟨os0, e0, ee⟩ := Option.bind_eq_some_iff.mp ee
  obtain ⟨⟨r2, env2⟩, e2, ee⟩ := Option.bind_eq_some_iff.mp ee
  obtain ⟨z, e3, ee⟩ := Option.bind_eq_some_iff.mp ee
  obtain ⟨os, e4, ee⟩ := Option.bind_eq_some_iff.mp ee
  obtain ⟨j, e5, ee⟩ := Option.map_eq_some_iff.mp ee
  cases ee
  refine ⟨_, ps_asg UE.pe.self (pg_sub (pe_var hx hv hd hcd) UE.pe.self set_list (asg_sub hp)) swap_sub sto_sub rfl, ?_⟩
  refine ha T S H σ env φ _ r1 env1 L e1 fun v S1 H1 φ1 f1 p1 => ?_
  obtain ⟨S2, φ2, m2, r2', d2⟩ := p1.tk
  obtain ⟨p0, vs0, fp0, s0, g0, h0, _, _, _⟩ := m2.hld.lst (slotL_eq e0)
  refine ⟨.ref p0, s0, ?_⟩
  refine hi (fun a => T a ∨ a ∈ f1) S2 H1 σ _ φ2 _ r2 env2 (m2.hld.guard (fq := f1) (fun a m => (d2 a m).2) fun a m => (r2'.dom _ a m).1) e2 fun iv S3 H3 φ3 f3 p3 => ?_
  have q3 := p3.rep
  rw [asInt_eq e3] at q3
  have L3 : Hld X.K S3 H3 T σ env2 φ3 := p3.hld.weak fun _ t => .inl t
  obtain ⟨p2, vs, fp, s2, g2, h2, n2, nf, q2⟩ := L3.lst (slotL_eq e4)
  rw [s0] at s2
  cases s2
  have d3 : ∀ a ∈ f1, ∀ l, a ∉ φ3 l := fun a m l w => p3.hld.fr l a w (.inr m)
  have r3 : RepO X.K S3 H3 v (tk r1 env1).1 f1 := r2'.mono p3.ss _ fun a m => ⟨by
    have h1 := (r2'.dom _ a m).1
    cases q : H1 a with
    | none => exact absurd q h1
    | some u => exact p3.hh a u q, (p3.ts a (.inr m)).trans (r2'.dom _ a m).2⟩
  refine ⟨p0, vs, z, j, rfl, rep_int q3, h2, by rw [q2.length]; exact e5, ?_⟩
  obtain ⟨g3, q4, sub⟩ := q2.set (j := j) r3 fun a m w => d3 a m i (by rw [g2]; exact List.mem_cons_of_mem _ w)
  obtain ⟨L4, s4⟩ := L3.chg (ws := vs.set j v) s0 g2 h2 n2 (fun w => by
    rcases sub p0 w with w | w
    · exact nf w
    · exact d3 p0 w i (by rw [g2]; exact List.mem_cons_self)) q4 fun a w => by
      rcases sub a w with w | w
      · have mz : a ∈ φ3 i := by rw [g2]; exact List.mem_cons_of_mem _ w
        exact ⟨L3.fr i a mz, fun l n y => n (L3.disj l i a y mz)⟩
      · exact ⟨(d2 a w).1, fun l _ => d3 a w l⟩
  have sa : SStp T S H S3 H3 := (m2.st L.tdom).trans ⟨p3.ss, fun a t => p3.ts a (.inl t), fun a t => by
    have h1 := m2.hld.tdom a t
    cases q : H1 a with
    | none => exact absurd q h1
    | some u => exact p3.hh a u q⟩
  exact k σ S3 _ _ L4 hl (sa.trans s4)

/-! ### unpacking -/
def noTuple : Expr → Bool
  | .Tuple .. => false
  | _ => true
theorem swap_tup {ts : List Expr} {k0 : Nat} {tp : Pos} {l : Nat} {env : PySem.Env} : swapsWithSole [.Tuple ts k0 tp] e l env = pure false := by
  cases e <;> rfl
theorem sto_tup {ts : List Expr} {k0 : Nat} {tp : Pos} {env : PySem.Env} (h : noTuple e = true) : swappedStores [.Tuple ts k0 tp] e env = pure none := by
  cases e <;> first | rfl | (cases h)
theorem pg_either {X : Cx} {tg : Expr} {g g' : TG} (h : PG X tg g) (h' : PG X tg g') : PG X tg fun v σ H Q => g v σ H Q ∨ g' v σ H Q :=
  ⟨fun pins s σ H v u Q I r hw => hw.elim (h.run pins s σ H v u Q I r) (h'.run pins s σ H v u Q I r)⟩
theorem sto_cell {env : PySem.Env} {es vs : List Expr} {k0 k2 : Nat} {tp p2 : Pos} (h : cellOk env.scope es vs = true) : swappedStores [.Tuple es k0 tp] (.Tuple vs k2 p2) env = pure none := by
  unfold cellOk at h
  split at h
  · rename_i x px y py a b
    have hk : env.kindOf x ≠ some .local ∨ env.kindOf y ≠ some .local := by
      by_cases q : env.kindOf x = some .local
      · refine .inr fun q2 => ?_
        have l1 : locOnly env.scope x = true := by unfold locOnly; rw [show env.scope.names.lookup x = _ from q]
        have l2 : locOnly env.scope y = true := by unfold locOnly; rw [show env.scope.names.lookup y = _ from q2]
        rw [l1, l2] at h
        cases h
      · exact .inl q
    have pl : (Expr.Name x px).pos.line = px.line := rfl
    unfold swappedStores
    by_cases q1 : env.kindOf x = some .local
    · have q2 : ¬ env.kindOf y = some .local := hk.resolve_left fun z => z q1
      simp [q1, q2, pl, List.filterMap_cons]
    · by_cases q2 : env.kindOf y = some .local
      · by_cases q3 : py.line = px.line
        · simp [q1, q2, q3, pl, List.filterMap_cons]
        · simp [q1, q2, q3, pl, List.filterMap_cons]
      · simp [q1, q2, pl, List.filterMap_cons]
  · cases h
theorem ss_sets {ok : Str → Bool} {es : List Expr} {is : List Nat} {k0 : Nat} {tp : Pos} (so : StorOk X ok) (nd : X.N.Nodup) (hc : X.calm = true) (hn : namesIx X.N ok es = some is) (ht : swappedStores [.Tuple es k0 tp] e X.env = pure none) (ha : SE X e f) :
    SS X (.Assign [.Tuple es k0 tp] e pos) (sSets is f) := by
  intro T S H σ env φ D c L hl ee k
  unfold sSets at ee
  obtain ⟨⟨r1, env1⟩, e1, ee⟩ := Option.bind_eq_some_iff.mp ee
  obtain ⟨os, e2, ee⟩ := Option.bind_eq_some_iff.mp ee
  obtain ⟨env2, e3, ee⟩ := Option.map_eq_some_iff.mp ee
  cases ee
  obtain ⟨p1, p2, p3⟩ := names_pgs so nd hn
  have hlt : ∀ i ∈ is, i < X.N.length := by
    have : ∀ {es : List Expr} {is : List Nat}, namesIx X.N ok es = some is → ∀ i ∈ is, i < X.N.length := by
      intro es
      induction es with
      | nil => intro is h i m; cases h; cases m
      | cons e es ih =>
        intro is h i m
        cases e <;> try (cases h; done)
        unfold namesIx at h
        split at h
        · obtain ⟨i', e1, h⟩ := Option.bind_eq_some_iff.mp h
          obtain ⟨is', e2, rfl⟩ := Option.map_eq_some_iff.mp h
          rcases List.mem_cons.mp m with rfl | m
          · exact (List.getElem?_eq_some_iff.mp (ixOf_at e1)).1
          · exact ih e2 i m
        · cases h
    exact this hn
  refine ⟨_, ps_asg UE.pe.self (pg_either (pg_tup hc p1 p2 p3) (pg_unl hc p1 p2 p3)) swap_tup ht rfl, ?_⟩
  refine ha T S H σ env φ _ r1 env1 L e1 fun v S1 H1 φ1 f1 q1 => ?_
  obtain ⟨S2, φ2, m2, r2, d2⟩ := q1.tk
  have key : ∃ a' vs fq, v = .ref a' ∧ (SqT X.K H1 a' vs ∨ SqL X.K H1 a' vs) ∧ RepOs X.K S2 H1 vs os fq ∧ ∀ a ∈ fq, a ∈ f1 := by
    unfold unpackO at e2
    generalize (tk r1 env1).1 = o at e2 r2
    split at e2
    · cases e2
      cases r2 with
      | frz r =>
        obtain ⟨a', vs, rfl, h1, h2⟩ := rep_tup r
        exact ⟨a', vs, [], rfl, .inl (SqT.mono m2.hld.same h1), .frz h2, fun _ m => nomatch m⟩
    · cases e2
      cases r2 with
      | otup h1 h2 h3 h4 => exact ⟨_, _, _, rfl, .inl (.inl (.inl h1)), h4, fun a m => List.mem_cons_of_mem _ m⟩
    · cases e2
      cases r2 with
      | frz r =>
        obtain ⟨a', vs, rfl, h1, h2⟩ := rep_list r
        exact ⟨a', vs, [], rfl, .inr (SqL.mono m2.hld.same h1), .frz h2, fun _ m => nomatch m⟩
    · cases e2
      cases r2 with
      | own h1 h2 h3 h4 => exact ⟨_, _, _, rfl, .inr (.inl (.inl h1)), h4, fun a m => List.mem_cons_of_mem _ m⟩
    · cases e2
  obtain ⟨a', vs, fq, rfl, h1, h2, h3⟩ := key
  obtain ⟨φ3, L3⟩ := put_many m2.hld h2 (fun a m => d2 a (h3 a m)) e3 fun i m => by rw [m2.hld.len, hl]; exact hlt i m
  have hv : vs.length = is.length := by rw [h2.length]; exact (putMany_length e3).2
  have fin := k _ S2 H1 φ3 L3 (by rw [setAll_length]; exact hl) (m2.st L.tdom)
  rcases h1 with h1 | h1
  · exact .inl ⟨a', vs, rfl, h1, hv, hv, fin⟩
  · exact .inr ⟨a', vs, rfl, h1, hv, hv, fin⟩
theorem store_step {i : Nat} {x : Str} {ix : Expr} (hi : SE X ix g) {T : Addr → Prop} {S2 H1 : Hp} {σ : St} {env1 env' : Env} {φ2 : Nat → List Addr} {v : V} {o : O} {f1 : List Addr} {Q : St → Hp → Prop}
    (L : Hld X.K S2 H1 T σ env1 φ2) (r2' : RepO X.K S2 H1 v o f1) (d2 : ∀ a ∈ f1, ¬ T a ∧ ∀ l, a ∉ φ2 l) (ee : sto1 i g o env1 = some env')
    (k : ∀ S3 H3 φ3, Hld X.K S3 H3 T σ env' φ3 → SStp T S2 H1 S3 H3 → Q σ H3) : gSub (tVar i) (UE X ix) rSetL v σ H1 Q := by
  unfold sto1 at ee
  obtain ⟨os0, e0, ee⟩ := Option.bind_eq_some_iff.mp ee
  obtain ⟨⟨r2, env2⟩, e2, ee⟩ := Option.bind_eq_some_iff.mp ee
  obtain ⟨z, e3, ee⟩ := Option.bind_eq_some_iff.mp ee
  obtain ⟨os, e4, ee⟩ := Option.bind_eq_some_iff.mp ee
  obtain ⟨j, e5, ee⟩ := Option.map_eq_some_iff.mp ee
  cases ee
  obtain ⟨p0, vs0, fp0, s0, g0, h0, _, _, _⟩ := L.lst (slotL_eq e0)
  refine ⟨.ref p0, s0, ?_⟩
  refine hi (fun a => T a ∨ a ∈ f1) S2 H1 σ _ φ2 _ r2 env2 (L.guard (fq := f1) (fun a m => (d2 a m).2) fun a m => (r2'.dom _ a m).1) e2 fun iv S3 H3 φ3 f3 p3 => ?_
  have q3 := p3.rep
  rw [asInt_eq e3] at q3
  have L3 : Hld X.K S3 H3 T σ env2 φ3 := p3.hld.weak fun _ t => .inl t
  obtain ⟨p2, vs, fp, s2, g2, h2, n2, nf, q2⟩ := L3.lst (slotL_eq e4)
  rw [s0] at s2
  cases s2
  have d3 : ∀ a ∈ f1, ∀ l, a ∉ φ3 l := fun a m l w => p3.hld.fr l a w (.inr m)
  have r3 : RepO X.K S3 H3 v o f1 := r2'.mono p3.ss _ fun a m => ⟨by
    have h1 := (r2'.dom _ a m).1
    cases q : H1 a with
    | none => exact absurd q h1
    | some u => exact p3.hh a u q, (p3.ts a (.inr m)).trans (r2'.dom _ a m).2⟩
  refine ⟨p0, vs, z, j, rfl, rep_int q3, h2, by rw [q2.length]; exact e5, ?_⟩
  obtain ⟨g3, q4, sub⟩ := q2.set (j := j) r3 fun a m w => d3 a m i (by rw [g2]; exact List.mem_cons_of_mem _ w)
  obtain ⟨L4, s4⟩ := L3.chg (ws := vs.set j v) s0 g2 h2 n2 (fun w => by
    rcases sub p0 w with w | w
    · exact nf w
    · exact d3 p0 w i (by rw [g2]; exact List.mem_cons_self)) q4 fun a w => by
      rcases sub a w with w | w
      · have mz : a ∈ φ3 i := by rw [g2]; exact List.mem_cons_of_mem _ w
        exact ⟨L3.fr i a mz, fun l n y => n (L3.disj l i a y mz)⟩
      · exact ⟨(d2 a w).1, fun l _ => d3 a w l⟩
  have sa : SStp T S2 H1 S3 H3 := ⟨p3.ss, fun a t => p3.ts a (.inl t), fun a t => by
    have h1 := L.tdom a t
    cases q : H1 a with
    | none => exact absurd q h1
    | some u => exact p3.hh a u q⟩
  exact k S3 _ _ L4 (sa.trans s4)
theorem sto_subs {o1 i1 o2 i2 : Expr} {t1 t2 tp p2 : Pos} {k0 k2 : Nat} {vs : List Expr} {env : PySem.Env} : swappedStores [.Tuple [.Subscript o1 i1 t1, .Subscript o2 i2 t2] k0 tp] (.Tuple vs k2 p2) env = pure none := by
  unfold swappedStores
  simp
theorem ss_store2 {i j : Nat} {x y : Str} {px tx py ty tp : Pos} {k0 : Nat} {ix iy : Expr} {h : Ev} (hc : X.calm = true) (hx : X.N[i]? = some x) (hv : Vis X.env.scope x) (hd : (x == ("__debug__" : Str)) = false) (hcd : (x == ("__classdict__" : Str)) = false) (hp : plainIx ix = true) (hi : SE X ix g)
    (hx2 : X.N[j]? = some y) (hv2 : Vis X.env.scope y) (hd2 : (y == ("__debug__" : Str)) = false) (hcd2 : (y == ("__classdict__" : Str)) = false) (hp2 : plainIx iy = true) (hi2 : SE X iy h)
    (ht : swappedStores [.Tuple [.Subscript (.Name x px) ix tx, .Subscript (.Name y py) iy ty] k0 tp] e X.env = pure none) (ha : SE X e f) :
    SS X (.Assign [.Tuple [.Subscript (.Name x px) ix tx, .Subscript (.Name y py) iy ty] k0 tp] e pos) (sStore2 i g j h f) := by
  intro T S H σ env φ D c L hl ee k
  unfold sStore2 at ee
  obtain ⟨⟨r1, env1⟩, e1, ee⟩ := Option.bind_eq_some_iff.mp ee
  obtain ⟨os, e2, ee⟩ := Option.bind_eq_some_iff.mp ee
  split at ee <;> try (cases ee; done)
  rename_i o u
  obtain ⟨env3, e3, ee⟩ := Option.bind_eq_some_iff.mp ee
  obtain ⟨env4, e4, ee⟩ := Option.map_eq_some_iff.mp ee
  cases ee
  have pg : PGs X [.Subscript (.Name x px) ix tx, .Subscript (.Name y py) iy ty] (gCons (gSub (tVar i) (UE X ix) rSetL) (gCons (gSub (tVar j) (UE X iy) rSetL) gNil)) :=
    pgs_cons (pg_sub (pe_var hx hv hd hcd) UE.pe.self set_list (asg_sub hp)) (pgs_cons (pg_sub (pe_var hx2 hv2 hd2 hcd2) UE.pe.self set_list (asg_sub hp2)) pgs_nil)
  refine ⟨_, ps_asg UE.pe.self (pg_either (pg_tup (n := 2) hc pg) (pg_unl (n := 2) hc pg)) swap_tup ht rfl, ?_⟩
  refine ha T S H σ env φ _ r1 env1 L e1 fun v S1 H1 φ1 f1 q1 => ?_
  obtain ⟨S2, φ2, m2, r2, d2⟩ := q1.tk
  have key : ∃ a' vs fq, v = .ref a' ∧ (SqT X.K H1 a' vs ∨ SqL X.K H1 a' vs) ∧ RepOs X.K S2 H1 vs [o, u] fq ∧ ∀ a ∈ fq, a ∈ f1 := by
    unfold unpackO at e2
    generalize (tk r1 env1).1 = o' at e2 r2
    split at e2
    · cases r2 with
      | frz r =>
        obtain ⟨a', vs, rfl, h1, h2⟩ := rep_tup r
        have e2 := Option.some.inj e2
        rw [← e2]
        exact ⟨a', vs, [], rfl, .inl (SqT.mono m2.hld.same h1), .frz h2, fun _ m => nomatch m⟩
    · have e2 := Option.some.inj e2
      subst e2
      cases r2 with
      | otup h1 h2 h3 h4 => exact ⟨_, _, _, rfl, .inl (.inl (.inl h1)), h4, fun a m => List.mem_cons_of_mem _ m⟩
    · cases r2 with
      | frz r =>
        obtain ⟨a', vs, rfl, h1, h2⟩ := rep_list r
        have e2 := Option.some.inj e2
        rw [← e2]
        exact ⟨a', vs, [], rfl, .inr (SqL.mono m2.hld.same h1), .frz h2, fun _ m => nomatch m⟩
    · have e2 := Option.some.inj e2
      subst e2
      cases r2 with
      | own h1 h2 h3 h4 => exact ⟨_, _, _, rfl, .inr (.inl (.inl h1)), h4, fun a m => List.mem_cons_of_mem _ m⟩
    · cases e2
  obtain ⟨a', vs, fq, rfl, h1, h2, h3⟩ := key
  have run : ∃ v1 v2, vs = [v1, v2] ∧ gCons (gSub (tVar i) (UE X ix) rSetL) (gCons (gSub (tVar j) (UE X iy) rSetL) gNil) vs σ H1 D.nx := by
    cases h2 with
    | cons rv1 q1' dd =>
      cases q1' with
      | cons rv2 q2' dd2 =>
        cases q2' with
        | nil =>
          rename_i v1 fa v2 fb
          refine ⟨v1, v2, rfl, v1, [v2], rfl, ?_⟩
          have inb : ∀ a ∈ fb, a ∈ f1 := fun a m => h3 a (List.mem_append_right _ (List.mem_append_left _ m))
          have ina : ∀ a ∈ fa, a ∈ f1 := fun a m => h3 a (List.mem_append_left _ m)
          refine store_step (x := x) (T := fun a => T a ∨ a ∈ fb) hi (m2.hld.guard (fq := fb) (fun a m => (d2 a (inb a m)).2) fun a m => (rv2.dom _ a m).1) rv1 (fun a m => ⟨fun z => z.elim (d2 a (ina a m)).1 fun z => dd a m (List.mem_append_left _ z), (d2 a (ina a m)).2⟩) e3 fun S3 H3 φ3 L3 st3 => ?_
          refine ⟨v2, [], rfl, ?_⟩
          refine store_step (x := y) (T := T) hi2 (L3.weak fun _ t => .inl t) (rv2.mono st3.ss _ fun a m => ⟨st3.th a (.inr m), (st3.ts a (.inr m)).trans (rv2.dom _ a m).2⟩) (fun a m => ⟨(d2 a (inb a m)).1, fun l w => L3.fr l a w (.inr m)⟩) e4 fun S4 H4 φ4 L4 st4 => ?_
          exact ⟨rfl, k σ S4 H4 φ4 L4 hl ((m2.st L.tdom).trans (SStp.trans ⟨st3.ss, fun a t => st3.ts a (.inl t), fun a t => st3.th a (.inl t)⟩ st4))⟩
  obtain ⟨v1, v2, rfl, run⟩ := run
  rcases h1 with h1 | h1
  · exact .inl ⟨a', [v1, v2], rfl, h1, rfl, run⟩
  · exact .inr ⟨a', [v1, v2], rfl, h1, rfl, run⟩
theorem locOnly_of {sc : Scope} {x : Str} (h : locOnly sc x = true) : sc.names.lookup x = some .local := by
  unfold locOnly at h
  split at h
  · assumption
  · cases h
theorem fnKind_of {env : PySem.Env} (h : fnKind env.scope = true) : env.blockKind = .function := by
  unfold fnKind at h
  show (if env.scope.kind.isAnnotationScope then ScopeKind.function else env.scope.kind) = _
  split at h
  · assumption
  · cases h
theorem swapped_ok {env : PySem.Env} {x y : Str} {px py pt pt2 : Pos} {kt k2 : Nat} {a b : Expr} (h : parOk env.scope [.Name x px, .Name y py] [a, b] = true) : swappedStores [.Tuple [.Name x px, .Name y py] kt pt] (.Tuple [a, b] k2 pt2) env = pure (some [x, y]) := by
  unfold parOk at h
  simp only [Bool.and_eq_true, Bool.not_eq_true'] at h
  obtain ⟨⟨⟨⟨⟨⟨⟨⟨h1, h2⟩, h3⟩, h4⟩, h5⟩, h6⟩, h7⟩, h8⟩, h9⟩ := h
  have l1 : env.kindOf x = some .local := locOnly_of h1
  have l2 : env.kindOf y = some .local := locOnly_of h2
  have bk := fnKind_of h5
  have st : ∀ e, noStar e = true → (match e with | .Starred .. => true | _ => false) = false := fun e he => by
    cases e <;> first | rfl | (cases he)
  have s1 := st a h6
  have s2 := st b h7
  have e1 : ((y == x) = false) := by
    simp only [beq_eq_false_iff_ne, ne_eq] at h3 ⊢
    exact fun z => h3 z.symm
  have pl : (Expr.Name x px).pos.line = px.line := rfl
  have h4' : py.line = px.line := by simpa using h4
  have h3' : ¬ x = y := by simpa using h3
  unfold swappedStores
  simp [bk, h8, h9]
  rw [if_neg (by
    rintro (z | z)
    · cases a <;> first | (cases z; done) | (cases h6; done)
    · cases b <;> first | (cases z; done) | (cases h7; done))]
  simp [List.filterMap_cons, l1, l2, pl, h4', List.eraseDups, List.eraseDupsBy, List.eraseDupsBy.loop, h3', e1]
theorem ss_par {x y : Str} {px py pt pt2 : Pos} {kt k2 : Nat} {a b : Expr} {fs : List Ev} {is : List Nat} {ok : Str → Bool} (nd : X.N.Nodup) (hc : X.calm = true) (h : parOk X.env.scope [.Name x px, .Name y py] [a, b] = true) (hn : namesIx X.N ok [.Name x px, .Name y py] = some is) (hs : SA X [a, b] fs) :
    SS X (.Assign [.Tuple [.Name x px, .Name y py] kt pt] (.Tuple [a, b] k2 pt2) pos) (sPar is fs) := by
  intro T S H σ env φ D c L hl ee k
  unfold sPar at ee
  obtain ⟨⟨rs, env1⟩, e1, ee⟩ := Option.bind_eq_some_iff.mp ee
  obtain ⟨env2, e3, ee⟩ := Option.map_eq_some_iff.mp ee
  cases ee
  have hw := swapped_ok (kt := kt) (pt := pt) (k2 := k2) (pt2 := pt2) h
  unfold parOk at h
  simp only [Bool.and_eq_true, Bool.not_eq_true'] at h
  obtain ⟨⟨⟨⟨⟨⟨⟨⟨h1, h2⟩, h3⟩, h4⟩, h5⟩, h6⟩, h7⟩, h8⟩, h9⟩ := h
  have ii : ∃ i j, is = [i, j] ∧ X.N[i]? = some x ∧ X.N[j]? = some y := by
    unfold namesIx at hn
    split at hn
    · obtain ⟨i, q1, hn⟩ := Option.bind_eq_some_iff.mp hn
      obtain ⟨is', q2, rfl⟩ := Option.map_eq_some_iff.mp hn
      unfold namesIx at q2
      split at q2
      · obtain ⟨j, q3, q2⟩ := Option.bind_eq_some_iff.mp q2
        obtain ⟨is2, q4, rfl⟩ := Option.map_eq_some_iff.mp q2
        cases q4
        exact ⟨i, j, rfl, ixOf_at q1, ixOf_at q3⟩
      · cases q2
    · cases hn
  obtain ⟨i, j, rfl, hi, hj⟩ := ii
  have hij : i ≠ j := fun z => by
    subst z
    rw [hi] at hj
    cases hj
    simp at h3
  refine ⟨_, ps_par hc nd hi hj hij (locOnly_of h1) (locOnly_of h2) UA.pa.self hw, hs T S H σ env φ _ rs env1 L e1 fun vs S1 H1 φ1 fq m1 q1 d1 => ?_⟩
  obtain ⟨S2, φ2, m2, q2, le2⟩ := tks_ok m1.hld q1 d1
  have m3 := m1.trans m2
  obtain ⟨φ3, L3⟩ := put_many m2.hld q2 (fun a m => ⟨(d1 a m).1, fun i z => (d1 a m).2 i (le2 i a z)⟩) e3 fun i' m => by
    rw [m2.hld.len, hl]
    simp only [List.mem_cons, List.not_mem_nil, or_false] at m
    rcases m with rfl | rfl
    · exact (List.getElem?_eq_some_iff.mp hi).1
    · exact (List.getElem?_eq_some_iff.mp hj).1
  have hlen : vs.length = 2 := by rw [q2.length]; exact (putMany_length e3).2
  match vs, hlen with
  | [v, w], _ => exact ⟨v, w, rfl, k _ S2 H1 φ3 L3 (by simp; exact hl) (m3.st L.tdom)⟩
theorem ss_expr (hn : noComp e = true) (ha : SE X e f) : SS X (.Expr e pos) (sExpr f) := by
  intro T S H σ env φ D c L hl ee k
  unfold sExpr at ee
  obtain ⟨⟨r1, env1⟩, e1, ee⟩ := Option.map_eq_some_iff.mp ee
  cases ee
  exact ⟨_, ps_expr UE.pe.self (swap_of hn), ha T S H σ env φ _ r1 env1 L e1 fun v S1 H1 φ1 f1 p => k σ S1 H1 φ1 p.hld hl (p.mid.st L.tdom)⟩

/-! ### loops -/
theorem ss_for {tg it : Expr} {body : List Stmt} {t : Tgt} {fi : Itw} {fb : Stm} (hp : PassesOwn (model X.prog X.w) X.A X.env X.xe) (hc : X.calm = true) (hs : noSet it = true) (hi : SI X it fi) (hg : SG X tg t) (hb : SB X body fb) :
    SS X (.For tg it body [] pos) (sFor t fi fb) := by
  intro T S H σ env φ D c L hl ee k
  unfold sFor at ee
  obtain ⟨⟨ds, env1⟩, e1, ee⟩ := Option.bind_eq_some_iff.mp ee
  refine ⟨_, ps_for hp hc UI.pi.self UG.pg.self UB.pss (fold_of hs), ?_⟩
  refine hi tg T S H σ env φ _ ds env1 L e1 fun J vI S1 H1 φ1 m1 q1 wk => ?_
  have k1 := k.step (m1.st L.tdom)
  let W : Nat → Nat → St → Hp → Prop := fun i m σ' Hc => m = vI.length - i ∧ i ≤ vI.length ∧ ∃ (S' : Hp) (en : Env) (φ' : Nat → List Addr), Hld X.K S' Hc T σ' en φ' ∧ σ'.length = X.N.length ∧ SStp T S1 H1 S' Hc ∧ forGo t fb (ds.drop i) en = some c
  refine ⟨W, ⟨vI.length, by omega, Nat.zero_le _, S1, env1, φ1, m1.hld, hl, .refl, ee⟩, ?_⟩
  rintro i m σ' Hc ⟨hm, hi', S', en, φ', Lc, hl', st, go⟩
  have sc : Same S1 Hc := st.ss.trans Lc.same
  by_cases hlt : i < vI.length
  · refine .inr ⟨wk.go i Hc sc hlt, W (i + 1) (vI.length - (i + 1)), fun σ2 H' z => ⟨vI.length - (i + 1), by omega, z⟩, fun x H' y => ?_⟩
    obtain ⟨rfl, ex⟩ := wk.yld i Hc x H' sc hlt y
    have hid : i < ds.length := by rw [← q1.length]; exact hlt
    obtain ⟨x', ex', rx⟩ := q1.get (List.getElem?_eq_getElem hid)
    rw [ex] at ex'
    cases ex'
    rw [List.drop_eq_getElem_cons hid] at go
    obtain ⟨w1, g1, go⟩ := Option.bind_eq_some_iff.mp go
    obtain ⟨c1, g2, go⟩ := Option.bind_eq_some_iff.mp go
    refine hg.2 T S' H' σ' en φ' x _ w1 _ Lc (rx.mono st.ss) g1 (fun j mj => by rw [Lc.len, hl']; exact hg.1 j mj) fun σ2 φ2 L2 l2 o2 oe2 => ?_
    refine hb T S' H' σ2 w1 φ2 _ c1 L2 (l2.trans hl') g2 ?_
    have again : ∀ (e2 : Env), forGo t fb (ds.drop (i + 1)) e2 = some c → ∀ σ3 S3 H3 φ3, Hld X.K S3 H3 T σ3 e2 φ3 → σ3.length = X.N.length → SStp T S' H' S3 H3 → W (i + 1) (vI.length - (i + 1)) σ3 H3 := fun e2 g3 σ3 S3 H3 φ3 L3 l3 s3 => ⟨rfl, by omega, S3, e2, φ3, L3, l3, st.trans s3, g3⟩
    cases c1 with
    | next e2 => exact again e2 go
    | cont e2 => exact again e2 go
    | brk e2 =>
      cases go
      exact fun σ3 S3 H3 φ3 L3 l3 s3 => k1 σ3 S3 H3 φ3 L3 l3 (st.trans s3)
    | ret o =>
      cases go
      exact fun v S3 H3 fq r sh d s3 => k1 v S3 H3 fq r sh d (st.trans s3)
  · refine .inl ⟨wk.stop i Hc sc (by omega), ?_⟩
    have hid : ds.length ≤ i := by rw [← q1.length]; omega
    rw [List.drop_eq_nil_of_le hid] at go
    cases go
    exact k1 σ' S' Hc φ' Lc hl' st
theorem ss_while {c : Expr} {body : List Stmt} {t : Tst} {fb : Stm} (hp : PassesOwn (model X.prog X.w) X.A X.env X.xe) (hc : ST X c t) (hb : SB X body fb) : SS X (.While c body [] pos) (sWhile t fb) := by
  intro T S H σ env φ D cc L hl ee k
  unfold sWhile at ee
  refine ⟨_, ps_while hp UT.pt.self UB.pss, ?_⟩
  let W : Nat → St → Hp → Prop := fun m σ' Hc => ∃ (S' : Hp) (en : Env) (φ' : Nat → List Addr), Hld X.K S' Hc T σ' en φ' ∧ σ'.length = X.N.length ∧ SStp T S H S' Hc ∧ whileGo t fb m en = some cc
  refine ⟨W, ⟨fuelW, S, env, φ, L, hl, .refl, ee⟩, ?_⟩
  rintro m σ' Hc ⟨S', en, φ', Lc, hl', st, go⟩
  cases m with
  | zero => cases go
  | succ m =>
    unfold whileGo at go
    obtain ⟨⟨b, e1⟩, g1, go⟩ := Option.bind_eq_some_iff.mp go
    refine hc T S' Hc σ' en φ' _ b e1 Lc g1 fun S1 H1 φ1 m1 => ?_
    have s1 := st.trans (m1.st Lc.tdom)
    cases b with
    | false =>
      cases go
      exact iteF (k σ' S1 H1 φ1 m1.hld hl' s1)
    | true =>
      obtain ⟨c1, g2, go⟩ := Option.bind_eq_some_iff.mp go
      refine iteT ⟨W m, fun σ2 H' z => ⟨m, Nat.lt_succ_self m, z⟩, ?_⟩
      refine hb T S1 H1 σ' e1 φ1 _ c1 m1.hld hl' g2 ?_
      cases c1 with
      | next e2 => exact fun σ3 S3 H3 φ3 L3 l3 s3 => ⟨S3, e2, φ3, L3, l3, s1.trans s3, go⟩
      | cont e2 => exact fun σ3 S3 H3 φ3 L3 l3 s3 => ⟨S3, e2, φ3, L3, l3, s1.trans s3, go⟩
      | brk e2 =>
        cases go
        exact fun σ3 S3 H3 φ3 L3 l3 s3 => k σ3 S3 H3 φ3 L3 l3 (s1.trans s3)
      | ret o =>
        cases go
        exact fun v S3 H3 fq r sh d s3 => k v S3 H3 fq r sh d (s1.trans s3)
end
end PY
set_option maxHeartbeats 1000000
/-! PyS4: a loop that changes the items of a fresh list. -/
namespace PY
open PySem L2
section
variable {X : Cx} {pos : Pos} {a e : Expr} {f g : Ev} {st : Stmt}
theorem ap_append {i : Nat} {x : Str} {p apos cpos : Pos} (hx : X.N[i]? = some x) (hv : Vis X.env.scope x) (hd : (x == ("__debug__" : Str)) = false) (hcd : (x == ("__classdict__" : Str)) = false) (hline : (apos.endLine == cpos.line) = true) (hn : noStar a = true) (ha : SE X a f)
    (T : Addr → Prop) (S H : Hp) (σ : St) (env : Env) (φ : Nat → List Addr) (D : Ends) (c : Ctl) (L : Hld X.K S H T σ env φ) (ee : sAppend i f env = some c) (k : ∀ S' H' φ' env', c = .next env' → Hld X.K S' H' T σ env' φ' → SStp T S H S' H' → D.nx σ H') :
    US X (.Expr (.Call (.Attribute (.Name x p) "append" apos) [a] [] cpos) pos) D σ H := by
  unfold sAppend at ee
  obtain ⟨os0, e0, ee⟩ := Option.bind_eq_some_iff.mp ee
  obtain ⟨⟨r1, env1⟩, e1, ee⟩ := Option.bind_eq_some_iff.mp ee
  obtain ⟨os, e2, ee⟩ := Option.bind_eq_some_iff.mp ee
  split at ee
  · rename_i hz
    cases ee
    obtain ⟨p0, vs0, fp0, s0, g0, h0, _, _, _⟩ := L.lst (slotL_eq e0)
    refine ⟨_, ps_expr (pe_bm PySem.F.plainAttrs_list PySem.F.slot_list_append PySem.F.type_list_append mt_append (pe_var hx hv hd hcd) (one_arg' hn).self rfl (few1 hn) hline (star_one hn) rfl) (swap_of rfl), ?_⟩
    refine ⟨.ref p0, s0, tyL h0, ?_⟩
    refine ha T S H σ env φ _ r1 env1 L e1 fun y S1 H1 φ1 f1 p1 => ?_
    obtain ⟨S2, φ2, m2, r2, d2⟩ := p1.tk
    obtain ⟨p2, vs, fp, s2, g2, h2, n2, nf, q2⟩ := m2.hld.lst (slotL_eq e2)
    rw [s0] at s2
    cases s2
    refine ⟨p0, vs, y, rfl, rfl, h2, by rw [q2.length]; exact hz, ?_⟩
    have q3 : RepOs X.K S2 H1 (vs ++ [y]) (os ++ [(tk r1 env1).1]) (fp ++ f1) := by
      have r7 := RepOs.cons r2 RepOs.nil (fun a _ q => nomatch q)
      rw [List.append_nil] at r7
      exact q2.append r7 fun a z q => (d2 a q).2 i (by rw [g2]; exact List.mem_cons_of_mem _ z)
    obtain ⟨L3, s3⟩ := m2.hld.chg (ws := vs ++ [y]) s0 g2 h2 n2 (fun z => by
      rcases List.mem_append.mp z with z | z
      · exact nf z
      · exact (d2 p0 z).2 i (by rw [g2]; exact List.mem_cons_self)) q3 fun a z => by
        rcases List.mem_append.mp z with z | z
        · have mz : a ∈ φ2 i := by rw [g2]; exact List.mem_cons_of_mem _ z
          exact ⟨m2.hld.fr i a mz, fun j n w => n (m2.hld.disj j i a w mz)⟩
        · exact ⟨(d2 a z).1, fun j _ => (d2 a z).2 j⟩
    exact k S2 _ _ _ rfl L3 ((m2.st L.tdom).trans s3)
  · cases ee
theorem al_catR : Al X fun Y => OpR Y (binaryOp .Add) (rCatR X.K) := fun s H v f _ => op_catR (X := Alt X s H v f)
theorem ss_retAdd {i : Nat} {x : Str} {px pb : Pos} (hx : X.N[i]? = some x) (hv : Vis X.env.scope x) (hd : (x == ("__debug__" : Str)) = false) (hcd : (x == ("__classdict__" : Str)) = false) (ha : SE X a f) :
    SS X (.Return (some (.BinOp (.Name x px) .Add a pb)) pos) (sRetAdd i f) := by
  intro T S H σ env φ D c L hl e k
  unfold sRetAdd at e
  split at e
  · rename_i os0 hs0
    obtain ⟨⟨r2, env2⟩, e2, e⟩ := Option.bind_eq_some_iff.mp e
    obtain ⟨os, hs, e⟩ := Option.bind_eq_some_iff.mp e
    have ex : ∃ os2, r2 = .own (.own os2) ∧ (if os.length + os2.length ≤ sizeLine then some (Ctl.ret (.own (os ++ os2))) else none) = some c := by
      cases r2 with
      | frz d => cases e
      | bor j d => cases e
      | own o =>
        cases o with
        | frz d => cases e
        | otup os2 => cases e
        | own os2 => exact ⟨os2, rfl, e⟩
    obtain ⟨os2, hr2, e9⟩ := ex
    clear e
    subst hr2
    · by_cases hz : os.length + os2.length ≤ sizeLine
      · rw [if_pos hz] at e9
        injection e9 with e9
        subst e9
        have e1 : eName i env = some (.bor i (O.d (.own os0)), env) := by
          unfold eName
          rw [slotL_eq hs0]
        refine ⟨_, ps_ret UE.pe.self, ?_⟩
        refine ⟨_, fun s0 H0 v0 f0 qq => pe_op (al_catR s0 H0 v0 f0 qq) (UE.pe s0 H0 v0 f0 qq) (UE.pe s0 H0 v0 f0 qq), two (se_name hx hv hd hcd) ha L e1 e2 fun v w S' H' φ' f1 f2 p => ?_⟩
        obtain ⟨_, q1, _⟩ := p.rr1
        obtain ⟨p0, vs, fp, s1, g1, h1, n1, nf1, w1⟩ := p.mid.hld.lst (slotL_eq hs)
        rw [q1] at s1
        cases s1
        have rr2 : RepO X.K S' H' w (.own os2) f2 := p.rr2
        have dq2 := p.dq2
        cases rr2 with
        | own h2 n2 nf2 w2 =>
          rename_i p2 ws fq2
          refine ⟨p0, p2, vs, ws, rfl, rfl, .inl (.inl h1), .inl (.inl h2), by rw [w1.length, w2.length]; exact hz, fun pp hp => ?_⟩
          have sp : S' pp = none := by
            cases z : S' pp with
            | none => rfl
            | some u => rw [p.mid.hld.same pp u z] at hp; cases hp
          have w3 := w1.append w2 fun b z y => (dq2 b (List.mem_cons_of_mem _ y)).2 i (by rw [g1]; exact List.mem_cons_of_mem _ z)
          have np : pp ∉ fp ++ fq2 := fun z => (w3.dom _ pp z).1 hp
          have hh : Same H' (upd H' pp (.lst (vs ++ ws))) := fun b u z => by rw [upd_ne (ne_of_none z hp)]; exact z
          have w4 : RepOs X.K S' (upd H' pp (.lst (vs ++ ws))) (vs ++ ws) (os ++ os2) (fp ++ fq2) := w3.mono (Same.refl S') _ fun b z => ⟨upd_ne fun y => np (y ▸ z), (w3.dom _ b z).2⟩
          have st := p.mid.st L.tdom
          refine k (.ref pp) S' _ (pp :: (fp ++ fq2)) (.own upd_same sp np w4) (p.mid.hld.same.trans hh) (fun b z t => ?_) (st.trans ⟨Same.refl S', fun _ _ => rfl, fun b t => upd_ne fun z => p.mid.hld.tdom b t (z ▸ hp)⟩)
          rcases List.mem_cons.mp z with rfl | z
          · exact p.mid.hld.tdom _ t hp
          · rcases List.mem_append.mp z with z | z
            · exact p.mid.hld.fr i b (by rw [g1]; exact List.mem_cons_of_mem _ z) t
            · exact (dq2 b (List.mem_cons_of_mem _ z)).1 t
      · rw [if_neg hz] at e9
        cases e9
  · exact ss_ret (se_bin (se_name hx hv hd hcd) ha) T S H σ env φ D c L hl e k
theorem pickGo_len : ∀ {os : List O} {w : Env} {n : Nat} {t : Tst} {r : List O}, pickGo n t os w = some r → r.length ≤ os.length
  | [], _, _, _, _, h => by cases h; exact Nat.le_refl _
  | o :: os, w, n, t, r, h => by
    obtain ⟨b, h1, h⟩ := Option.bind_eq_some_iff.mp h
    obtain ⟨r', h2, rfl⟩ := Option.map_eq_some_iff.mp h
    have := pickGo_len h2
    split <;> simp <;> omega
theorem Reps.at {K : PySem.W.Frag} {H : Hp} {vs : List V} {os : List O} (q : Reps K H vs (O.ds os)) {i : Nat} {o : O} (h : os[i]? = some o) : ∃ v, vs[i]? = some v ∧ Rep K H v o.d := by
  have : (O.ds os)[i]? = some o.d := by rw [O.ds_map, List.getElem?_map, h]; rfl
  exact q.get this
theorem lc_pick {ifs : List Expr} {scope : Scope} {n m : Nat} {tst : Tst} (ht : SF (Blk X scope) ifs tst) {T : Addr → Prop} {S H : Hp} {σ : St} {env : Env} {φ : Nat → List Addr} (L : Hld X.K S H T σ env φ) {p : Addr} {vs : List V} {os r : List O}
    (hs : σ[m]? = some (some (.ref p))) (hv : H p = some (.lst vs)) (hr : Reps X.K H vs (O.ds os)) (hn : n < env.length) (hz : os.length ≤ sizeLine) (e1 : pickGo n tst os ((frzAll env).set n none) = some r) {Q : VK}
    (k : ∀ D H' ws, H' D = some (.lst ws) → H D = none → Same H H' → ws.length = r.length → (∀ i : Nat, i < ws.length → ∃ j : Nat, vs[j]? = ws[i]? ∧ os[j]? = r[i]?) → Q (.ref D) H') :
    tLc (iList X.K (tVar m)) (gName n) (UF (Blk X scope) ifs) (tVar n) [n] σ H Q := by
  have hvo : vs.length = os.length := by rw [hr.length, O.ds_map, List.length_map]
  refine ⟨.ref p, hs, p, rfl, ⟨vs, .inl (.inl hv)⟩, ?_⟩
  intro D hD
  have L0 := frzAll_hld L
  let W : Nat → Nat → Hp → Prop := fun i mm Hc => mm = vs.length - i ∧ i ≤ vs.length ∧ ∃ (S' : Hp) (w : Env) (φ' : Nat → List Addr) (accv : List V) (racc rest : List O),
    Hld X.K S' Hc (fun a => H a ≠ none ∨ a = D) (wipe σ [n]) w φ' ∧ Hc D = some (.lst accv) ∧ S' D = none ∧ Same H S' ∧ Same H Hc ∧ w.length = env.length ∧ pickGo n tst (os.drop i) w = some rest ∧ racc ++ rest = r ∧ accv.length = racc.length ∧ accv.length ≤ i ∧
      (∀ l : Nat, l < accv.length → ∃ j : Nat, vs[j]? = accv[l]? ∧ os[j]? = racc[l]?)
  have hh0 : Same H (upd H D (.lst [])) := fun b u e => by rw [upd_ne (ne_of_none e hD)]; exact e
  refine ⟨W, ⟨vs.length, by omega, Nat.zero_le _, ?_⟩, ?_⟩
  · have L1 := (L0.grow (Same.refl H) hh0 hh0 fun i a z => nomatch z).drop n (x := none)
    have L2 : Hld X.K H (upd H D (.lst [])) (fun a => H a ≠ none ∨ a = D) (wipe σ [n]) ((frzAll env).set n none) (fun j => if j = n then [] else []) := by
      refine ⟨L1.same, L1.len, L1.slot, L1.nil, L1.disj, fun i a z => ?_, fun a z => ?_⟩
      · split at z <;> cases z
      · rcases z with z | z
        · exact L1.tdom a z
        · rw [z, upd_same]; exact fun q => nomatch q
    exact ⟨H, _, _, [], [], r, L2, upd_same, hD, Same.refl H, hh0, by rw [List.length_set]; exact List.length_map .., e1, rfl, rfl, Nat.le_refl _, fun l z => nomatch z⟩
  · rintro i mm Hc ⟨hm, hi', S', w, φ', accv, racc, rest, Lc, eD, sD, ss, hh, wl, go, ge, al, ai, ar⟩
    have sq : SqL X.K Hc p vs := .inl (.inl (hh p _ hv))
    by_cases hlt : i < vs.length
    · refine .inr ⟨⟨vs, vs[i], sq, List.getElem?_eq_getElem hlt⟩, W (i + 1) (vs.length - (i + 1)), fun H' z => ⟨vs.length - (i + 1), by omega, z⟩, fun x H' y => ?_⟩
      obtain ⟨rfl, ex⟩ := y
      have ex := ex vs sq
      have hio : i < os.length := by omega
      obtain ⟨x', ex', rx⟩ := hr.at (List.getElem?_eq_getElem hio)
      rw [ex] at ex'
      cases ex'
      rw [List.drop_eq_getElem_cons hio] at go
      obtain ⟨⟨b, w2⟩, g2, go⟩ := Option.bind_eq_some_iff.mp go
      obtain ⟨rest', g3, ger⟩ := Option.map_eq_some_iff.mp go
      have hnw : n < w.length := by rw [wl]; exact hn
      have P := Lc.put (i := n) (v := x) (o := .frz os[i].d) (fq := []) (.frz (rx.mono ss _)) (fun _ z => nomatch z) (Same.refl S') Lc.same (fun j a _ z => ⟨rfl, (Lc.dom z).2⟩) Lc.tdom hnw
      have hnσ : n < (wipe σ [n]).length := by rw [← Lc.len]; exact hnw
      have ws : wipe ((wipe σ [n]).set n (some x)) [n] = wipe σ [n] := (wipe_eq List.length_set fun j z => List.getElem?_set_ne fun q => z (by rw [← q]; exact List.mem_cons_self)).trans wipe_wipe
      refine ⟨ws, ?_⟩
      refine ht _ S' H' _ _ _ _ b w2 P g2 fun S3 H3 φ3 m3 => ?_
      have L6 := m3.hld.drop n (x := none)
      have e6 : ((wipe σ [n]).set n (some x)).set n none = wipe σ [n] := ws
      rw [e6] at L6
      have w2l : w2.length = env.length := by rw [m3.le.1, List.length_set]; exact wl
      cases b with
      | true =>
        have ger : os[i] :: rest' = rest := ger
        refine iteT ⟨x, List.getElem?_set_self hnσ, accv, m3.hh D _ eD, by omega, rfl, by omega, ?_⟩
        have L7 := L6.touch (p := D) (o := .lst (accv ++ [x])) (.inr rfl) ((m3.ts D (.inr rfl)).trans sD)
        refine ⟨S3, _, _, accv ++ [x], racc ++ [os[i]], rest', L7, upd_same, (m3.ts D (.inr rfl)).trans sD, ss.trans m3.ss, fun c u e => ?_, by rw [List.length_set]; exact w2l, g3, by rw [← ge, ← ger]; simp, by simp [al], by simp; omega, fun l hl => ?_⟩
        · rw [upd_ne (ne_of_none e hD)]
          exact m3.hh c u (hh c u e)
        · by_cases q : l < accv.length
          · obtain ⟨j, j1, j2⟩ := ar l q
            exact ⟨j, by rw [List.getElem?_append_left q]; exact j1, by rw [List.getElem?_append_left (by omega)]; exact j2⟩
          · have : l = accv.length := by simp at hl; omega
            subst this
            refine ⟨i, by rw [ex]; simp, ?_⟩
            rw [List.getElem?_eq_getElem hio, al]
            simp
      | false =>
        have ger : rest' = rest := ger
        exact iteF ⟨rfl, by omega, S3, _, _, accv, racc, rest', L6, m3.hh D _ eD, (m3.ts D (.inr rfl)).trans sD, ss.trans m3.ss, fun c u e => m3.hh c u (hh c u e), by rw [List.length_set]; exact w2l, g3, by rw [ger]; exact ge, al, by omega, ar⟩
    · refine .inl ⟨⟨vs, sq, by omega⟩, ?_⟩
      rw [List.drop_eq_nil_of_le (by omega)] at go
      cases go
      rw [List.append_nil] at ge
      subst ge
      exact k D Hc accv eD hD hh al ar
theorem ss_retPick {ifs : List Expr} {scope : Scope} {n m : Nat} {tst : Tst} {x y : Str} {px pt py pl p0 pb : Pos} {k0 : Nat} (hc : X.calm = true) (nd : X.N.Nodup) (ok : BlkOk X.N X.env.scope scope [(x, n)]) (hx : X.N[n]? = some x) (hy : X.N[m]? = some y)
    (hvy : Vis X.env.scope y) (dy1 : (y == ("__debug__" : Str)) = false) (dy2 : (y == ("__classdict__" : Str)) = false) (hvx : Vis (relS scope X.env.scope) x) (dx1 : (x == ("__debug__" : Str)) = false) (dx2 : (x == ("__classdict__" : Str)) = false)
    {okn : Str → Bool} (so : StorOk (Blk X scope) okn) (hok : okn x = true) (ht : SF (Blk X scope) ifs tst)
    (hf : SE X (.Subscript (.ListComp (.Name x px) [⟨.Name x pt, .Name y py, ifs, 0⟩] scope pl) (.Constant (.int 0) k0 p0) pb) f) :
    SS X (.Return (some (.Subscript (.ListComp (.Name x px) [⟨.Name x pt, .Name y py, ifs, 0⟩] scope pl) (.Constant (.int 0) k0 p0) pb)) pos) (sRetPick n m tst f) := by
  intro T S H σ env φ D c L hl e k
  unfold sRetPick at e
  split at e
  · rename_i os hs0
    split at e
    · rename_i hnz
      obtain ⟨r, e1, e⟩ := Option.bind_eq_some_iff.mp e
      obtain ⟨o, e2, e⟩ := Option.map_eq_some_iff.mp e
      subst e
      obtain ⟨p, vs, fp, s0, g0, h0, n0, nf, q0⟩ := L.lst (slotL_eq hs0)
      have hr : Reps X.K H vs (O.ds os) := RepOs.rep L.same os q0 fun _ _ => rfl
      refine ⟨_, ps_ret UE.pe.self, ?_⟩
      refine ⟨_, fun s1 H1 v1 f1 qq => pe_ix (al_ixl s1 H1 v1 f1 qq) (UE.pe s1 H1 v1 f1 qq) (pe_int) (plain_of rfl), ?_⟩
      have hpg : Al (Blk X scope) fun Y => PG Y (.Name x pt) (gName n) := fun s2 H2 v2 f2 q2 => pg_name nd hx (so_alt so s2 H2 v2 f2 q2 x hok).1 (so_alt so s2 H2 v2 f2 q2 x hok).2
      have hpe : Al (Blk X scope) fun Y => PE Y (.Name x px) (tVar n) := fun s2 H2 v2 f2 q2 => pe_var hx (by
        have q2 : v2.scope = relS scope X.env.scope := q2
        show Vis v2.scope x
        rw [q2]
        exact hvx) dx1 dx2
      have hpi : Al X fun Y => PI Y (.Name x pt) (.Name y py) (iList X.K (tVar m)) := fun s2 H2 v2 f2 q2 => pi_list (X := Alt X s2 H2 v2 f2) (pe_var hy (by
        show Vis v2.scope y
        rw [q2]
        exact hvy) dy1 dy2)
      refine ⟨tLc (iList X.K (tVar m)) (gName n) (UF (Blk X scope) ifs) (tVar n) [n], fun s1 H1 v1 f1 qq => pe_lc (X := Alt X s1 H1 v1 f1) hc nd (hpi s1 H1 v1 f1 qq) (own := [(x, n)]) (by
          show BlkOk X.N v1.scope scope [(x, n)]
          rw [qq]
          exact ok) (blk_al hpg s1 H1 v1 f1 qq) (blk_al UF.pts s1 H1 v1 f1 qq) (blk_al hpe s1 H1 v1 f1 qq) (fold_of rfl), ?_⟩
      refine lc_pick ht L s0 h0 hr hnz.1 hnz.2 e1 fun D' H' ws eD hD hh wl wr => ?_
      have hrl : 0 < r.length := by
        cases r with
        | nil => cases e2
        | cons a b => simp
      have e3 : r[0]? = some o := by rw [← List.head?_eq_getElem?]; exact e2
      obtain ⟨j, j1, j2⟩ := wr 0 (by omega)
      rw [e3] at j2
      obtain ⟨v, f, f1, f2, f3⟩ := RepOs.getO q0 j2
      rw [f1] at j1
      refine ⟨D', ws, 0, v, rfl, rfl, .inl (.inl eD), ?_, ?_⟩
      · exact L2.atI_nat (j := 0) j1.symm
      · refine k v S H' f (f2.mono (Same.refl S) o fun a z => ⟨?_, (f2.dom o a z).2⟩) (L.same.trans hh) (fun a z => L.fr m a (by rw [g0]; exact List.mem_cons_of_mem _ (f3 a z))) ⟨Same.refl S, fun _ _ => rfl, fun a t => ?_⟩
        · cases q : H a with
          | none => exact absurd q (f2.dom o a z).1
          | some u => exact hh a u q
        · cases q : H a with
          | none => exact absurd q (L.tdom a t)
          | some u => exact hh a u q
    · cases e
  · exact ss_ret hf T S H σ env φ D c L hl e k
theorem lc_pickK {ifs : List Expr} {scope : Scope} {n : Nat} {tst : Tst} (ht : SF (Blk X scope) ifs tst) {T : Addr → Prop} {S H : Hp} {σ : St} {env : Env} {φ : Nat → List Addr} (L : Hld X.K S H T σ env φ) {p : Addr} {vs : List V} {os r : List O} {fq : List Addr}
    (hv : H p = some (.lst vs)) (q0 : RepOs X.K S H vs os fq) (hn : n < env.length) (hz : os.length ≤ sizeLine) (e1 : pickGo n tst os ((frzAll env).set n none) = some r) {Q : VK}
    (k : ∀ D H' ws fd, H' D = some (.lst ws) → H D = none → Same H H' → RepOs X.K S H ws r fd → (∀ a ∈ fd, a ∈ fq) → Q (.ref D) H') :
    tLc (fun σ' H' R => σ' = σ → H' = H → R (Itl X.K p) H) (gName n) (UF (Blk X scope) ifs) (tVar n) [n] σ H Q := by
  have hr : Reps X.K H vs (O.ds os) := RepOs.rep L.same os q0 fun _ _ => rfl
  have hvo : vs.length = os.length := q0.length
  intro _ _ D hD
  have L0 := frzAll_hld L
  let W : Nat → Nat → Hp → Prop := fun i mm Hc => mm = vs.length - i ∧ i ≤ vs.length ∧ ∃ (S' : Hp) (w : Env) (φ' : Nat → List Addr) (accv : List V) (racc rest : List O) (fd fr : List Addr),
    Hld X.K S' Hc (fun a => H a ≠ none ∨ a = D) (wipe σ [n]) w φ' ∧ Hc D = some (.lst accv) ∧ S' D = none ∧ Same H S' ∧ Same H Hc ∧ w.length = env.length ∧ pickGo n tst (os.drop i) w = some rest ∧ racc ++ rest = r ∧ accv.length = racc.length ∧ accv.length ≤ i ∧
      RepOs X.K S H accv racc fd ∧ RepOs X.K S H (vs.drop i) (os.drop i) fr ∧ (∀ a ∈ fd, a ∉ fr) ∧ (∀ a ∈ fd, a ∈ fq) ∧ (∀ a ∈ fr, a ∈ fq)
  have hh0 : Same H (upd H D (.lst [])) := fun b u e => by rw [upd_ne (ne_of_none e hD)]; exact e
  refine ⟨W, ⟨vs.length, by omega, Nat.zero_le _, ?_⟩, ?_⟩
  · have L1 := (L0.grow (Same.refl H) hh0 hh0 fun i a z => nomatch z).drop n (x := none)
    have L2 : Hld X.K H (upd H D (.lst [])) (fun a => H a ≠ none ∨ a = D) (wipe σ [n]) ((frzAll env).set n none) (fun j => if j = n then [] else []) := by
      refine ⟨L1.same, L1.len, L1.slot, L1.nil, L1.disj, fun i a z => ?_, fun a z => ?_⟩
      · split at z <;> cases z
      · rcases z with z | z
        · exact L1.tdom a z
        · rw [z, upd_same]; exact fun q => nomatch q
    exact ⟨H, _, _, [], [], r, [], fq, L2, upd_same, hD, Same.refl H, hh0, by rw [List.length_set]; exact List.length_map .., e1, rfl, rfl, Nat.le_refl _, .nil, q0, (fun _ z => nomatch z), (fun _ z => nomatch z), fun _ z => z⟩
  · rintro i mm Hc ⟨hm, hi', S', w, φ', accv, racc, rest, fd, fr, Lc, eD, sD, ss, hh, wl, go, ge, al, ai, qd, qr, dfr, dq, rq⟩
    have sq : SqL X.K Hc p vs := .inl (.inl (hh p _ hv))
    by_cases hlt : i < vs.length
    · refine .inr ⟨⟨vs, vs[i], sq, List.getElem?_eq_getElem hlt⟩, W (i + 1) (vs.length - (i + 1)), fun H' z => ⟨vs.length - (i + 1), by omega, z⟩, fun x H' y => ?_⟩
      obtain ⟨rfl, ex⟩ := y
      have ex := ex vs sq
      have hio : i < os.length := by omega
      obtain ⟨x', ex', rx⟩ := hr.at (List.getElem?_eq_getElem hio)
      rw [ex] at ex'
      cases ex'
      have ex2 : vs[i] = x := by rw [List.getElem?_eq_getElem hlt] at ex; exact Option.some.inj ex
      rw [List.drop_eq_getElem_cons hio] at go
      obtain ⟨⟨b, w2⟩, g2, go⟩ := Option.bind_eq_some_iff.mp go
      obtain ⟨rest', g3, ger⟩ := Option.map_eq_some_iff.mp go
      have hnw : n < w.length := by rw [wl]; exact hn
      have P := Lc.put (i := n) (v := x) (o := .frz os[i].d) (fq := []) (.frz (rx.mono ss _)) (fun _ z => nomatch z) (Same.refl S') Lc.same (fun j a _ z => ⟨rfl, (Lc.dom z).2⟩) Lc.tdom hnw
      have hnσ : n < (wipe σ [n]).length := by rw [← Lc.len]; exact hnw
      have ws : wipe ((wipe σ [n]).set n (some x)) [n] = wipe σ [n] := (wipe_eq List.length_set fun j z => List.getElem?_set_ne fun q => z (by rw [← q]; exact List.mem_cons_self)).trans wipe_wipe
      refine ⟨ws, ?_⟩
      refine ht _ S' H' _ _ _ _ b w2 P g2 fun S3 H3 φ3 m3 => ?_
      have L6 := m3.hld.drop n (x := none)
      have e6 : ((wipe σ [n]).set n (some x)).set n none = wipe σ [n] := ws
      rw [e6] at L6
      have w2l : w2.length = env.length := by rw [m3.le.1, List.length_set]; exact wl
      rw [List.drop_eq_getElem_cons hio, List.drop_eq_getElem_cons hlt, ex2] at qr
      cases qr with
      | cons r1 qr2 dd =>
        rename_i f1 fr2
        cases b with
        | true =>
          have ger : os[i] :: rest' = rest := ger
          refine iteT ⟨x, List.getElem?_set_self hnσ, accv, m3.hh D _ eD, by omega, rfl, by omega, ?_⟩
          have L7 := L6.touch (p := D) (o := .lst (accv ++ [x])) (.inr rfl) ((m3.ts D (.inr rfl)).trans sD)
          have q1 : RepOs X.K S H (accv ++ [x]) (racc ++ [os[i]]) (fd ++ (f1 ++ [])) := RepOs.append qd (RepOs.cons r1 .nil (fun a _ z => nomatch z)) fun a z y => dfr a z (List.mem_append_left _ (by simpa using y))
          rw [List.append_nil] at q1
          refine ⟨S3, _, _, accv ++ [x], racc ++ [os[i]], rest', fd ++ f1, fr2, L7, upd_same, (m3.ts D (.inr rfl)).trans sD, ss.trans m3.ss, fun c u e => ?_, by rw [List.length_set]; exact w2l, g3, by rw [← ge, ← ger]; simp, by simp [al], by simp; omega, q1, qr2, fun a z y => ?_, fun a z => ?_, fun a z => rq a (List.mem_append_right _ z)⟩
          · rw [upd_ne (ne_of_none e hD)]
            exact m3.hh c u (hh c u e)
          · rcases List.mem_append.mp z with z | z
            · exact dfr a z (List.mem_append_right _ y)
            · exact dd a z y
          · rcases List.mem_append.mp z with z | z
            · exact dq a z
            · exact rq a (List.mem_append_left _ z)
        | false =>
          have ger : rest' = rest := ger
          exact iteF ⟨rfl, by omega, S3, _, _, accv, racc, rest', fd, fr2, L6, m3.hh D _ eD, (m3.ts D (.inr rfl)).trans sD, ss.trans m3.ss, fun c u e => m3.hh c u (hh c u e), by rw [List.length_set]; exact w2l, g3, by rw [ger]; exact ge, al, by omega, qd, qr2, fun a z y => dfr a z (List.mem_append_right _ y), dq, fun a z => rq a (List.mem_append_right _ z)⟩
    · refine .inl ⟨⟨vs, sq, by omega⟩, ?_⟩
      rw [List.drop_eq_nil_of_le (by omega)] at go
      cases go
      rw [List.append_nil] at ge
      subst ge
      exact k D Hc accv fd eD hD hh qd dq
theorem ss_retFilt {ifs : List Expr} {scope : Scope} {n : Nat} {tst : Tst} {x : Str} {it : Expr} {fi : Ev} {px pt pl : Pos} (hc : X.calm = true) (nd : X.N.Nodup) (ok : BlkOk X.N X.env.scope scope [(x, n)]) (hx : X.N[n]? = some x)
    (hvx : Vis (relS scope X.env.scope) x) (dx1 : (x == ("__debug__" : Str)) = false) (dx2 : (x == ("__classdict__" : Str)) = false)
    {okn : Str → Bool} (so : StorOk (Blk X scope) okn) (hok : okn x = true) (ht : SF (Blk X scope) ifs tst) (hi : SE X it fi) (hs : noSet it = true) {g : Stm}
    (hg : SS X (.Return (some (.ListComp (.Name x px) [⟨.Name x pt, it, ifs, 0⟩] scope pl)) pos) g) :
    SS X (.Return (some (.ListComp (.Name x px) [⟨.Name x pt, it, ifs, 0⟩] scope pl)) pos) (sRetFilt n fi tst g) := by
  intro T S H σ env φ D c L hl e k
  unfold sRetFilt at e
  split at e
  · rename_i os env1 he0
    split at e
    · rename_i hnz
      obtain ⟨r, e1, e⟩ := Option.map_eq_some_iff.mp e
      subst e
      refine ⟨_, ps_ret UE.pe.self, ?_⟩
      have hpg : Al (Blk X scope) fun Y => PG Y (.Name x pt) (gName n) := fun s2 H2 v2 f2 q2 => pg_name nd hx (so_alt so s2 H2 v2 f2 q2 x hok).1 (so_alt so s2 H2 v2 f2 q2 x hok).2
      have hpe : Al (Blk X scope) fun Y => PE Y (.Name x px) (tVar n) := fun s2 H2 v2 f2 q2 => pe_var hx (by
        have q2 : v2.scope = relS scope X.env.scope := q2
        show Vis v2.scope x
        rw [q2]
        exact hvx) dx1 dx2
      have hpi : Al X fun Y => PI Y (.Name x pt) it (iList X.K (UE X it)) := fun s2 H2 v2 f2 q2 => pi_list (X := Alt X s2 H2 v2 f2) (UE.pe s2 H2 v2 f2 q2)
      refine ⟨tLc (iList X.K (UE X it)) (gName n) (UF (Blk X scope) ifs) (tVar n) [n], fun s1 H1 v1 f1 qq => pe_lc (X := Alt X s1 H1 v1 f1) hc nd (hpi s1 H1 v1 f1 qq) (own := [(x, n)]) (by
          show BlkOk X.N v1.scope scope [(x, n)]
          rw [qq]
          exact ok) (blk_al hpg s1 H1 v1 f1 qq) (blk_al UF.pts s1 H1 v1 f1 qq) (blk_al hpe s1 H1 v1 f1 qq) (fold_of hs), ?_⟩
      refine hi T S H σ env φ _ _ env1 L he0 fun v S1 H1 φ1 fq P => ?_
      have rr : RepO X.K S1 H1 v (.own os) fq := P.rr
      cases rr with
      | own hp sp np q0 =>
        rename_i p vs fp
        refine ⟨p, rfl, ⟨vs, .inl (.inl hp)⟩, ?_⟩
        refine lc_pickK ht P.hld hp q0 hnz.1 hnz.2 e1 (Q := fun v' H' => _) (fun D' H' ws fd eD hD hh q1 hf => ?_) rfl rfl
        have sD : S1 D' = none := by
          cases z : S1 D' with
          | none => rfl
          | some u => have := P.hld.same D' u z; rw [hD] at this; cases this
        have q2 : RepOs X.K S1 H' ws r fd := q1.mono (Same.refl S1) r fun a z => ⟨by
          cases q : H1 a with
          | none => exact absurd q (q1.dom r a z).1
          | some u => exact hh a u q, (q1.dom r a z).2⟩
        have st := P.mid.st L.tdom
        refine k (.ref D') S1 H' (D' :: fd) (.own eD sD (fun z => (q1.dom r D' z).1 hD) q2) (P.hld.same.trans hh) (fun a z t => ?_) ⟨st.1, st.2, fun a t => ?_⟩
        · rcases List.mem_cons.mp z with rfl | z
          · exact P.hld.tdom _ t hD
          · exact (P.dq a (List.mem_cons_of_mem _ (hf a z))).1 t
        · rw [← st.3 a t]
          cases q : H1 a with
          | none => exact absurd q (P.hld.tdom a t)
          | some u => exact hh a u q
    · cases e
  · exact hg T S H σ env φ D c L hl e k
theorem set_self {σ : St} {i : Nat} {u : Option V} (h : σ[i]? = some u) : σ.set i u = σ := by
  apply List.ext_getElem?
  intro j
  by_cases q : j = i
  · subst q
    rw [List.getElem?_set_self (List.getElem?_eq_some_iff.mp h).1, h]
  · rw [List.getElem?_set_ne (Ne.symm q)]
/-- what stands between two turns -/
structure Turn (K : PySem.W.Frag) (N n m : Nat) (f : Ev) (T : Addr → Prop) (S H : Hp) (p : Addr) (vs : List V) (os os' : List O) (env2 : Env) (i : Nat) (σ' : St) (Hc : Hp) (S' : Hp) (en : Env) (φ' : Nat → List Addr) (done : List O) (fd fr : List Addr) : Prop where
  L : Hld K S' Hc (fun a => T a ∨ a ∈ p :: (fd ++ fr)) σ' en φ'
  hl : σ'.length = N
  sm : σ'[m]? = some (some (.ref p))
  hp : Hc p = some (.lst vs)
  sp : S' p = none
  pd : p ∉ fd
  pr : p ∉ fr
  dr : ∀ a ∈ fd, a ∉ fr
  qd : RepOs K S' Hc (vs.take i) done fd
  qr : RepOs K S' Hc (vs.drop i) (os.drop i) fr
  nt : ∀ a ∈ p :: (fd ++ fr), ¬ T a
  st : SStp T S H S' Hc
  go : ∃ y, itemsGo n m f (os.drop i) en = some y ∧ done ++ y.1 = os' ∧ y.2 = env2
  em : en[m]? = some none
  en' : en[n]? = some none
theorem ss_forA {n m : Nat} {x y : Str} {px py pz apos cpos pe : Pos} (hp : PassesOwn (model X.prog X.w) X.A X.env X.xe) (hc : X.calm = true) (nd : X.N.Nodup) (hx : X.N[n]? = some x) (hy : X.N[m]? = some y)
    (hloc : Loc X.env.scope x ∧ (X.fn x = true ∨ X.env.scope.names.lookup x = some .local)) (hvx : Vis X.env.scope x) (hvy : Vis X.env.scope y)
    (dx1 : (x == ("__debug__" : Str)) = false) (dx2 : (x == ("__classdict__" : Str)) = false) (dy1 : (y == ("__debug__" : Str)) = false) (dy2 : (y == ("__classdict__" : Str)) = false)
    (hline : (apos.endLine == cpos.line) = true) (hn : noStar a = true) (ha : SE X a f) :
    SS X (.For (.Name x px) (.Name y py) [.Expr (.Call (.Attribute (.Name x pz) "append" apos) [a] [] cpos) pe] [] pos) (sForA n m f) := by
  intro T S H σ env φ D c L hl ee k
  unfold sForA at ee
  obtain ⟨os, e0, ee⟩ := Option.bind_eq_some_iff.mp ee
  split at ee
  · rename_i hnm
    obtain ⟨⟨os', env2⟩, e1, ee⟩ := Option.map_eq_some_iff.mp ee
    cases ee
    have em := slotL_eq e0
    obtain ⟨p, vs, fp, s0, g0, h0, n0, nf, q0⟩ := L.lst em
    have hml : m < env.length := by rw [L.len]; exact (List.getElem?_eq_some_iff.mp s0).1
    refine ⟨_, ps_for hp hc (pi_list (pe_var hy hvy dy1 dy2)) (pg_name nd hx hloc.1 hloc.2) (pss_one US.ps) (fold_of rfl), ?_⟩
    refine ⟨.ref p, s0, p, rfl, ⟨vs, .inl (.inl h0)⟩, ?_⟩
    let W : Nat → Nat → St → Hp → Prop := fun i mm σ' Hc => mm = vs.length - i ∧ i ≤ vs.length ∧ ∃ S' en φ' done fd fr, Turn X.K X.N.length n m f T S H p vs os os' env2 i σ' Hc S' en φ' done fd fr
    have hnl : n < env.length := hnm.2
    have mp : p ∈ φ m := by rw [g0]; exact List.mem_cons_self
    have mf : ∀ b ∈ fp, b ∈ φ m := fun b z => by rw [g0]; exact List.mem_cons_of_mem _ z
    have start : W 0 vs.length σ H := by
      have L1 := L.drop m (x := some (.ref p))
      rw [set_same s0] at L1
      obtain ⟨u, hu⟩ : ∃ u, σ[n]? = some u := ⟨_, List.getElem?_eq_getElem (by rw [← L.len]; exact hnl)⟩
      have L2' := L1.drop n (x := u)
      rw [set_self hu] at L2'
      have L3 := L2'.guard (fq := p :: fp) (fun b z i w => by
        split at w
        · cases w
        · split at w
          · cases w
          · rename_i q2
            have : b ∈ φ m := by
              rcases List.mem_cons.mp z with rfl | z
              · exact mp
              · exact mf b z
            exact q2 (L.disj i m b w this)) (fun b z => by
        rcases List.mem_cons.mp z with rfl | z
        · rw [h0]; simp
        · exact (L.dom (mf b z)).1)
      refine ⟨by omega, Nat.zero_le _, S, _, _, [], [], fp, ⟨L3, hl, s0, h0, n0, (fun z => nomatch z), nf, (fun _ z => nomatch z), .nil, q0, fun b z => ?_, .refl, ⟨_, e1, rfl, rfl⟩, ?_, ?_⟩⟩
      · rcases List.mem_cons.mp z with rfl | z
        · exact L.fr m _ mp
        · exact L.fr m b (mf b z)
      · rw [List.getElem?_set_ne hnm.1]
        exact List.getElem?_set_self hml
      · exact List.getElem?_set_self (by rw [List.length_set]; exact hnl)
    refine ⟨W, ⟨_, start⟩, ?_⟩
    rintro i mm σ' Hc ⟨hm, hi', S', en, φ', done, fd, fr, t⟩
    have sq : SqL X.K Hc p vs := .inl (.inl t.hp)
    by_cases hlt : i < vs.length
    · refine .inr ⟨⟨vs, vs[i], sq, List.getElem?_eq_getElem hlt⟩, W (i + 1) (vs.length - (i + 1)), fun σ2 H' z => ⟨vs.length - (i + 1), by omega, z⟩, fun v H' yy => ?_⟩
      obtain ⟨rfl, ex⟩ := yy
      have ex := ex vs sq
      rw [List.getElem?_eq_getElem hlt] at ex
      cases ex
      have hlo : i < os.length := by rw [← q0.length]; exact hlt
      have qr := t.qr
      obtain ⟨yr, go, g1, g2⟩ := t.go
      rw [List.drop_eq_getElem_cons hlt, List.drop_eq_getElem_cons hlo] at qr
      rw [List.drop_eq_getElem_cons hlo] at go
      generalize hfr : fr = fr0 at qr
      generalize os[i] = o at qr go
      generalize hv : vs[i] = v at qr
      cases qr with
      | cons r q dj =>
        rename_i f1 gg
        cases o with
        | frz d => cases go
        | otup cs => cases go
        | own cs =>
          have go : ((sAppend n f (en.set n (some (.own cs)))).bind fun c => match c with
            | .next e1 => (slotL e1 n).bind fun cs' => match e1[m]? with
              | some none => (itemsGo n m f (os.drop (i + 1)) (e1.set n none)).map fun y => (.own cs' :: y.1, y.2)
              | _ => none
            | _ => none) = some yr := go
          obtain ⟨c1, b1, go⟩ := Option.bind_eq_some_iff.mp go
          cases c1 <;> try (cases go; done)
          rename_i en1
          obtain ⟨cs', b2, go⟩ := Option.bind_eq_some_iff.mp go
          split at go
          · rename_i em1
            obtain ⟨y2, b3, rfl⟩ := Option.map_eq_some_iff.mp go
            have inT : ∀ b, b ∈ f1 ∨ b ∈ gg → b ∈ p :: (fd ++ fr) := fun b z => by
              rw [hfr]
              exact List.mem_cons_of_mem _ (List.mem_append_right _ (List.mem_append.mpr z))
            have hin : ∀ b ∈ f1, b ∈ fr := fun b z => by rw [hfr]; exact List.mem_append_left _ z
            have hing : ∀ b ∈ gg, b ∈ fr := fun b z => by rw [hfr]; exact List.mem_append_right _ z
            have T2le : ∀ b, (T b ∨ b ∈ p :: (fd ++ gg)) → (T b ∨ b ∈ p :: (fd ++ fr)) := fun b z => by
              rcases z with z | z
              · exact .inl z
              · rcases List.mem_cons.mp z with rfl | z
                · exact .inr List.mem_cons_self
                · rcases List.mem_append.mp z with z | z
                  · exact .inr (List.mem_cons_of_mem _ (List.mem_append_left _ z))
                  · exact .inr (inT b (.inr z))
            have Lw := t.L.weak T2le
            have hne : n < en.length := by rw [t.L.len, t.hl]; exact (List.getElem?_eq_some_iff.mp hx).1
            have P := Lw.put (i := n) (v := v) (o := .own cs) (fq := f1) (S' := S') (H' := H') r (fun b z => ⟨fun w => by
                rcases w with w | w
                · exact t.nt b (inT b (.inl z)) w
                · rcases List.mem_cons.mp w with rfl | w
                  · exact t.pr (hin _ z)
                  · rcases List.mem_append.mp w with w | w
                    · exact t.dr b w (hin b z)
                    · exact dj b z w, fun j _ w => t.L.fr j b w (.inr (inT b (.inl z)))⟩) (Same.refl S') t.L.same (fun j b _ w => ⟨rfl, (t.L.dom w).2⟩) Lw.tdom hne
            have hq : (σ'.set n (some v))[n]? = some (some v) := List.getElem?_set_self (by rw [t.hl]; exact (List.getElem?_eq_some_iff.mp hx).1)
            subst hv
            refine ⟨_, US.ps, ?_⟩
            refine ap_append hx hvx dx1 dx2 hline hn ha _ S' H' _ _ _ _ _ P b1 fun S3 H3 φ3 env3 ec L3 st3 => ?_
            cases ec
            show W (i + 1) (vs.length - (i + 1)) (σ'.set n (some vs[i])) H3
            obtain ⟨q', ws, fq', s', g', h', n', nf', qq'⟩ := L3.lst (slotL_eq b2)
            rw [hq] at s'
            have hvq : vs[i] = .ref q' := by injection s' with s'; injection s'
            have inT2 : ∀ b ∈ φ3 n, ¬ (T b ∨ b ∈ p :: (fd ++ gg)) := fun b z => L3.fr n b z
            rw [g'] at inT2
            have rd : RepOs X.K S3 H3 (vs.take i) done fd := RepOs.mono st3.ss done t.qd fun b z =>
              ⟨st3.th b (.inr (List.mem_cons_of_mem _ (List.mem_append_left _ z))), (st3.ts b (.inr (List.mem_cons_of_mem _ (List.mem_append_left _ z)))).trans (t.qd.dom done b z).2⟩
            have rg : RepOs X.K S3 H3 (vs.drop (i + 1)) (os.drop (i + 1)) gg := RepOs.mono st3.ss _ q fun b z =>
              ⟨st3.th b (.inr (List.mem_cons_of_mem _ (List.mem_append_right _ z))), (st3.ts b (.inr (List.mem_cons_of_mem _ (List.mem_append_right _ z)))).trans (q.dom _ b z).2⟩
            have rn : RepO X.K S3 H3 vs[i] (.own cs') (q' :: fq') := by rw [hvq]; exact .own h' n' nf' qq'
            have rnew : RepOs X.K S3 H3 (vs.take (i + 1)) (done ++ [.own cs']) (fd ++ (q' :: fq')) := by
              have r7 := RepOs.cons rn RepOs.nil (fun a _ q => nomatch q)
              rw [List.append_nil] at r7
              have r8 := rd.append r7 fun b z w => inT2 b w (.inr (List.mem_cons_of_mem _ (List.mem_append_left _ z)))
              rw [List.take_succ_eq_append_getElem hlt]
              exact r8
            obtain ⟨u, hu⟩ : ∃ u, (σ'.set n (some vs[i]))[n]? = some u := ⟨_, hq⟩
            have L4 := L3.drop n (x := u)
            rw [set_self hu] at L4
            have L5 := (L4.guard (fq := q' :: fq') (fun b z j w => by
              split at w
              · cases w
              · rename_i q2
                exact q2 (L3.disj j n b w (by rw [g']; exact z))) (fun b z => (rn.dom _ b z).1)).weak (T' := fun b => T b ∨ b ∈ p :: ((fd ++ (q' :: fq')) ++ gg)) (fun b z => by
              rcases z with z | z
              · exact .inl (.inl z)
              · rcases List.mem_cons.mp z with rfl | z
                · exact .inl (.inr List.mem_cons_self)
                · rcases List.mem_append.mp z with z | z
                  · rcases List.mem_append.mp z with z | z
                    · exact .inl (.inr (List.mem_cons_of_mem _ (List.mem_append_left _ z)))
                    · exact .inr z
                  · exact .inl (.inr (List.mem_cons_of_mem _ (List.mem_append_right _ z))))
            have pT : T p ∨ p ∈ p :: (fd ++ gg) := .inr List.mem_cons_self
            refine ⟨rfl, by omega, S3, _, _, done ++ [.own cs'], fd ++ (q' :: fq'), gg, ⟨L5, by rw [List.length_set]; exact t.hl, by rw [List.getElem?_set_ne hnm.1]; exact t.sm, (st3.th p pT).trans t.hp, (st3.ts p pT).trans t.sp, fun z => ?_, fun z => t.pr (hing p z), fun b z w => ?_, rnew, rg, fun b z => ?_, t.st.trans ⟨st3.ss, fun b z => st3.ts b (.inl z), fun b z => st3.th b (.inl z)⟩, ⟨y2, b3, ?_, g2⟩, ?_, ?_⟩⟩
            · rcases List.mem_append.mp z with z | z
              · exact t.pd z
              · exact inT2 p z pT
            · rcases List.mem_append.mp z with z | z
              · exact t.dr b z (hing b w)
              · exact inT2 b z (.inr (List.mem_cons_of_mem _ (List.mem_append_right _ w)))
            · rcases List.mem_cons.mp z with rfl | z
              · exact t.nt _ List.mem_cons_self
              · rcases List.mem_append.mp z with z | z
                · rcases List.mem_append.mp z with z | z
                  · exact t.nt b (List.mem_cons_of_mem _ (List.mem_append_left _ z))
                  · exact fun w => inT2 b z (.inl w)
                · exact t.nt b (inT b (.inr z))
            · rw [← g1, List.append_assoc]
              rfl
            · rw [List.getElem?_set_ne hnm.1]
              exact em1
            · exact List.getElem?_set_self (by rw [L3.len, List.length_set, t.hl]; exact (List.getElem?_eq_some_iff.mp hx).1)
          · cases go
    · have hi2 : i = vs.length := by omega
      subst hi2
      refine .inl ⟨⟨vs, sq, Nat.le_refl _⟩, ?_⟩
      obtain ⟨yr, go, g1, g2⟩ := t.go
      rw [List.drop_eq_nil_of_le (by rw [q0.length]; exact Nat.le_refl _)] at go
      cases go
      rw [List.append_nil] at g1
      subst g1
      have g2 : en = env2 := g2
      subst g2
      have qd := t.qd
      rw [List.take_length] at qd
      have hme : m < en.length := by rw [t.L.len, t.hl, ← hl, ← L.len]; exact hml
      have Lw := t.L.weak (T' := T) fun b z => .inl z
      have P := Lw.put (i := m) (v := .ref p) (o := .own done) (fq := p :: fd) (S' := S') (H' := Hc) (.own t.hp t.sp t.pd qd) (fun b z => by
        have zz : b ∈ p :: (fd ++ fr) := by
          rcases List.mem_cons.mp z with rfl | z
          · exact List.mem_cons_self
          · exact List.mem_cons_of_mem _ (List.mem_append_left _ z)
        exact ⟨t.nt b zz, fun j _ w => t.L.fr j b w (.inr zz)⟩) (Same.refl S') t.L.same (fun j b _ w => ⟨rfl, (t.L.dom w).2⟩) Lw.tdom hme
      rw [set_same t.sm] at P
      exact k σ' S' Hc _ P t.hl t.st
  · cases ee
end
end PY
set_option maxHeartbeats 1000000
/-! PyS5: the least of data. -/
namespace PY
open PySem L2 PySem.Spec PyProof.Rows
section
variable {X : Cx}
def rMinD (K : PySem.W.Frag) : List V → Hp → VK → Prop := fun vs H Q => ∃ (a : Addr) (xs : List V) (d : D) (ds : List D), vs = [V.ref a] ∧ SqL K H a xs ∧ DpAll K H xs (d :: ds) ∧ PySem.W.AlikeAll (d :: ds) ∧ PyData.depthAll (d :: ds) ≤ 60 ∧
  ∀ (i : Nat) (v : V), xs[i]? = some v → (d :: ds)[i]? = some (PySem.W.minD d ds) → Q v H
theorem vals_back_at : ∀ {xs : List V} {us : List Value} {i : Nat} {u : Value}, Vals xs us → us[i]? = some u → ∃ v, xs[i]? = some v ∧ RelV v u
  | [], us, i, u, r, h => by cases r; simp at h
  | x :: xs, us, i, u, r, h => by
    cases r with
    | cons r1 r2 =>
      cases i with
      | zero => simp at h; subst h; exact ⟨x, rfl, r1⟩
      | succ i => simpa using vals_back_at r2 (by simpa using h)
theorem minD_mem : ∀ (ds : List D) (d : D), PySem.W.minD d ds ∈ d :: ds
  | [], d => List.mem_singleton.mpr rfl
  | e :: ds, d => by
    have h := minD_mem ds (if PySem.W.dataLt e d then e else d)
    show PySem.W.minD (if PySem.W.dataLt e d then e else d) ds ∈ _
    rcases List.mem_cons.mp h with h | h
    · rw [h]
      split
      · exact List.mem_cons_of_mem _ List.mem_cons_self
      · exact List.mem_cons_self
    · exact List.mem_cons_of_mem _ (List.mem_cons_of_mem _ h)
theorem cr_minD (hc : X.calm = true) (hu : X.A.units + 65 < cLine) : CallR X (.builtin "min") (rMinD X.K) := by
  intro pins s σ H vs us Q I r h
  obtain ⟨a, xs, d, ds, rfl, hs, hdp, hal, hdep, q⟩ := h
  obtain ⟨its, rv, hl, _⟩ := I.list hs
  rw [Vals.ref1 r]
  obtain ⟨as, hr⟩ := Dp.readsAll I (d :: ds) xs its hdp rv
  refine PySem.W.min_list_data (I.ok.hd hc) hl.isList (by simpa using hr) hal (by omega) fun i v h' tk bs hv hrd hk => ?_
  have hv : its[i]? = some v := by simpa using hv
  obtain ⟨v', hv', rel⟩ := vals_back_at rv hv
  refine ⟨v', H, I.kept hk, rel, q i v' hv' ?_⟩
  obtain ⟨bs2, hr2, hlt, hmem, _⟩ := PySem.W.readsAll_at hr i v hv
  have hr3 := PySem.W.reads_keeps hk hr2
  have e := PySem.W.alike_unique _ _ v _ _ (hal.1 _ hmem _ (minD_mem ds d)) hr3 hrd
  rw [← e]
  rw [List.getD_eq_getElem?_getD] at *
  rw [List.getElem?_eq_getElem hlt]
  rfl
theorem al_minD (hc : X.calm = true) (hu : X.A.units + 65 < cLine) : Al X fun Y => CallR Y (.builtin "min") (rMinD X.K) := fun s H v f _ => cr_minD (X := Alt X s H v f) hc hu
theorem flat_can : ∀ {os : List O}, (os.all fun o => match o with
      | .frz d => scalar d
      | _ => false) = true → os = (O.ds os).map .frz
  | [], _ => rfl
  | o :: os, h => by
    rw [List.all_cons, Bool.and_eq_true] at h
    cases o with
    | frz d =>
      show O.frz d :: os = O.frz d :: (O.ds os).map .frz
      rw [← flat_can h.2]
    | own _ => cases h.1
    | otup _ => cases h.1
theorem flatO_can {o : O} (h : flatO o = true) : ∃ os, o = .own os ∧ canO o.d = .own os := by
  cases o with
  | frz d => cases h
  | otup os => cases h
  | own os =>
    refine ⟨os, rfl, ?_⟩
    show O.own ((O.ds os).map .frz) = .own os
    rw [← flat_can h]
theorem alikeOk_ok {xs : List D} (h : alikeOk xs = true) : PySem.W.AlikeAll xs ∧ PyData.depthAll xs ≤ 60 := by
  unfold alikeOk at h
  rw [Bool.and_eq_true, Bool.and_eq_true] at h
  obtain ⟨⟨h1, h2⟩, h3⟩ := h
  refine ⟨⟨fun d hd e he => List.all_eq_true.mp (List.all_eq_true.mp h1 d hd) e he, fun d hd e => ?_⟩, of_decide_eq_true h3⟩
  have := List.all_eq_true.mp h2 d hd
  subst e
  cases this
theorem reps_at {K : PySem.W.Frag} {H : Hp} : ∀ {ys : List V} {xs : List D} {i : Nat} {v : V} {d : D}, Reps K H ys xs → ys[i]? = some v → xs[i]? = some d → Rep K H v d
  | [], _, _, _, _, _, h, _ => by simp at h
  | _ :: _, [], _, _, _, _, _, h => by simp at h
  | y :: ys, x :: xs, i, v, d, r, h1, h2 => by
    cases r with
    | cons r1 r2 =>
      cases i with
      | zero => simp at h1 h2; subst h1 h2; exact r1
      | succ i => exact reps_at r2 (by simpa using h1) (by simpa using h2)
theorem minV_ok {d1 d : D} (h : minV d1 = some d) : ∃ d0 ds, d1 = .list (d0 :: ds) ∧ d = PySem.W.minD d0 ds ∧ PySem.W.AlikeAll (d0 :: ds) ∧ PyData.depthAll (d0 :: ds) ≤ 60 := by
  unfold minV at h
  split at h <;> try (cases h; done)
  rename_i d0 ds
  split at h <;> try (cases h; done)
  rename_i ok
  injection h with h
  obtain ⟨h1, h2⟩ := alikeOk_ok ok
  exact ⟨d0, ds, rfl, h.symm, h1, h2⟩
theorem flatR_ok {r : R} (h : flatR r = true) : ∃ os, r = .own (.own os) ∧ os.all flatO = true := by
  unfold flatR at h
  split at h
  · exact ⟨_, rfl, h⟩
  · cases h
theorem se_min {p : Pos} {a : Expr} {f : Ev} {pos : Pos} (hc : X.calm = true) (hu : X.A.units + 65 < cLine) (hg : Gl X "min") (hm : X.mg "min" = none) (hn : noStar a = true) (ha : SE X a f) : SE X (.Call (.Name "min" p) [a] [] pos) (eMin f) := by
  intro T S H σ env φ Q r env' L e kq
  unfold eMin at e
  split at e
  · rename_i r' hb
    injection e with e
    subst e
    exact se_bi hg hm PyProof.Rows.boot_min (by decide +kernel) (by decide +kernel) (fun e m => by rw [List.mem_singleton.mp m]; exact hn) (sa_cons hn ha sa_nil) (fun _ _ h => min_ok hc h) T S H σ env φ Q r env' L hb kq
  · obtain ⟨⟨r1, env1⟩, e1, e⟩ := Option.bind_eq_some_iff.mp e
    obtain ⟨d, e2, e⟩ := Option.map_eq_some_iff.mp e
    obtain ⟨d0, ds, hd1, rfl, al, dep⟩ := minV_ok e2
    refine ⟨_, fun s0 H0 v0 f0 qq => pe_callB (al_minD hc hu s0 H0 v0 f0 qq) (gl_alt hg s0 H0 v0 f0 qq) hm PyProof.Rows.boot_min (one_arg' hn s0 H0 v0 f0 qq) (by decide +kernel) (by decide +kernel) (star_one hn) rfl, ha T S H σ env φ _ r1 env1 L e1 fun v S1 H1 φ1 f1 p => ?_⟩
    have hd1 : r1.d = .list (d0 :: ds) := hd1
    have rp := p.rep
    rw [hd1] at rp
    obtain ⟨l0, xs0, hv0, hs0, hr0⟩ := rep_list rp
    by_cases hf : flatR r1 = true
    · simp only [hf, if_true] at e
      cases e
      obtain ⟨os, rfl, ho⟩ := flatR_ok hf
      have h2 : RepO X.K S1 H1 v (.own os) f1 := p.rr
      cases h2 with
      | own g1 g2 g3 g4 =>
        have eo : O.ds os = d0 :: ds := by
          have hd1 : PyData.list (O.ds os) = .list (d0 :: ds) := hd1
          injection hd1
        have hr := RepOs.rep p.hld.same os g4 (fun _ _ => rfl)
        rw [eo] at hr
        refine ⟨_, _, d0, ds, rfl, .inl (.inl g1), hr.dp, al, dep, fun i v' hv hd => ?_⟩
        rw [← eo, O.ds_map, List.getElem?_map] at hd
        cases ho' : os[i]? with
        | none => rw [ho'] at hd; cases hd
        | some o =>
          rw [ho'] at hd
          injection hd with hd
          obtain ⟨w, f, hw, q, sub⟩ := g4.getO ho'
          rw [hv] at hw
          injection hw with hw
          subst hw
          obtain ⟨os', rfl, hc'⟩ := flatO_can (List.all_eq_true.mp ho o (List.mem_of_getElem? ho'))
          rw [← hd, hc'] at kq
          exact kq _ _ _ _ f (p.mid.fin (RR.ofO q) fun a m => p.dq a (List.mem_cons_of_mem _ (sub a m)))
    · simp only [hf] at e
      cases e
      obtain ⟨S4, φ4, m4, i4⟩ := p.share
      rw [sh_d, hd1] at i4
      obtain ⟨l, ys, rfl, h2, q⟩ := it_list i4
      refine ⟨l, ys, d0, ds, rfl, h2, (Reps.mono m4.hld.same _ q).dp, al, dep, fun i v' hv hd => ?_⟩
      exact kq _ _ _ _ _ (m4.frz (reps_at q hv hd))
end
end PY
set_option maxHeartbeats 2000000
/-! PySg: the compile is sound. -/
namespace PY
open PySem L2

def bnames : List Str := ["len", "abs", "int", "sum", "max", "min", "list", "tuple", "isinstance", "bool", "str", "range", "reversed", "repr", "sorted"]
structure CtxOk (Γ : Ctx) (X : Cx) : Prop where
  N : X.N = Γ.N
  nd : Γ.N.Nodup
  calm : X.calm = true
  hu : X.A.units + 65 < cLine
  gs : X.A.guards = some []
  bi : ∀ x ∈ bnames, Γ.isDef x = false → X.mg x = none
  glob : ∀ x d, Γ.glob x = some d → ∃ v u, X.mg x = some u ∧ RelV v u ∧ ∀ S, Rep X.K S v d
  call : ∀ x, Γ.isDef x = true → ∃ k fa fd ps, FnG X.prog X.w X.K X.mg X.base k fa fd ps (spC X.K ps.length (Γ.call x)) ∧ Room k X.A ∧ X.mg x = some (.ref fa) ∧ PySem.W.keepIn X.K (.ref fa) = true ∧ Binds X.K fd ps [] ∧ ∀ ds o, Γ.call x ds = some o → ds.length = ps.length
theorem CtxOk.blk {Γ : Ctx} {X : Cx} (c : CtxOk Γ X) (scope : Scope) : CtxOk Γ (Blk X scope) := ⟨c.N, c.nd, c.calm, c.hu, c.gs, c.bi, c.glob, c.call⟩
theorem ok_name {x : Str} (h : okName x = true) : (x == ("__debug__" : Str)) = false ∧ (x == ("__classdict__" : Str)) = false ∧ x ≠ "__name__" := by
  unfold okName at h
  simp only [Bool.and_eq_true, Bool.not_eq_true'] at h
  exact ⟨h.1.1, h.1.2, fun z => by rw [z] at h; simp at h⟩
theorem vis_of {sc : Scope} {x : Str} (h : visB sc x = true) : okName x = true ∧ Vis sc x := by
  unfold visB at h
  rw [Bool.and_eq_true] at h
  refine ⟨h.1, ?_⟩
  have q := h.2
  unfold Vis
  split at q
  · rename_i e; exact .inl e
  · rename_i e; exact .inr (.inl e)
  · rename_i e; exact .inr (.inr e)
  · cases q
theorem gl_of {X : Cx} {x : Str} (h : glB X.env.scope x = true) : okName x = true ∧ Gl X x := by
  unfold glB at h
  rw [Bool.and_eq_true] at h
  refine ⟨h.1, ?_⟩
  have q := h.2
  split at q
  · rename_i e; exact e
  · cases q
theorem bi1_of {x : Str} {n : String} (h : bi1 x = some n) : (x = "len" ∧ n = "len") ∨ (x = "abs" ∧ n = "abs") ∨ (x = "int" ∧ n = "int") ∨ (x = "sum" ∧ n = "sum") ∨ (x = "max" ∧ n = "max") ∨ (x = "min" ∧ n = "min") ∨ (x = "repr" ∧ n = "repr") := by
  unfold bi1 at h
  split at h
  · cases h; exact .inl ⟨by assumption, rfl⟩
  · split at h
    · cases h; exact .inr (.inl ⟨by assumption, rfl⟩)
    · split at h
      · cases h; exact .inr (.inr (.inl ⟨by assumption, rfl⟩))
      · split at h
        · cases h; exact .inr (.inr (.inr (.inl ⟨by assumption, rfl⟩)))
        · split at h
          · cases h; exact .inr (.inr (.inr (.inr (.inl ⟨by assumption, rfl⟩))))
          · split at h
            · cases h; exact .inr (.inr (.inr (.inr (.inr (.inl ⟨by assumption, rfl⟩)))))
            · split at h
              · cases h; exact .inr (.inr (.inr (.inr (.inr (.inr ⟨by assumption, rfl⟩)))))
              · cases h
theorem bi2_of {x : Str} {n : String} (h : bi2 x = some n) : (x = "max" ∧ n = "max") ∨ (x = "min" ∧ n = "min") := by
  unfold bi2 at h
  split at h
  · cases h; exact .inl ⟨by assumption, rfl⟩
  · split at h
    · cases h; exact .inr ⟨by assumption, rfl⟩
    · cases h
theorem rgArgs1 {Γ : Ctx} {sc : Scope} {n : String} {a u : Expr} (h : rgArgs Γ sc n a = some [u]) : ∃ p2 pos2, a = .Call (.Name "range" p2) [u] [] pos2 ∧ n = "list" ∧ glB sc "range" = true ∧ noStar u = true ∧ Γ.isDef "range" = false := by
  unfold rgArgs at h
  split at h
  · split at h
    · rename_i x p2 u' pos2 q
      obtain ⟨q1, rfl, q2⟩ := q
      injection h with h
      injection h with h
      subst h
      simp only [Bool.and_eq_true, Bool.not_eq_true'] at q2
      exact ⟨p2, pos2, rfl, q1, q2.1.1, q2.1.2, q2.2⟩
    · cases h
  · split at h
    · injection h with h
      injection h with h1 h2
      cases h2
    · cases h
  · cases h
theorem rgArgs2 {Γ : Ctx} {sc : Scope} {n : String} {a u v : Expr} (h : rgArgs Γ sc n a = some [u, v]) : ∃ p2 pos2, a = .Call (.Name "range" p2) [u, v] [] pos2 ∧ n = "list" ∧ glB sc "range" = true ∧ noStar u = true ∧ noStar v = true ∧ Γ.isDef "range" = false := by
  unfold rgArgs at h
  split at h
  · split at h
    · injection h with h
      injection h with h1 h2
      cases h2
    · cases h
  · split at h
    · rename_i x p2 u' v' pos2 q
      obtain ⟨q1, rfl, q2⟩ := q
      injection h with h
      injection h with h h'
      injection h' with h'
      subst h
      subst h'
      simp only [Bool.and_eq_true, Bool.not_eq_true'] at q2
      exact ⟨p2, pos2, rfl, q1, q2.1.1.1, q2.1.1.2, q2.1.2, q2.2⟩
    · cases h
  · cases h
theorem biL_of {x : Str} {n : String} (h : biL x = some n) : (x = "list" ∧ n = "list") ∨ (x = "tuple" ∧ n = "tuple") ∨ (x = "sorted" ∧ n = "sorted") := by
  unfold biL at h
  split at h
  · cases h; exact .inl ⟨by assumption, rfl⟩
  · split at h
    · cases h; exact .inr (.inl ⟨by assumption, rfl⟩)
    · split at h
      · cases h; exact .inr (.inr ⟨by assumption, rfl⟩)
      · cases h
theorem met0_of {x : Str} {n : String} (h : met0 x = some n) : x = "upper" ∧ n = "upper" := by
  unfold met0 at h
  split at h
  · cases h; exact ⟨by assumption, rfl⟩
  · cases h
theorem met1_of {x : Str} {n : String} (h : met1 x = some n) : (x = "count" ∧ n = "count") ∨ (x = "index" ∧ n = "index") := by
  unfold met1 at h
  split at h
  · cases h; exact .inl ⟨by assumption, rfl⟩
  · split at h
    · cases h; exact .inr ⟨by assumption, rfl⟩
    · cases h
theorem tyOf_of {x : Str} {n : String} (h : tyOf x = some n) : bootBuiltins x = some (.type n) ∧ x ∈ bnames := by
  unfold tyOf at h
  split at h
  · rename_i e; cases h; subst e; exact ⟨PyProof.Rows.boot_int, by decide +kernel⟩
  · split at h
    · rename_i e; cases h; subst e; exact ⟨by decide +kernel, by decide +kernel⟩
    · split at h
      · rename_i e; cases h; subst e; exact ⟨PyProof.Rows.boot_list, by decide +kernel⟩
      · split at h
        · rename_i e; cases h; subst e; exact ⟨PyProof.Rows.boot_tuple, by decide +kernel⟩
        · split at h
          · rename_i e; cases h; subst e; exact ⟨by decide +kernel, by decide +kernel⟩
          · cases h
structure AllE (Γ : Ctx) (k : Nat) : Prop where
  E : ∀ X e, CtxOk Γ X → SE X e (cE Γ k X.env.scope e)
  Es : ∀ X es, CtxOk Γ X → SA X es (cEs Γ k X.env.scope es)
  O : ∀ X o, CtxOk Γ X → SO X o (cO Γ k X.env.scope o)
  B : ∀ X op es pos, CtxOk Γ X → SE X (.BoolOp op es pos) (cBool Γ k X.env.scope op es)
  T : ∀ X e, CtxOk Γ X → ST X e (cT Γ k X.env.scope e)
  Ts : ∀ X op es pos, CtxOk Γ X → SW X (.BoolOp op es pos) (cTs Γ k X.env.scope op es)
  F : ∀ X es, CtxOk Γ X → SF X es (cIfs Γ k X.env.scope es)
  I : ∀ X e, CtxOk Γ X → SI X e (cI Γ k X.env.scope e)
theorem sa_bad {X : Cx} {a : Expr} {es : List Expr} {fs : List Ev} : SA X (a :: es) (eNone :: fs) := by
  intro T S H σ env φ Q rs env' L e k
  cases e
theorem sw_none {X : Cx} {e : Expr} : SW X e fun _ => none := fun _ _ _ _ _ _ _ _ _ _ h => nomatch h
theorem all0 (Γ : Ctx) : AllE Γ 0 where
  E := fun X e c => SE.none
  Es := fun X es c => by
    cases es with
    | nil => exact sa_nil
    | cons e es => exact sa_bad
  O := fun X o c => so_bad
  B := fun X op es pos c => SE.none
  T := fun X e c => ST.none
  Ts := fun X op es pos c => sw_none
  F := fun X es c => sf_bad
  I := fun X e c => si_none
section
variable {Γ : Ctx} {k : Nat} (ih : AllE Γ k)
include ih
theorem e_name {X : Cx} (c : CtxOk Γ X) (x : Str) (p : Pos) : SE X (.Name x p) (cE Γ (k + 1) X.env.scope (.Name x p)) := by
  show SE X _ (if visB X.env.scope x then (match ixOf Γ.N x with | some i => eName i | none => eNone) else if glB X.env.scope x then (match Γ.glob x with | some d => eD d | none => eNone) else eNone)
  split
  · rename_i hv
    obtain ⟨ho, vis⟩ := vis_of hv
    obtain ⟨h1, h2, _⟩ := ok_name ho
    split
    · rename_i i hi
      exact se_name (by rw [c.N]; exact ixOf_at hi) vis h1 h2
    · exact SE.none
  · split
    · rename_i hg
      obtain ⟨ho, gl⟩ := gl_of hg
      obtain ⟨h1, h2, _⟩ := ok_name ho
      split
      · rename_i d hd
        obtain ⟨v, u, m, r, q⟩ := c.glob x d hd
        exact se_c (fun s0 H0 v0 f0 qq => pe_glob (gl_alt gl s0 H0 v0 f0 qq) m r h1) q
      · exact SE.none
    · exact SE.none
theorem e_call {X : Cx} (c : CtxOk Γ X) (f : Expr) (args : List Expr) (kws : List Keyword) (p : Pos) : SE X (.Call f args kws p) (cE Γ (k + 1) X.env.scope (.Call f args kws p)) := by
  cases kws with
  | cons _ _ => exact SE.none
  | nil =>
    cases f
    case Attribute o m apos =>
      cases o
      case Name s sp =>
        show SE X _ (if apos.endLine == p.line then (match args with
            | [] => (match met0 m with | some n => eMet0 n (cE Γ k X.env.scope (.Name s sp)) | none => eNone)
            | [a] => if noStar a then (match met1 m with | some n => eMet1 n (cE Γ k X.env.scope (.Name s sp)) (cE Γ k X.env.scope a) | none => eNone) else eNone
            | _ => eNone) else eNone)
        split
        · rename_i hline
          match args with
          | [] =>
            show SE X _ (match met0 m with | some n => eMet0 n (cE Γ k X.env.scope (.Name s sp)) | none => eNone)
            split
            · rename_i n hn
              obtain ⟨rfl, rfl⟩ := met0_of hn
              exact se_upper hline (ih.E X _ c)
            · exact SE.none
          | [a] =>
            show SE X _ (if noStar a then (match met1 m with | some n => eMet1 n (cE Γ k X.env.scope (.Name s sp)) (cE Γ k X.env.scope a) | none => eNone) else eNone)
            split
            · rename_i hs
              split
              · rename_i n hn
                rcases met1_of hn with ⟨rfl, rfl⟩ | ⟨rfl, rfl⟩
                · exact se_count hline hs (ih.E X _ c) (ih.E X _ c)
                · exact se_index c.hu hline hs (ih.E X _ c) (ih.E X _ c)
              · exact SE.none
            · exact SE.none
          | _ :: _ :: _ => exact SE.none
        · exact SE.none
      all_goals exact SE.none
    case Name x px =>
      by_cases hg : (glB X.env.scope x && args.all noStar) = true
      · have hg' := hg
        rw [Bool.and_eq_true] at hg
        obtain ⟨ho, gl⟩ := gl_of hg.1
        obtain ⟨hd1, hd2, hn1⟩ := ok_name ho
        have hst : ∀ e ∈ args, noStar e = true := List.all_eq_true.mp hg.2
        by_cases hd : Γ.isDef x = true
        · have e1 : cE Γ (k + 1) X.env.scope (.Call (.Name x px) args [] p) = eCall (Γ.call x) (cEs Γ k X.env.scope args) := by
            show (if (glB X.env.scope x && args.all noStar) = true then (if Γ.isDef x = true then eCall (Γ.call x) (cEs Γ k X.env.scope args) else _) else _) = _
            rw [if_pos hg', if_pos hd]
          rw [e1]
          obtain ⟨j, fa, fd, ps, F, hr, hm, hk, hb, hl⟩ := c.call x hd
          cases args with
          | nil =>
            have e2 : cEs Γ k X.env.scope [] = [] := by cases k <;> rfl
            rw [e2]
            exact se_call0 F hr c.gs gl hm hk hb hd1 hl
          | cons e0 es => exact se_call F hr c.gs gl hm hk hb hd1 (ih.Es X _ c) hst hl
        · have hd' : Γ.isDef x = false := by simpa using hd
          match args, hst, hg' with
          | [], _, hg' =>
            have e1 : cE Γ (k + 1) X.env.scope (.Call (.Name x px) [] [] p) = eNone := by
              show (if (glB X.env.scope x && ([] : List Expr).all noStar) = true then (if Γ.isDef x = true then eCall (Γ.call x) (cEs Γ k X.env.scope []) else eNone) else eNone) = _
              rw [if_pos hg', if_neg hd]
            rw [e1]; exact SE.none
          | [a], hst, hg' =>
            have e1 : cE Γ (k + 1) X.env.scope (.Call (.Name x px) [a] [] p) = (match biL x with
              | some n => match rgArgs Γ X.env.scope n a with
                | some [u] => eLRg (iR1 (cE Γ k X.env.scope u))
                | some [u, v] => eLRg (iR2 (cE Γ k X.env.scope u) (cE Γ k X.env.scope v))
                | _ => eBiS n (cE Γ k X.env.scope a)
              | none => if x = "min" then eMin (cE Γ k X.env.scope a) else match bi1 x with
                | some n => eBi n [cE Γ k X.env.scope a]
                | none => eNone) := by
              show (if (glB X.env.scope x && [a].all noStar) = true then (if Γ.isDef x = true then eCall (Γ.call x) (cEs Γ k X.env.scope [a]) else _) else eNone) = _
              rw [if_pos hg', if_neg hd]
              try rfl
            rw [e1]
            have ha := ih.E X a c
            have hna := hst a List.mem_cons_self
            split
            · rename_i n hb
              split
              · rename_i u hr
                obtain ⟨p2, pos2, rfl, rfl, q1, q2, q3⟩ := rgArgs1 hr
                rcases biL_of hb with ⟨rfl, hh⟩ | ⟨rfl, hh⟩ | ⟨rfl, hh⟩
                · exact se_lrg1 c.calm gl (c.bi _ (by decide +kernel) hd') (gl_of q1).2 (c.bi _ (by decide +kernel) q3) q2 (ih.E X u c)
                · exact absurd hh (by decide)
                · exact absurd hh (by decide)
              · rename_i u v hr
                obtain ⟨p2, pos2, rfl, rfl, q1, q2, q2', q3⟩ := rgArgs2 hr
                rcases biL_of hb with ⟨rfl, hh⟩ | ⟨rfl, hh⟩ | ⟨rfl, hh⟩
                · exact se_lrg2 c.calm gl (c.bi _ (by decide +kernel) hd') (gl_of q1).2 (c.bi _ (by decide +kernel) q3) q2 q2' (ih.E X u c) (ih.E X v c)
                · exact absurd hh (by decide)
                · exact absurd hh (by decide)
              rcases biL_of hb with ⟨rfl, rfl⟩ | ⟨rfl, rfl⟩ | ⟨rfl, rfl⟩
              · exact se_biL gl (c.bi _ (by decide +kernel) hd') hna ha
              · exact se_biTu gl (c.bi _ (by decide +kernel) hd') hna ha
              · exact se_sorted c.hu gl (c.bi _ (by decide +kernel) hd') hna ha
            · split
              · rename_i hx
                subst hx
                exact se_min c.calm c.hu gl (c.bi _ (by decide +kernel) hd') hna ha
              split
              · rename_i n hb
                have hs : SA X [a] [cE Γ k X.env.scope a] := sa_cons hna ha sa_nil
                rcases bi1_of hb with ⟨rfl, rfl⟩ | ⟨rfl, rfl⟩ | ⟨rfl, rfl⟩ | ⟨rfl, rfl⟩ | ⟨rfl, rfl⟩ | ⟨rfl, rfl⟩ | ⟨rfl, rfl⟩
                · exact se_bi gl (c.bi _ (by decide +kernel) hd') PySem.boot_len hn1 hd1 hst hs fun _ _ h => len_ok h
                · exact se_bi gl (c.bi _ (by decide +kernel) hd') PyProof.Rows.boot_abs hn1 hd1 hst hs fun _ _ h => abs_ok h
                · exact se_biT gl (c.bi _ (by decide +kernel) hd') PyProof.Rows.boot_int hn1 hd1 hst hs fun _ _ h => int_ok h
                · exact se_bi gl (c.bi _ (by decide +kernel) hd') PyProof.Rows.boot_sum hn1 hd1 hst hs fun _ _ h => sum_ok c.calm h
                · exact se_bi gl (c.bi _ (by decide +kernel) hd') PyProof.Rows.boot_max hn1 hd1 hst hs fun _ _ h => max_ok c.calm h
                · exact se_bi gl (c.bi _ (by decide +kernel) hd') PyProof.Rows.boot_min hn1 hd1 hst hs fun _ _ h => min_ok c.calm h
                · exact se_bi gl (c.bi _ (by decide +kernel) hd') PyProof.Rows.boot_repr hn1 hd1 hst hs fun _ _ h => repr_ok c.gs c.hu h
              · exact SE.none
          | [a, b], hst, hg' =>
            have e1 : cE Γ (k + 1) X.env.scope (.Call (.Name x px) [a, b] [] p) = (match bi2 x with
              | some n => eBi n [cE Γ k X.env.scope a, cE Γ k X.env.scope b]
              | none => if x = "isinstance" then (match b with
                | .Name t _ => if glB X.env.scope t && !Γ.isDef t then (match tyOf t with | some n => eIsi n (cE Γ k X.env.scope a) | none => eNone) else eNone
                | _ => eNone) else eNone) := by
              refine Eq.trans (b := if (glB X.env.scope x && [a, b].all noStar) = true then (if Γ.isDef x = true then eCall (Γ.call x) (cEs Γ k X.env.scope [a, b]) else (match bi2 x with
              | some n => eBi n [cE Γ k X.env.scope a, cE Γ k X.env.scope b]
              | none => if x = "isinstance" then (match b with
                | .Name t _ => if glB X.env.scope t && !Γ.isDef t then (match tyOf t with | some n => eIsi n (cE Γ k X.env.scope a) | none => eNone) else eNone
                | _ => eNone) else eNone)) else eNone) ?_ ?_
              · cases b <;> rfl
              · rw [if_pos hg', if_neg hd]
            rw [e1]
            have ha := ih.E X a c
            have hna := hst a List.mem_cons_self
            have hnb := hst b (List.mem_cons_of_mem _ List.mem_cons_self)
            split
            · rename_i n hb
              have hs : SA X [a, b] [cE Γ k X.env.scope a, cE Γ k X.env.scope b] := sa_cons hna ha (sa_cons hnb (ih.E X b c) sa_nil)
              rcases bi2_of hb with ⟨rfl, rfl⟩ | ⟨rfl, rfl⟩
              · exact se_bi gl (c.bi _ (by decide +kernel) hd') PyProof.Rows.boot_max hn1 hd1 hst hs fun _ _ h => max_ok c.calm h
              · exact se_bi gl (c.bi _ (by decide +kernel) hd') PyProof.Rows.boot_min hn1 hd1 hst hs fun _ _ h => min_ok c.calm h
            · split
              · rename_i hx
                subst hx
                split
                · rename_i t pt
                  split
                  · rename_i hgt
                    rw [Bool.and_eq_true] at hgt
                    obtain ⟨hot, glt⟩ := gl_of hgt.1
                    obtain ⟨ht1, ht2, ht3⟩ := ok_name hot
                    split
                    · rename_i n hty
                      obtain ⟨hv, hmem⟩ := tyOf_of hty
                      exact se_isi gl (c.bi _ (by decide +kernel) hd') glt (c.bi _ hmem (by simpa using hgt.2)) hv ht3 ht1 hna ha
                    · exact SE.none
                  · exact SE.none
                · exact SE.none
              · exact SE.none
          | a :: b :: d :: es, _, hg' =>
            have e1 : cE Γ (k + 1) X.env.scope (.Call (.Name x px) (a :: b :: d :: es) [] p) = eNone := by
              show (if (glB X.env.scope x && (a :: b :: d :: es).all noStar) = true then (if Γ.isDef x = true then eCall (Γ.call x) (cEs Γ k X.env.scope (a :: b :: d :: es)) else eNone) else eNone) = _
              rw [if_pos hg', if_neg hd]
            rw [e1]; exact SE.none
      · have e1 : cE Γ (k + 1) X.env.scope (.Call (.Name x px) args [] p) = eNone := by
          show (if (glB X.env.scope x && args.all noStar) = true then _ else eNone) = _
          rw [if_neg hg]
        rw [e1]
        exact SE.none
    all_goals exact SE.none
theorem e_lcArgs {X : Cx} (c : CtxOk Γ X) {g : Comprehension} {scope : Scope} {tg : Tgt} (h1 : g.is_async = 0 ∧ blkC Γ.N X.env.scope scope (ownOf Γ.N scope) = true) (h2 : tgtOf Γ.N (locB scope) g.target = some tg) :
    BlkOk X.N X.env.scope scope (ownOf Γ.N scope) ∧ SG (Blk X scope) g.target tg ∧ (∀ i ∈ tg.slots, i ∈ (ownOf Γ.N scope).map (·.2)) := by
  have so : StorOk (Blk X scope) (locB scope) := by
    intro x h
    unfold locB at h
    have key : scope.names.lookup x = some .local ∨ scope.names.lookup x = some .cell := by
      split at h
      · rename_i e; exact .inl e
      · rename_i e; exact .inr e
      · cases h
    rcases key with e | e
    · have e2 : (relS scope X.env.scope).names.lookup x = some .local := lookup_relS_keep (by decide) e
      exact ⟨.inl e2, .inr e2⟩
    · have e2 : (relS scope X.env.scope).names.lookup x = some .cell := lookup_relS_keep (by decide) e
      refine ⟨.inr e2, .inl ?_⟩
      show (scope.names.lookup x == some .cell) = true
      rw [e]
      rfl
  have mem : ∀ {x : Str} {i : Nat}, locB scope x = true → ixOf Γ.N x = some i → i ∈ (ownOf Γ.N scope).map (·.2) := by
    intro x i h hi
    unfold locB at h
    have key : ∃ kd, scope.names.lookup x = some kd ∧ (kd = .local ∨ kd = .cell) := by
      split at h
      · rename_i e; exact ⟨_, e, .inl rfl⟩
      · rename_i e; exact ⟨_, e, .inr rfl⟩
      · cases h
    obtain ⟨kd, e, hk⟩ := key
    have hm := PySem.mem_of_lookup e
    refine List.mem_map.mpr ⟨(x, i), ?_, rfl⟩
    unfold ownOf
    refine List.mem_filterMap.mpr ⟨(x, kd), hm, ?_⟩
    rcases hk with rfl | rfl <;> simp [hi]
  refine ⟨by rw [c.N]; exact blkOk_by h1.2, ?_, ?_⟩
  · exact sg_of so (by show X.N.Nodup; rw [c.N]; exact c.nd) c.calm (by show tgtOf X.N _ _ = _; rw [c.N]; exact h2)
  · generalize g.target = e at h2
    cases e <;> try (cases h2; done)
    · rename_i x p
      have h2 : (if locB scope x = true then (ixOf Γ.N x).map Tgt.one else none) = some tg := h2
      split at h2
      · rename_i hl
        obtain ⟨i, hi, rfl⟩ := Option.map_eq_some_iff.mp h2
        intro j m
        rw [List.mem_singleton.mp m]
        exact mem hl hi
      · cases h2
    · rename_i es k0 p
      have h2 : (namesIx Γ.N (locB scope) es).map Tgt.many = some tg := h2
      obtain ⟨is, hi, rfl⟩ := Option.map_eq_some_iff.mp h2
      have : ∀ {es : List Expr} {is : List Nat}, namesIx Γ.N (locB scope) es = some is → ∀ i ∈ is, i ∈ (ownOf Γ.N scope).map (·.2) := by
        intro es
        induction es with
        | nil => intro is h i m; cases h; cases m
        | cons e es ih2 =>
          intro is h i m
          cases e <;> try (cases h; done)
          unfold namesIx at h
          split at h
          · rename_i hl
            obtain ⟨i', e1, h⟩ := Option.bind_eq_some_iff.mp h
            obtain ⟨is', e2, rfl⟩ := Option.map_eq_some_iff.mp h
            rcases List.mem_cons.mp m with rfl | m
            · exact mem hl e1
            · exact ih2 e2 i m
          · cases h
      exact this hi
theorem noSet_I {X : Cx} {e : Expr} {f : Itw} : True := trivial
end
theorem si_noset {Γ : Ctx} {k : Nat} {sc : Scope} {e : Expr} (h : noSet e = false) : cI Γ k sc e = fun _ => none := by
  cases e <;> try (cases h; done)
  cases k <;> rfl
theorem e_lc {Γ : Ctx} {k : Nat} (ih : AllE Γ k) {X : Cx} (c : CtxOk Γ X) (elt : Expr) (gs : List Comprehension) (scope : Scope) (p : Pos) : SE X (.ListComp elt gs scope p) (cE Γ (k + 1) X.env.scope (.ListComp elt gs scope p)) := by
  match gs with
  | [] => exact SE.none
  | g :: g' :: g'' :: gs => exact SE.none
  | [g, g1] =>
    show SE X _ (if g.is_async = 0 ∧ g1.is_async = 0 ∧ blkC Γ.N X.env.scope scope (ownOf Γ.N scope) = true ∧ noSetX g.iter = true ∧ noSetX g1.iter = true then (match tgtOf Γ.N (locB scope) g.target, tgtOf Γ.N (locB scope) g1.target with
          | some tg, some tg1 => eLC2 ((ownOf Γ.N scope).map (·.2)) tg (cI Γ k X.env.scope g.iter) (cIfs Γ k (relS scope X.env.scope) g.ifs) (cI Γ k (relS scope X.env.scope) g1.iter) tg1.slots tg1 (cIfs Γ k (relS scope X.env.scope) g1.ifs) (cE Γ k (relS scope X.env.scope) elt)
          | _, _ => eNone) else eNone)
    split
    · rename_i h1
      split
      · rename_i tg tg1 h2 h3
        obtain ⟨b1, b2, b3⟩ := e_lcArgs ih c ⟨h1.1, h1.2.2.1⟩ h2
        obtain ⟨_, d2, d3⟩ := e_lcArgs ih c ⟨h1.2.1, h1.2.2.1⟩ h3
        obtain ⟨tge, it, ifs, asy⟩ := g
        obtain ⟨tge1, it1, ifs1, asy1⟩ := g1
        have h0 : asy = 0 := h1.1
        have h01 : asy1 = 0 := h1.2.1
        subst h0 h01
        have n1 : noSet it = true := by
          have := h1.2.2.2.1
          cases it <;> first | rfl | (cases this)
        have n2 : noSet it1 = true := by
          have := h1.2.2.2.2
          cases it1 <;> first | rfl | (cases this)
        exact se_lc2 c.calm (by rw [c.N]; exact c.nd) b1 (ih.I X it c) b2 b3 (ih.F (Blk X scope) ifs (c.blk scope)) (ih.I (Blk X scope) it1 (c.blk scope)) d2 (fun _ m => m) d3 (ih.F (Blk X scope) ifs1 (c.blk scope)) (ih.E (Blk X scope) elt (c.blk scope)) n1 n2
      · exact SE.none
    · exact SE.none
  | [g] =>
    show SE X _ (if g.is_async = 0 ∧ blkC Γ.N X.env.scope scope (ownOf Γ.N scope) = true then (match tgtOf Γ.N (locB scope) g.target with
          | some tg => eLC ((ownOf Γ.N scope).map (·.2)) tg (cI Γ k X.env.scope g.iter) (cIfs Γ k (relS scope X.env.scope) g.ifs) (cE Γ k (relS scope X.env.scope) elt)
          | none => eNone) else eNone)
    split
    · rename_i h1
      split
      · rename_i tg h2
        obtain ⟨b1, b2, b3⟩ := e_lcArgs ih c h1 h2
        obtain ⟨tge, it, ifs, asy⟩ := g
        have h0 : asy = 0 := h1.1
        subst h0
        by_cases hs : noSet it = true
        · exact se_lc c.calm (by rw [c.N]; exact c.nd) b1 (ih.I X it c) b2 b3 (ih.F (Blk X scope) ifs (c.blk scope)) (ih.E (Blk X scope) elt (c.blk scope)) hs
        · have e1 : cI Γ k X.env.scope it = fun _ => none := si_noset (by simpa using hs)
          intro T S H σ env φ Q r env' L e kq
          unfold eLC at e
          rw [e1] at e
          cases e
      · exact SE.none
    · exact SE.none
theorem allS {Γ : Ctx} {k : Nat} (ih : AllE Γ k) (ih' : ∀ j, k = j + 1 → AllE Γ j) : AllE Γ (k + 1) where
  E := fun X e c => by
    cases e <;> try exact SE.none
    · exact ih.B X _ _ _ c
    · exact se_bin (ih.E X _ c) (ih.E X _ c)
    · rename_i op a p
      cases op <;> try exact SE.none
      · exact se_not (ih.E X _ c)
      · exact se_neg (ih.E X _ c)
    · exact e_lc ih c _ _ _ _
    · rename_i a ops cs p
      match ops, cs with
      | [], _ => exact SE.none
      | [op], [] => exact SE.none
      | [op], [b] =>
        show SE X _ (if isMark op b then eNone else eCmp op (cE Γ k X.env.scope a) (cE Γ k X.env.scope b))
        split
        · exact SE.none
        · rename_i h
          exact se_cmp c.hu (by simpa using h) (ih.E X _ c) (ih.E X _ c)
      | [op], _ :: _ :: _ => exact SE.none
      | [op, op'], [] => exact SE.none
      | [op, op'], [b] => exact SE.none
      | [op, op'], [b, d] =>
        show SE X _ (if isMark op b || isMark op' d then eNone else eCmp2 op op' (cE Γ k X.env.scope a) (cE Γ k X.env.scope b) (cE Γ k X.env.scope d))
        split
        · exact SE.none
        · rename_i h
          have h' : isMark op b = false ∧ isMark op' d = false := by simpa using h
          exact se_cmp2 c.hu h'.1 h'.2 (ih.E X _ c) (ih.E X _ c) (ih.E X _ c)
      | [op, op'], _ :: _ :: _ :: _ => exact SE.none
      | _ :: _ :: _ :: _, _ => exact SE.none
    · exact e_call ih c _ _ _ _
    · rename_i cc k0 p
      cases cc <;> try exact SE.none
      · exact se_c (fun _ _ _ _ _ => pe_non) fun _ => .non
      · exact se_c (fun _ _ _ _ _ => pe_bl) fun _ => .bl _
      · exact se_c (fun _ _ _ _ _ => pe_int) fun _ => .int _
      · exact se_c (fun _ _ _ _ _ => pe_str) fun _ => .str _
    · rename_i a ix p
      cases ix
      case Slice lo hi st p2 =>
        cases st with
        | none => exact se_sl (ih.E X _ c) (ih.O X _ c) (ih.O X _ c)
        | some st =>
          show SE X _ (if isRev (.Slice lo hi (some st) p2) then eRev (cE Γ k X.env.scope a) else match stepOf st with
            | some n => eStp (cE Γ k X.env.scope a) (cO Γ k X.env.scope lo) (cO Γ k X.env.scope hi) n
            | none => eNone)
          split
          · rename_i h
            exact se_rev h (ih.E X _ c)
          · split
            · rename_i n hn
              unfold stepOf at hn
              split at hn
              · split at hn
                · cases hn
                · rename_i h0
                  cases hn
                  exact se_stp h0 (ih.E X _ c) (ih.O X _ c) (ih.O X _ c)
              · cases hn
            · exact SE.none
      all_goals exact se_ix rfl (ih.E X _ c) (ih.E X _ c)
    · exact e_name ih c _ _
    · exact se_list (ih.Es X _ c)
    · exact se_tup (ih.Es X _ c)
  Es := fun X es c => by
    cases es with
    | nil => exact sa_nil
    | cons e es =>
      by_cases h : noStar e = true
      · exact sa_cons h (ih.E X _ c) (ih.Es X _ c)
      · show SA X (e :: es) (cE Γ k X.env.scope e :: cEs Γ k X.env.scope es)
        have e1 : cE Γ k X.env.scope e = eNone := by
          cases e <;> try (exact absurd rfl h)
          cases k <;> rfl
        rw [e1]
        exact sa_bad
  O := fun X o c => by
    cases o with
    | none => exact so_none
    | some e => exact so_some (ih.E X _ c)
  B := fun X op es pos c => by
    match es with
    | [] => exact SE.none
    | [a] => exact se_one (ih.E X _ c)
    | a :: b :: r =>
      cases op with
      | And => exact se_and (ih.E X _ c) (ih.B X .And (b :: r) pos c)
      | Or => exact se_or (ih.E X _ c) (ih.B X .Or (b :: r) pos c)
  T := fun X e c => by
    have he := ih.E X e c
    cases e
    case UnaryOp op a p =>
      cases op <;> try exact ST.none
      exact st_not (ih.T X _ c)
    case BoolOp op es p => exact (ih.Ts X op es p c).st
    case IfExp => exact ST.none
    case Compare a ops cs p =>
      show ST X _ (tV (cE Γ k X.env.scope (.Compare a ops cs p)))
      have bad : ST X (.Compare a ops cs p) (tV eNone) := fun T S H σ env φ Q b env' L e kq => nomatch e
      cases k with
      | zero => exact bad
      | succ k =>
        have ij := ih' k rfl
        match ops, cs with
        | [], _ => exact bad
        | [op], [] => exact bad
        | [op], [b] =>
          show ST X _ (tV (if isMark op b then eNone else eCmp op (cE Γ k X.env.scope a) (cE Γ k X.env.scope b)))
          split
          · exact fun T S H σ env φ Q b env' L e kq => nomatch e
          · rename_i h
            exact st_cmp c.hu (by simpa using h) (ij.E X _ c) (ij.E X _ c)
        | [op], _ :: _ :: _ => exact fun T S H σ env φ Q b env' L e kq => nomatch e
        | [op, op'], [] => exact fun T S H σ env φ Q b env' L e kq => nomatch e
        | [op, op'], [b] => exact fun T S H σ env φ Q b env' L e kq => nomatch e
        | [op, op'], [b, d] =>
          show ST X _ (tV (if isMark op b || isMark op' d then eNone else eCmp2 op op' (cE Γ k X.env.scope a) (cE Γ k X.env.scope b) (cE Γ k X.env.scope d)))
          split
          · exact fun T S H σ env φ Q b env' L e kq => nomatch e
          · rename_i h
            have h' : isMark op b = false ∧ isMark op' d = false := by simpa using h
            exact st_cmp2 c.hu h'.1 h'.2 (ij.E X _ c) (ij.E X _ c) (ij.E X _ c)
        | [op, op'], _ :: _ :: _ :: _ => exact fun T S H σ env φ Q b env' L e kq => nomatch e
        | _ :: _ :: _ :: _, _ => exact fun T S H σ env φ Q b env' L e kq => nomatch e
    all_goals exact st_val rfl he
  Ts := fun X op es pos c => by
    match es with
    | [] => exact sw_none
    | [a] =>
      cases op with
      | And => exact sw_and1 (ih.T X _ c)
      | Or => exact sw_or1 (ih.T X _ c)
    | a :: b :: r =>
      cases op with
      | And => exact sw_and (ih.T X _ c) (ih.Ts X .And (b :: r) pos c)
      | Or => exact sw_or (ih.T X _ c) (ih.Ts X .Or (b :: r) pos c)
  F := fun X es c => by
    match es with
    | [] => exact sf_nil
    | [a] => exact sf_one (ih.T X _ c)
    | a :: b :: r => exact sf_bad
  I := fun X e c => by
    cases e
    case Set => exact si_none
    case Call f args kws p =>
      cases f
      case Name x px =>
        cases kws with
        | cons _ _ => exact si_none
        | nil =>
          show SI X _ (if glB X.env.scope x && !Γ.isDef x && (x == "range" || x == "reversed") && args.all noStar then (match args with
          | [a] => if x = "range" then iR1 (cE Γ k X.env.scope a) else iRv (cE Γ k X.env.scope a)
          | [a, b] => if x = "range" then iR2 (cE Γ k X.env.scope a) (cE Γ k X.env.scope b) else fun _ => none
          | [a, b, c] => if x = "range" then iR3 (cE Γ k X.env.scope a) (cE Γ k X.env.scope b) (cE Γ k X.env.scope c) else fun _ => none
          | _ => fun _ => none) else iV (cE Γ k X.env.scope (.Call (.Name x px) args [] p)))
          split
          · rename_i h
            simp only [Bool.and_eq_true, Bool.or_eq_true, beq_iff_eq, Bool.not_eq_true'] at h
            obtain ⟨⟨⟨h1, h2⟩, h3⟩, h4⟩ := h
            obtain ⟨ho, gl⟩ := gl_of h1
            have hst : ∀ e ∈ args, noStar e = true := List.all_eq_true.mp h4
            match args, hst with
            | [], _ => exact si_none
            | [a], hst =>
              show SI X _ (if x = "range" then iR1 (cE Γ k X.env.scope a) else iRv (cE Γ k X.env.scope a))
              split
              · rename_i hx
                subst hx
                exact si_r1 gl (c.bi _ (by decide +kernel) h2) (hst a List.mem_cons_self) (ih.E X _ c)
              · rename_i hx
                rcases h3 with h3 | h3
                · exact absurd h3 hx
                · subst h3
                  exact si_rev gl (c.bi _ (by decide +kernel) h2) (hst a List.mem_cons_self) (ih.E X _ c)
            | [a, b], hst =>
              show SI X _ (if x = "range" then iR2 (cE Γ k X.env.scope a) (cE Γ k X.env.scope b) else fun _ => none)
              split
              · rename_i hx
                subst hx
                exact si_r2 gl (c.bi _ (by decide +kernel) h2) (hst a List.mem_cons_self) (hst b (List.mem_cons_of_mem _ List.mem_cons_self)) (ih.E X _ c) (ih.E X _ c)
              · exact si_none
            | [a, b, c'], hst =>
              show SI X _ (if x = "range" then iR3 (cE Γ k X.env.scope a) (cE Γ k X.env.scope b) (cE Γ k X.env.scope c') else fun _ => none)
              split
              · rename_i hx
                subst hx
                exact si_r3 gl (c.bi _ (by decide +kernel) h2) (hst a List.mem_cons_self) (hst b (List.mem_cons_of_mem _ List.mem_cons_self)) (hst c' (List.mem_cons_of_mem _ (List.mem_cons_of_mem _ List.mem_cons_self))) (ih.E X _ c) (ih.E X _ c) (ih.E X _ c)
              · exact si_none
            | _ :: _ :: _ :: _ :: _, _ => exact si_none
          · exact si_val (ih.E X _ c)
      all_goals exact si_none
    all_goals exact si_val (ih.E X _ c)
theorem allE (Γ : Ctx) : ∀ k, AllE Γ k
  | 0 => all0 Γ
  | 1 => allS (all0 Γ) fun j h => nomatch h
  | k + 2 => allS (allE Γ (k + 1)) fun j h => by cases h; exact allE Γ k
end PY
set_option maxHeartbeats 2000000
/-! PyH: statements of the compile, the defs, the law's end. -/
namespace PY
open PySem L2

structure StmOk (X : Cx) : Prop where
  so : StorOk X (locB X.env.scope)
  hp : PassesOwn (model X.prog X.w) X.A X.env X.xe
structure AllB (Γ : Ctx) (k : Nat) : Prop where
  S : ∀ X st, CtxOk Γ X → StmOk X → SS X st (cS Γ k X.env.scope st)
  A : ∀ X j y p e pos, CtxOk Γ X → StmOk X → X.N[j]? = some y → locB X.env.scope y = true → SS X (.Assign [.Name y p] e pos) (cAsg Γ k X.env.scope j e)
  B : ∀ X sts, CtxOk Γ X → StmOk X → SB X sts (cB Γ k X.env.scope sts)
theorem ss_setNone {X : Cx} {st : Stmt} {j : Nat} : SS X st (sSet j eNone) := fun _ _ _ _ _ _ _ _ _ _ h _ => nomatch h
theorem ss_lcs {Γ : Ctx} {X : Cx} (c : CtxOk Γ X) (s : StmOk X) {j k : Nat} {y : Str} {p pos : Pos} (hx : X.N[j]? = some y) (hl : locB X.env.scope y = true) (elt : Expr) (gs : List Comprehension) (scope : Scope) (pl : Pos) :
    SS X (.Assign [.Name y p] (.ListComp elt gs scope pl) pos) (sSet j (cE Γ k X.env.scope (.ListComp elt gs scope pl))) := by
  cases k with
  | zero => exact ss_setNone
  | succ k =>
    have ih := allE Γ k
    match gs with
    | [] => exact ss_setNone
    | g :: g' :: g'' :: gs => exact ss_setNone
    | [g, g1] =>
      show SS X _ (sSet j (if g.is_async = 0 ∧ g1.is_async = 0 ∧ blkC Γ.N X.env.scope scope (ownOf Γ.N scope) = true ∧ noSetX g.iter = true ∧ noSetX g1.iter = true then (match tgtOf Γ.N (locB scope) g.target, tgtOf Γ.N (locB scope) g1.target with
          | some tg, some tg1 => eLC2 ((ownOf Γ.N scope).map (·.2)) tg (cI Γ k X.env.scope g.iter) (cIfs Γ k (relS scope X.env.scope) g.ifs) (cI Γ k (relS scope X.env.scope) g1.iter) tg1.slots tg1 (cIfs Γ k (relS scope X.env.scope) g1.ifs) (cE Γ k (relS scope X.env.scope) elt)
          | _, _ => eNone) else eNone))
      split
      · rename_i h1
        split
        · rename_i tg tg1 h2 h3
          obtain ⟨b1, b2, b3⟩ := e_lcArgs ih c ⟨h1.1, h1.2.2.1⟩ h2
          obtain ⟨_, d2, d3⟩ := e_lcArgs ih c ⟨h1.2.1, h1.2.2.1⟩ h3
          obtain ⟨tge, it, ifs, asy⟩ := g
          obtain ⟨tge1, it1, ifs1, asy1⟩ := g1
          have h0 : asy = 0 := h1.1
          have h01 : asy1 = 0 := h1.2.1
          subst h0 h01
          have n1 : noSet it = true := by
            have := h1.2.2.2.1
            cases it <;> first | rfl | (cases this)
          have n2 : noSet it1 = true := by
            have := h1.2.2.2.2
            cases it1 <;> first | rfl | (cases this)
          exact ss_setLc2 (by rw [c.N]; exact c.nd) hx (s.so y hl) c.calm b1 (ih.I X it c) b2 b3 (ih.F (Blk X scope) ifs (c.blk scope)) (ih.I (Blk X scope) it1 (c.blk scope)) d2 (fun _ m => m) d3 (ih.F (Blk X scope) ifs1 (c.blk scope)) (ih.E (Blk X scope) elt (c.blk scope)) n1 n2
        · exact ss_setNone
      · exact ss_setNone
    | [g] =>
      show SS X _ (sSet j (if g.is_async = 0 ∧ blkC Γ.N X.env.scope scope (ownOf Γ.N scope) = true then (match tgtOf Γ.N (locB scope) g.target with
          | some tg => eLC ((ownOf Γ.N scope).map (·.2)) tg (cI Γ k X.env.scope g.iter) (cIfs Γ k (relS scope X.env.scope) g.ifs) (cE Γ k (relS scope X.env.scope) elt)
          | none => eNone) else eNone))
      split
      · rename_i h1
        split
        · rename_i tg h2
          obtain ⟨b1, b2, b3⟩ := e_lcArgs ih c h1 h2
          obtain ⟨tge, it, ifs, asy⟩ := g
          have h0 : asy = 0 := h1.1
          subst h0
          by_cases hs : noSet it = true
          · exact ss_setLc (by rw [c.N]; exact c.nd) hx (s.so y hl) c.calm b1 (ih.I X it c) b2 b3 (ih.F (Blk X scope) ifs (c.blk scope)) (ih.E (Blk X scope) elt (c.blk scope)) hs
          · have e1 : cI Γ k X.env.scope it = fun _ => none := si_noset (by simpa using hs)
            intro T S H σ env φ D cc L hl e kq
            unfold sSet eLC at e
            rw [e1] at e
            cases e
        · exact ss_setNone
      · exact ss_setNone
theorem stor_blk {X : Cx} {scope : Scope} : StorOk (Blk X scope) (locB scope) := by
  intro x h
  unfold locB at h
  have key : scope.names.lookup x = some .local ∨ scope.names.lookup x = some .cell := by
    split at h
    · rename_i e; exact .inl e
    · rename_i e; exact .inr e
    · cases h
  rcases key with e | e
  · have e2 : (relS scope X.env.scope).names.lookup x = some .local := lookup_relS_keep (by decide) e
    exact ⟨.inl e2, .inr e2⟩
  · have e2 : (relS scope X.env.scope).names.lookup x = some .cell := lookup_relS_keep (by decide) e
    refine ⟨.inr e2, .inl ?_⟩
    show (scope.names.lookup x == some .cell) = true
    rw [e]
    rfl
theorem allB0 (Γ : Ctx) : AllB Γ 0 := ⟨fun _ _ _ _ => ss_none, fun _ _ _ _ _ _ _ _ _ _ => ss_none, fun _ _ _ _ => sb_none⟩
theorem allBS {Γ : Ctx} {k : Nat} (ih : AllB Γ k) : AllB Γ (k + 1) where
  A := fun X j y p e pos c s hx hl => by
    have nd : X.N.Nodup := by rw [c.N]; exact c.nd
    cases e
    case Call f args kws cpos =>
      cases f
      case Attribute o m apos =>
        cases o
        case Name sn sp =>
          match args, kws with
          | [], [] =>
            show SS X _ (if visB X.env.scope sn && apos.endLine == cpos.line && decide (m = "pop") then (match ixOf Γ.N sn with
              | some i => sSetPop j i
              | none => sNone) else sSet j (eTm (cE Γ k X.env.scope (.Call (.Attribute (.Name sn sp) m apos) [] [] cpos))))
            split
            · rename_i h
              simp only [Bool.and_eq_true, decide_eq_true_eq] at h
              obtain ⟨⟨h1, h2⟩, rfl⟩ := h
              obtain ⟨ho, vis⟩ := vis_of h1
              obtain ⟨d1, d2, _⟩ := ok_name ho
              split
              · rename_i i hi
                exact ss_setpop nd hx (s.so y hl) (by rw [c.N]; exact ixOf_at hi) vis d1 d2 h2
              · exact ss_none
            · exact ss_set nd hx (s.so y hl) rfl (se_tmp ((allE Γ k).E X _ c))
          | [], _ :: _ => exact ss_set nd hx (s.so y hl) rfl (se_tmp ((allE Γ k).E X _ c))
          | _ :: _, _ => exact ss_set nd hx (s.so y hl) rfl (se_tmp ((allE Γ k).E X _ c))
        all_goals exact ss_set nd hx (s.so y hl) rfl (se_tmp ((allE Γ k).E X _ c))
      all_goals exact ss_set nd hx (s.so y hl) rfl (se_tmp ((allE Γ k).E X _ c))
    case SetComp => exact ss_none
    case DictComp => exact ss_none
    case ListComp => exact ss_lcs c s hx hl _ _ _ _
    all_goals exact ss_set nd hx (s.so y hl) rfl (se_tmp ((allE Γ k).E X _ c))
  B := fun X sts c s => by
    match sts with
    | [] => exact sb_nil
    | [st] => exact sb_one (ih.S X _ c s)
    | st :: st' :: r => exact sb_cons (ih.S X _ c s) (ih.B X _ c s)
  S := fun X st c s => by
    have nd : X.N.Nodup := by rw [c.N]; exact c.nd
    have ie := allE Γ k
    cases st
    case Return o p =>
      cases o with
      | none => exact ss_retN
      | some e =>
        cases e
        case Tuple es x1 p1 => exact ss_retT (ie.Es X _ c)
        case Subscript ea ei pb =>
          show SS X _ (match pickOf Γ.N X.env.scope (.Subscript ea ei pb) with
              | some (n, m, scope, cs) => sRetPick n m (cIfs Γ k (relS scope X.env.scope) cs) (cE Γ k X.env.scope (.Subscript ea ei pb))
              | none => sRet (cE Γ k X.env.scope (.Subscript ea ei pb)))
          split
          · rename_i n m scope cs hb
            unfold pickOf at hb
            split at hb
            · split at hb
              · rename_i heq hh
                cases heq
                obtain ⟨rfl, h1, h2, h3, h4, h5⟩ := hh
                obtain ⟨i, hi, hb⟩ := Option.bind_eq_some_iff.mp hb
                obtain ⟨j, hj, hb⟩ := Option.map_eq_some_iff.mp hb
                cases hb
                rw [hi] at h4
                have h4 := Option.some.inj h4
                dsimp only at h4
                obtain ⟨oy, vy⟩ := vis_of h1
                obtain ⟨ox, vx⟩ := vis_of h2
                obtain ⟨x1, x2, _⟩ := ok_name ox
                obtain ⟨y1, y2, _⟩ := ok_name oy
                have so : StorOk (Blk X scope) (locB scope) := stor_blk
                exact ss_retPick c.calm nd (by rw [h4, c.N]; exact blkOk_by h5) (by rw [c.N]; exact ixOf_at hi) (by rw [c.N]; exact ixOf_at hj) vy y1 y2 vx x1 x2 so h3 (ie.F (Blk X scope) _ (c.blk scope)) (ie.E X _ c)
              · cases hb
            · cases hb
          · exact ss_ret (ie.E X _ c)
        case ListComp ea gs scope0 pb =>
          show SS X _ (match filtOf Γ.N X.env.scope (.ListComp ea gs scope0 pb) with
              | some (n, it, scope, cs) => sRetFilt n (cE Γ k X.env.scope it) (cIfs Γ k (relS scope X.env.scope) cs) (sRet (cE Γ k X.env.scope (.ListComp ea gs scope0 pb)))
              | none => sRet (cE Γ k X.env.scope (.ListComp ea gs scope0 pb)))
          split
          · rename_i n it scope cs hb
            unfold filtOf at hb
            split at hb
            · split at hb
              · rename_i heq hh
                cases heq
                obtain ⟨rfl, h2, h3, h4, h5⟩ := hh
                obtain ⟨i, hi, hb⟩ := Option.map_eq_some_iff.mp hb
                cases hb
                rw [hi] at h4
                have h4 := Option.some.inj h4
                dsimp only at h4
                obtain ⟨ox, vx⟩ := vis_of h2
                obtain ⟨x1, x2, _⟩ := ok_name ox
                have so : StorOk (Blk X scope0) (locB scope0) := stor_blk
                exact ss_retFilt c.calm nd (by rw [h4, c.N]; exact blkOk_by h5) (by rw [c.N]; exact ixOf_at hi) vx x1 x2 so h3 (ie.F (Blk X scope0) _ (c.blk scope0)) (ie.E X _ c) rfl (ss_ret (ie.E X _ c))
              · cases hb
            · cases hb
          · exact ss_ret (ie.E X _ c)
        case BinOp ea op eb pb =>
          by_cases hq : ∃ x px elt gs s0 p0, ea = .Name x px ∧ op = .Add ∧ eb = .ListComp elt gs s0 p0
          · obtain ⟨x, px, elt, gs, s0, p0, rfl, rfl, rfl⟩ := hq
            show SS X _ (match (if visB X.env.scope x then (ixOf Γ.N x).map fun i => (i, Expr.ListComp elt gs s0 p0) else none) with
              | some (i, b) => sRetAdd i (cE Γ k X.env.scope b)
              | none => sRet (cE Γ k X.env.scope _))
            split
            · rename_i i b hb
              split at hb
              · rename_i hv
                obtain ⟨i', hi, hb⟩ := Option.map_eq_some_iff.mp hb
                cases hb
                obtain ⟨ox, vx⟩ := vis_of hv
                obtain ⟨x1, x2, _⟩ := ok_name ox
                exact ss_retAdd (by rw [c.N]; exact ixOf_at hi) vx x1 x2 (ie.E X _ c)
              · cases hb
            · exact ss_ret (ie.E X _ c)
          · have e1 : addLc Γ.N X.env.scope (.BinOp ea op eb pb) = none := by
              unfold addLc
              split
              · rename_i h
                cases h
                exact absurd ⟨_, _, _, _, _, _, rfl, rfl, rfl⟩ hq
              · rfl
            show SS X _ (match addLc Γ.N X.env.scope (.BinOp ea op eb pb) with
              | some (i, b) => sRetAdd i (cE Γ k X.env.scope b)
              | none => sRet (cE Γ k X.env.scope (.BinOp ea op eb pb)))
            rw [e1]
            exact ss_ret (ie.E X _ c)
        all_goals exact ss_ret (ie.E X _ c)
    case Assign ts e p =>
      match ts with
      | [] => exact ss_none
      | _ :: _ :: _ => exact ss_none
      | [t] =>
        cases t
        case Name y py =>
          show SS X _ (if locB X.env.scope y then (match ixOf Γ.N y with
            | some j => cAsg Γ k X.env.scope j e
            | none => sNone) else sNone)
          split
          · rename_i h
            split
            · rename_i j hj
              exact ih.A X j y py e p c s (by rw [c.N]; exact ixOf_at hj) h
            · exact ss_none
          · exact ss_none
        case Tuple es k0 tp =>
          by_cases ht : noTuple e = true
          · have e1 : cS Γ (k + 1) X.env.scope (.Assign [.Tuple es k0 tp] e p) = (match namesIx Γ.N (locB X.env.scope) es with
              | some is => sSets is (eTm (cE Γ k X.env.scope e))
              | none => sNone) := by
              cases e <;> first | rfl | (cases ht)
            rw [e1]
            split
            · rename_i is hi
              exact ss_sets s.so nd c.calm (by rw [c.N]; exact hi) (sto_tup ht) (se_tmp (ie.E X _ c))
            · exact ss_none
          · cases e <;> try (exact absurd rfl ht)
            case Tuple vs k2 p2 =>
              show SS X _ (if parOk X.env.scope es vs then (match namesIx Γ.N (locB X.env.scope) es with
                | some is => sPar is (cEs Γ k X.env.scope vs)
                | none => sNone) else if cellOk X.env.scope es vs then (match namesIx Γ.N (locB X.env.scope) es with
                | some is => sSets is (eTm (cE Γ k X.env.scope (.Tuple vs k2 p2)))
                | none => sNone) else (match subs2 Γ.N X.env.scope es with
                | some (i, ix, j, iy) => sStore2 i (cE Γ k X.env.scope ix) j (cE Γ k X.env.scope iy) (cE Γ k X.env.scope (.Tuple vs k2 p2))
                | none => sNone))
              split
              · rename_i hp
                split
                · rename_i is hi
                  have hp' := hp
                  unfold parOk at hp'
                  split at hp'
                  · exact ss_par nd c.calm hp (by rw [c.N]; exact hi) (ie.Es X _ c)
                  · cases hp'
                · exact ss_none
              · split
                · rename_i hcl
                  split
                  · rename_i is hi
                    exact ss_sets s.so nd c.calm (by rw [c.N]; exact hi) (sto_cell hcl) (se_tmp (ie.E X _ c))
                  · exact ss_none
                · split
                  · rename_i i ix j iy h2
                    unfold subs2 at h2
                    split at h2
                    · split at h2
                      · rename_i hh
                        simp only [Bool.and_eq_true] at hh
                        obtain ⟨⟨⟨v1, p1⟩, v2⟩, p3⟩ := hh
                        obtain ⟨i', hi, h2⟩ := Option.bind_eq_some_iff.mp h2
                        obtain ⟨j', hj, h2⟩ := Option.map_eq_some_iff.mp h2
                        cases h2
                        obtain ⟨o1, w1⟩ := vis_of v1
                        obtain ⟨a1, a2, _⟩ := ok_name o1
                        obtain ⟨o2, w2⟩ := vis_of v2
                        obtain ⟨b1, b2, _⟩ := ok_name o2
                        exact ss_store2 c.calm (by rw [c.N]; exact ixOf_at hi) w1 a1 a2 p1 (ie.E X _ c) (by rw [c.N]; exact ixOf_at hj) w2 b1 b2 p3 (ie.E X _ c) sto_subs (ie.E X _ c)
                      · cases h2
                    · cases h2
                  · exact ss_none
        case Subscript o i tp =>
          cases o
          case Name sn sp =>
            show SS X _ (if visB X.env.scope sn && plainIx i then (match ixOf Γ.N sn with
              | some j => sStore j (cE Γ k X.env.scope i) (cE Γ k X.env.scope e)
              | none => sNone) else sNone)
            split
            · rename_i h
              rw [Bool.and_eq_true] at h
              obtain ⟨ho, vis⟩ := vis_of h.1
              obtain ⟨d1, d2, _⟩ := ok_name ho
              split
              · rename_i j hj
                exact ss_store (by rw [c.N]; exact ixOf_at hj) vis d1 d2 h.2 (ie.E X _ c) (ie.E X _ c)
              · exact ss_none
            · exact ss_none
          all_goals exact ss_none
        all_goals exact ss_none
    case For t it body els p =>
      match els with
      | _ :: _ => exact ss_none
      | [] =>
        show SS X _ (match appLoop Γ.N X.env.scope t it body with
          | some (n, m, a) => sForA n m (cE Γ k X.env.scope a)
          | none => match tgtOf Γ.N (locB X.env.scope) t with
            | some tg => sFor tg (cI Γ k X.env.scope it) (cB Γ k X.env.scope body)
            | none => sNone)
        split
        · rename_i n m a h
          unfold appLoop at h
          split at h
          · split at h
            · rename_i hh
              obtain ⟨rfl, rfl, h1, h2, h3, h4, h5⟩ := hh
              obtain ⟨i, hi, h⟩ := Option.bind_eq_some_iff.mp h
              obtain ⟨j, hj, h⟩ := Option.map_eq_some_iff.mp h
              cases h
              obtain ⟨ox, vx⟩ := vis_of h2
              obtain ⟨oy, vy⟩ := vis_of h3
              obtain ⟨x1, x2, _⟩ := ok_name ox
              obtain ⟨y1, y2, _⟩ := ok_name oy
              exact ss_forA s.hp c.calm nd (by rw [c.N]; exact ixOf_at hi) (by rw [c.N]; exact ixOf_at hj) (s.so _ h1) vx vy x1 x2 y1 y2 h4 h5 (ie.E X _ c)
            · cases h
          · cases h
        split
        · rename_i tg ht
          by_cases hs : noSet it = true
          · exact ss_for s.hp c.calm hs (ie.I X _ c) (sg_of s.so nd c.calm (by rw [c.N]; exact ht)) (ih.B X _ c s)
          · have e1 : cI Γ k X.env.scope it = fun _ => none := si_noset (by simpa using hs)
            intro T S H σ env φ D cc L hl e kq
            unfold sFor at e
            rw [e1] at e
            cases e
        · exact ss_none
    case While cnd body els p =>
      match els with
      | _ :: _ => exact ss_none
      | [] => exact ss_while s.hp (ie.T X _ c) (ih.B X _ c s)
    case If cnd a b p => exact ss_if (ie.T X _ c) (ih.B X _ c s) (ih.B X _ c s)
    case Expr e p =>
      cases e
      case Call f args kws cpos =>
        cases kws with
        | cons _ _ => exact ss_none
        | nil =>
          cases f
          case Attribute o m apos =>
            cases o
            case Name sn sp =>
              show SS X _ (if visB X.env.scope sn && apos.endLine == cpos.line then (match ixOf Γ.N sn with
                | some i => match args with
                  | [a] => if m = "append" ∧ noStar a = true then sAppend i (cE Γ k X.env.scope a) else sNone
                  | [] => if m = "pop" then sPop i else sNone
                  | _ => sNone
                | none => sNone) else sNone)
              split
              · rename_i h
                simp only [Bool.and_eq_true] at h
                obtain ⟨h1, h2⟩ := h
                obtain ⟨ho, vis⟩ := vis_of h1
                obtain ⟨d1, d2, _⟩ := ok_name ho
                split
                · rename_i i hi
                  have hN : X.N[i]? = some sn := by rw [c.N]; exact ixOf_at hi
                  match args with
                  | [] =>
                    show SS X _ (if m = "pop" then sPop i else sNone)
                    split
                    · rename_i hm
                      subst hm
                      exact ss_pop hN vis d1 d2 h2
                    · exact ss_none
                  | [a] =>
                    show SS X _ (if m = "append" ∧ noStar a = true then sAppend i (cE Γ k X.env.scope a) else sNone)
                    split
                    · rename_i hm
                      obtain ⟨rfl, hs⟩ := hm
                      exact ss_append hN vis d1 d2 h2 hs (ie.E X _ c)
                    · exact ss_none
                  | _ :: _ :: _ => exact ss_none
                · exact ss_none
              · exact ss_none
            case Subscript o' ix tp =>
              cases o'
              case Name sn sp =>
                show SS X _ (if visB X.env.scope sn && apos.endLine == cpos.line && plainIx ix then (match ixOf Γ.N sn with
                  | some i => match args with
                    | [a] => if m = "append" ∧ noStar a = true then sAppend1 i (cE Γ k X.env.scope ix) (cE Γ k X.env.scope a) else sNone
                    | _ => sNone
                  | none => sNone) else sNone)
                split
                · rename_i h
                  simp only [Bool.and_eq_true] at h
                  obtain ⟨⟨h1, h2⟩, h3⟩ := h
                  obtain ⟨ho, vis⟩ := vis_of h1
                  obtain ⟨d1, d2, _⟩ := ok_name ho
                  split
                  · rename_i i hi
                    have hN : X.N[i]? = some sn := by rw [c.N]; exact ixOf_at hi
                    match args with
                    | [] => exact ss_none
                    | [a] =>
                      show SS X _ (if m = "append" ∧ noStar a = true then sAppend1 i (cE Γ k X.env.scope ix) (cE Γ k X.env.scope a) else sNone)
                      split
                      · rename_i hm
                        obtain ⟨rfl, hs⟩ := hm
                        exact ss_append1 hN vis d1 d2 h2 h3 hs (ie.E X _ c) (ie.E X _ c)
                      · exact ss_none
                    | _ :: _ :: _ => exact ss_none
                  · exact ss_none
                · exact ss_none
              all_goals exact ss_none
            all_goals exact ss_none
          case Name => exact ss_expr rfl (ie.E X _ c)
          all_goals exact ss_none
      all_goals exact ss_none
    case Pass => exact ss_pass
    case Break => exact ss_brk
    case Continue => exact ss_cont
    all_goals exact ss_none
theorem allB (Γ : Ctx) : ∀ k, AllB Γ k
  | 0 => allB0 Γ
  | k + 1 => allBS (allB Γ k)

/-! ### the defs -/
theorem findDef_name {defs : List DefI} {x : Str} {d : DefI} (h : findDef defs x = some d) : d.name = x ∧ d ∈ defs := by
  unfold findDef at h
  have h1 := List.find?_some h
  exact ⟨by simpa using h1, List.mem_of_find?_eq_some h⟩
structure Env1 (K : PySem.W.Frag) (mg : Str → Option Value) (defs : List DefI) (glob : Str → Option D) : Prop where
  scope : ∀ d ∈ defs, FnScope d.N d.ps (defScope d.st)
  fn : ∀ d ∈ defs, ∃ fa fd, Fun K d.name d.name d.st fa fd ∧ mg d.name = some (.ref fa) ∧ Binds K fd d.ps []
  bi : ∀ x ∈ bnames, findDef defs x = none → mg x = none
  glob : ∀ x d, glob x = some d → ∃ v u, mg x = some u ∧ RelV v u ∧ ∀ S, Rep K S v d
theorem start_hld {K : PySem.W.Frag} {S H : Hp} {N : List Str} {vs : List V} {ds : List D} (sm : Same S H) (q : Reps K S vs ds) (hl : vs.length ≤ N.length) : Hld K S H (fun a => H a ≠ none) (L2.start N vs) (startE N ds) (fun _ => []) := by
  have e := q.length
  refine ⟨sm, ?_, fun i o h => ?_, fun _ _ => rfl, fun _ _ _ m => (nomatch m), fun _ _ m => (nomatch m), fun a t => t⟩
  · unfold L2.start startE
    simp [e]
  · unfold startE at h
    unfold L2.start
    by_cases hi : i < ds.length
    · rw [List.getElem?_append_left (by simpa using hi), List.getElem?_map] at h
      cases g : ds[i]? with
      | none => rw [g] at h; cases h
      | some d =>
        rw [g] at h
        cases h
        obtain ⟨v, e1, r⟩ := q.get g
        refine ⟨v, ?_, .frz r⟩
        rw [List.getElem?_append_left (by simpa [e] using hi), List.getElem?_map, e1]
        rfl
    · rw [List.getElem?_append_right (by simpa using hi), List.getElem?_replicate] at h
      split at h <;> cases h
theorem callN_len {defs : List DefI} {glob : Str → Option D} {n : Nat} {d : DefI} (h : findDef defs d.name = some d) {ds : List D} {o : O} (e : callN defs glob n d.name ds = some o) : ds.length = d.ps.length := by
  cases n with
  | zero => cases e
  | succ n =>
    unfold callN at e
    rw [h] at e
    simp only at e
    split at e
    · assumption
    · cases e
theorem callN_ok {P : Program} {w : World} {K : PySem.W.Frag} {mg : Str → Option Value} {base : Heap} {defs : List DefI} {glob : Str → Option D} (E : Env1 K mg defs glob) :
    ∀ (n : Nat) (d : DefI) (fa : Addr) (fd : FuncData), findDef defs d.name = some d → Fun K d.name d.name d.st fa fd → FnG P w K mg base n fa fd d.ps (spC K d.ps.length (callN defs glob n d.name))
  | 0, d, fa, fd, hd, F => ⟨fun vs H Q E h => h.1, fun A outer s H args us vs Q E hr hgd he hb hv h => by obtain ⟨_, ds, o, S, e, _⟩ := h; cases e⟩
  | n + 1, d, fa, fd, hd, F => by
    have hmem := (findDef_name hd).2
    have Sc := E.scope d hmem
    refine fnG_of F Sc (fun vs H Q E h => h.1) (fun cdv A outer s H vs Q E' hr hgd h => ?_)
    obtain ⟨hlv, ds, o, S, e, sm, q, kq⟩ := h
    unfold callN at e
    rw [hd] at e
    simp only at e
    split at e
    · rename_i hds
      have hpl : d.ps.length ≤ d.N.length := by have := congrArg List.length Sc.pre; rw [List.length_take] at this; omega
      -- the context
      let X : Cx := (cxOf CX0 P w K mg base d.N d.name (defScope d.st) fa cdv A outer s H E').nox
      have C : CtxOk (ctxOf defs glob (callN defs glob n) d.N) X := by
        refine ⟨rfl, Sc.nd, rfl, ?_, hgd, fun x hx hnd => E.bi x hx ?_, E.glob, fun x hx => ?_⟩
        · have := hr.un
          show (A.deeper (PyProof.Rows.envOfC d.name (defScope d.st) s.heap.objs.size fa cdv)).units + 65 < cLine
          omega
        · have hnd : (findDef defs x).isSome = false := hnd
          cases h : findDef defs x with
          | none => rfl
          | some _ => rw [h] at hnd; cases hnd
        · have hx : (findDef defs x).isSome = true := hx
          obtain ⟨d2, hd2⟩ := Option.isSome_iff_exists.mp hx
          obtain ⟨rfl, hm2⟩ := findDef_name hd2
          obtain ⟨fa2, fd2, F2, m2, b2⟩ := E.fn d2 hm2
          exact ⟨n, fa2, fd2, d2.ps, callN_ok E n d2 fa2 fd2 hd2 F2, hr, m2, F2.kp, b2, fun ds o h => callN_len hd2 h⟩
      have M : StmOk X := by
        refine ⟨fun x h => ⟨?_, .inl rfl⟩, PassesOwn.never⟩
        have h : locB (defScope d.st) x = true := h
        unfold locB at h
        show (defScope d.st).names.lookup x = _ ∨ (defScope d.st).names.lookup x = _
        split at h
        · rename_i e; exact .inl e
        · rename_i e; exact .inr e
        · cases h
      have B := (allB (ctxOf defs glob (callN defs glob n) d.N) fuelS).B X (defBody d.st) C M
      have L := start_hld (N := d.N) sm q (by omega)
      cases hc : cB (ctxOf defs glob (callN defs glob n) d.N) fuelS (defScope d.st) (defBody d.st) (startE d.N ds) with
      | none => rw [hc] at e; cases e
      | some c =>
        rw [hc] at e
        have hlen : (L2.start d.N vs).length = d.N.length := by unfold L2.start; simp; omega
        refine B (fun a => H a ≠ none) S H (L2.start d.N vs) (startE d.N ds) _ { nx := fun _ H' => Q .non H', rt := Q } c L hlen hc ?_
        have fin : ∀ {v : V} {S' H' : Hp} {fq : List Addr}, RepO K S' H' v o fq → Same S' H' → (∀ a ∈ fq, ¬ H a ≠ none) → SStp (fun a => H a ≠ none) S H S' H' → Q v H' := fun {v S' H' fq} r sh dn st => by
          refine kq v H' S' fq (fun b u eb => ?_) sh st.ss (fun a t => st.ts a t) r fun a m => ?_
          · rw [st.th b (by rw [eb]; exact fun z => nomatch z)]; exact eb
          · cases g : H a with
            | none => rfl
            | some u => exact absurd (by rw [g]; exact fun z => nomatch z) (dn a m)
        cases c with
        | next e' =>
          cases e
          exact fun σ' S' H' φ' L' hl' st => fin (v := .non) (fq := []) (.frz .non) L'.same (fun _ m => nomatch m) st
        | ret o' =>
          cases e
          exact fun v S' H' fq r sh dn st => fin r sh dn st
        | brk e' => cases e
        | cont e' => cases e
    · cases e
end PY
set_option maxHeartbeats 2000000
/-! PyI: from what the top has left to the law. -/
namespace PY
open PySem L2

structure DefStat (d : DefI) : Prop where
  scope : FnScope d.N d.ps (defScope d.st)
  binds : ∀ (kV doc pm : Value) (an : Option Addr) (cdv ct : Value) (us : List Value), us.length = d.ps.length → bindArgs (PySem.W.fnOf d.name d.name (defArgs d.st) (defBody d.st) (defScope d.st) .none kV doc pm an cdv ct) ⟨us, []⟩ = pure (d.ps.zip us)
def Stats : List DefI → Prop
  | [] => True
  | d :: ds => DefStat d ∧ Stats ds
theorem Stats.of : ∀ {ds : List DefI}, Stats ds → ∀ d ∈ ds, DefStat d
  | _ :: _, h, d, m => by
    rcases List.mem_cons.mp m with rfl | m
    · exact h.1
    · exact Stats.of h.2 d m
def DefFact (K : PySem.W.Frag) (d : DefI) : Prop := ∃ (f : Addr) (oc : Value) (od an : Option Addr) (sl : Array (Option Value)) (kV dc pm cd ct : Value),
  PySem.W.nsIn K mainGlobals d.name = some (some (.ref f)) ∧ K.lookup f = some ⟨oc, od, .func (PySem.W.fnOf d.name d.name (defArgs d.st) (defBody d.st) (defScope d.st) .none kV dc pm an cd ct), sl⟩ ∧ PySem.W.codeIn K cd d.name = true ∧ PySem.W.keepIn K (.ref f) = true
theorem fact_mk {K : PySem.W.Frag} {d : DefI} {f : Addr} {oc : Value} {od an : Option Addr} {sl : Array (Option Value)} {kV dc pm cd ct : Value} (a : PySem.W.nsIn K mainGlobals d.name = some (some (.ref f)))
    (l : K.lookup f = some ⟨oc, od, .func (PySem.W.fnOf d.name d.name (defArgs d.st) (defBody d.st) (defScope d.st) .none kV dc pm an cd ct), sl⟩) (c : PySem.W.codeIn K cd d.name = true) (k : PySem.W.keepIn K (.ref f) = true) : DefFact K d :=
  ⟨f, oc, od, an, sl, kV, dc, pm, cd, ct, a, l, c, k⟩
def Facts (K : PySem.W.Frag) : List DefI → Prop
  | [] => True
  | d :: ds => DefFact K d ∧ Facts K ds
theorem Facts.of {K : PySem.W.Frag} : ∀ {ds : List DefI}, Facts K ds → ∀ d ∈ ds, DefFact K d
  | _ :: _, h, d, m => by
    rcases List.mem_cons.mp m with rfl | m
    · exact h.1
    · exact Facts.of h.2 d m
def NoNames (K : PySem.W.Frag) : List Str → Prop
  | [] => True
  | x :: xs => PySem.W.nsIn K mainGlobals x = some none ∧ NoNames K xs
theorem NoNames.of {K : PySem.W.Frag} : ∀ {xs : List Str}, NoNames K xs → ∀ x ∈ xs, PySem.W.nsIn K mainGlobals x = some none
  | _ :: _, h, d, m => by
    rcases List.mem_cons.mp m with rfl | m
    · exact h.1
    · exact NoNames.of h.2 d m
/-- the module's constants: name, value -/
def GlobFact (K : PySem.W.Frag) : List (Str × D) → Prop
  | [] => True
  | p :: ps => (∃ v u, PySem.W.nsIn K mainGlobals p.1 = some (some u) ∧ RelV v u ∧ ∀ S, Rep K S v p.2) ∧ GlobFact K ps
theorem GlobFact.of {K : PySem.W.Frag} : ∀ {ps : List (Str × D)}, GlobFact K ps → ∀ p ∈ ps, ∃ v u, PySem.W.nsIn K mainGlobals p.1 = some (some u) ∧ RelV v u ∧ ∀ S, Rep K S v p.2
  | _ :: _, h, d, m => by
    rcases List.mem_cons.mp m with rfl | m
    · exact h.1
    · exact GlobFact.of h.2 d m
theorem glob_int {K : PySem.W.Frag} {x : Str} {i : Int} {t : Tok} (h : PySem.W.nsIn K mainGlobals x = some (some (.int i t))) : ∃ v u, PySem.W.nsIn K mainGlobals (x, PyData.int i).1 = some (some u) ∧ RelV v u ∧ ∀ S, Rep K S v (x, PyData.int i).2 := ⟨.int i, _, h, ⟨t, rfl⟩, fun _ => .int i⟩
theorem glob_str {K : PySem.W.Frag} {x y : Str} {t : Tok} (h : PySem.W.nsIn K mainGlobals x = some (some (.str y t))) : ∃ v u, PySem.W.nsIn K mainGlobals (x, PyData.str y).1 = some (some u) ∧ RelV v u ∧ ∀ S, Rep K S v (x, PyData.str y).2 := ⟨.str y, _, h, ⟨t, rfl⟩, fun _ => .str y⟩
theorem ints_reps {K : PySem.W.Frag} {H : Hp} : ∀ ns : List Int, Reps K H (ns.map V.int) (ns.map PyData.int)
  | [] => .nil
  | n :: ns => .cons (.int n) (ints_reps ns)
theorem env1_of {K : PySem.W.Frag} {h : Heap} {mg : Str → Option Value} {defs : List DefI} {gs : List (Str × D)} (X : K.In h) (G : h.Ns mainGlobals mg) (st : Stats defs) (F : Facts K defs) (Nn : NoNames K (bnames.filter fun x => (findDef defs x).isNone)) (Gf : GlobFact K gs) :
    Env1 K mg defs (fun x => gs.lookup x) where
  scope := fun d m => (st.of d m).scope
  fn := fun d m => by
    obtain ⟨f, oc, od, an, sl, kV, dc, pm, cd, ct, a, l, c, k⟩ := F.of d m
    have Fn : Fun K d.name d.name d.st f _ := fun_mk l c k
    exact ⟨f, _, Fn, PySem.W.mg_of X G a, Fn.binds (st.of d m).binds⟩
  bi := fun x m n => PySem.W.mg_none_of X G (Nn.of x (List.mem_filter.mpr ⟨m, by rw [n]; rfl⟩))
  glob := fun x d e => by
    obtain ⟨v, u, h1, h2, h3⟩ := Gf.of (x, d) (PySem.mem_of_lookup e)
    exact ⟨v, u, PySem.W.mg_of X G h1, h2, h3⟩
theorem law_F {l : PySem.W.OpenLaw} {w : World} {K : PySem.W.Frag} {h : Heap} {mg : Str → Option Value} {fa : Addr} {defs : List DefI} {gs : List (Str × D)} {n : Nat} {dl : DefI} (X : K.In h) (G : h.Ns mainGlobals mg) (hfa : mg "law" = some (.ref fa))
    (st : Stats defs) (F : Facts K defs) (Nn : NoNames K (bnames.filter fun x => (findDef defs x).isNone)) (Gf : GlobFact K gs) (hd : findDef defs "law" = some dl) (hp : dl.ps = (["script"] : List Str)) :
    ∃ fd : FuncData, (∀ (s : Shared) (v : Value), BindsTo s fd ⟨[v], []⟩ [("script", v)]) ∧ ∀ base : Heap, K.In base → base.Ns mainGlobals mg → FnG l.prog w K mg base n fa fd ["script"] (spC K 1 (callN defs (fun x => gs.lookup x) n "law")) := by
  have E := env1_of X G st F Nn Gf
  obtain ⟨hn, hm⟩ := findDef_name hd
  obtain ⟨f, oc, od, an, sl, kV, dc, pm, cd, ct, a, lk, c, k⟩ := F.of dl hm
  have Fn : Fun K dl.name dl.name dl.st f _ := fun_mk lk c k
  have e : f = fa := by
    have h1 := PySem.W.mg_of X G a
    rw [hn, hfa] at h1
    cases h1
    rfl
  subst e
  have hd2 : findDef defs dl.name = some dl := by rw [hn]; exact hd
  refine ⟨PySem.W.fnOf dl.name dl.name (defArgs dl.st) (defBody dl.st) (defScope dl.st) .none kV dc pm an cd ct, fun s v => .of_eq ?_, fun base _ _ => ?_⟩
  · have := (st.of dl hm).binds kV dc pm an cd ct [v] (by rw [hp]; rfl)
    rw [hp] at this
    exact this
  · have := callN_ok (P := l.prog) (w := w) (base := base) E n dl f _ hd2 Fn
    rw [hp, hn] at this
    rw [hn]
    exact this
theorem law_sp {K : PySem.W.Frag} {call : List D → Option O} {H : Hp} {a : Addr} {ns : List Int} (h : call [.list (ns.map .int)] = some (.frz (.bool true))) (hS : SqL K H a (ns.map V.int)) :
    spC K 1 call [.ref a] H (fun v _ => v = .bl true) fun _ _ _ => False :=
  ⟨rfl, _, _, H, h, Same.refl H, .cons (.lst hS (ints_reps ns)) .nil, fun v H' S' fq _ _ _ _ r _ => by
    cases r with
    | frz r => cases r; rfl⟩
theorem callN_step {defs : List DefI} {glob : Str → Option D} {n : Nat} {d : DefI} {ds : List D} (h : findDef defs d.name = some d) (hl : ds.length = d.ps.length) :
    callN defs glob (n + 1) d.name ds = outO (cB (ctxOf defs glob (callN defs glob n) d.N) fuelS (defScope d.st) (defBody d.st) (startE d.N ds)) := by
  show (match findDef defs d.name with | some d => _ | none => _) = _
  rw [h]
  exact if_pos hl
end PY
set_option maxHeartbeats 1000000
/-! PyRun: the combinators step by step, for simp. -/
namespace PY
open PySem L2

/-! ### steps: each combinator hands its first part's answer on -/
section
variable {op op' : Operator} {cp cp' : CmpOp} {a b c : Ev} {env e : Env} {r s : R} {d : D} {i j : Int} {k : Bool} {t u : Tst} {x y : Stm} {o : O} {n : Nat}
def wv (e : Env) (q : Option R) : Option (R × Env) := q.map fun q => (q, e)
def bin3 (op : Operator) (r s : R) (e : Env) (q : Option D) : Option (R × Env) := match q with
  | some d => some (.frz d, (fz s (fz r e).2).2)
  | none => wv (sh s (sh r e).2).2 (binV op (sh r e).1 (sh s (sh r e).2).1)
def bin2 (op : Operator) (r : R) (y : Option (R × Env)) : Option (R × Env) := y.bind fun y => bin3 op r y.1 y.2 (catT op r.d y.1.d)
def bin1 (op : Operator) (b : Ev) (x : Option (R × Env)) : Option (R × Env) := x.bind fun x => bin2 op x.1 (b x.2)
def wd (e : Env) (q : Option D) : Option (R × Env) := q.map fun q => (.frz q, e)
def wb (e : Env) (q : Option Bool) : Option (R × Env) := q.map fun q => (.frz (.bool q), e)
@[simp] theorem eBin_ap : eBin op a b env = bin1 op b (a env) := Eq.trans rfl rfl
@[simp] theorem bin1_s : bin1 op b (some (r, e)) = bin2 op r (b e) := Eq.trans rfl rfl
@[simp] theorem bin2_s : bin2 op r (some (s, e)) = bin3 op r s e (catT op r.d s.d) := Eq.trans rfl rfl
@[simp] theorem bin3_n : bin3 op r s e none = wv (sh s (sh r e).2).2 (binV op (sh r e).1 (sh s (sh r e).2).1) := Eq.trans rfl rfl
@[simp] theorem bin3_s : bin3 op r s e (some d) = some (.frz d, (fz s (fz r e).2).2) := Eq.trans rfl rfl
@[simp] theorem catT_i : catT op (.int i) d = none := by cases op <;> rfl
@[simp] theorem catT_l {ds : List D} : catT op (.list ds) d = none := by cases op <;> rfl
@[simp] theorem catT_z {z : Str} : catT op (.str z) d = none := by cases op <;> rfl
@[simp] theorem catT_i2 : catT op d (.int i) = none := by cases op <;> cases d <;> rfl
@[simp] theorem catT_l2 {ds : List D} : catT op d (.list ds) = none := by cases op <;> cases d <;> rfl
@[simp] theorem catT_z2 {z : Str} : catT op d (.str z) = none := by cases op <;> cases d <;> rfl
@[simp] theorem catT_t {xs ys : List D} : catT .Add (.tuple xs) (.tuple ys) = if xs.length + ys.length ≤ sizeLine then some (.tuple (xs ++ ys)) else none := Eq.trans rfl rfl
@[simp] theorem Rd_mkL {ds : List D} : R.d (mkL ds) = .list ds := by
  show PyData.list (O.ds (ds.map .frz)) = _
  rw [ds_frz]
@[simp] theorem Rd_mkT {ds : List D} : R.d (mkT ds) = .tuple ds := by
  show PyData.tuple (O.ds (ds.map .frz)) = _
  rw [ds_frz]
@[simp] theorem wv_s : wv e (some r) = some (r, e) := Eq.trans rfl rfl
@[simp] theorem wd_s : wd e (some d) = some (.frz d, e) := Eq.trans rfl rfl
@[simp] theorem wb_s : wb e (some k) = some (.frz (.bool k), e) := Eq.trans rfl rfl
@[simp] theorem sh_frz : sh (.frz d) e = (d, e) := Eq.trans rfl rfl
@[simp] theorem sh_own : sh (.own o) e = (o.d, e) := Eq.trans rfl rfl
@[simp] theorem sh_bor : sh (.bor n d) e = if flatAt e n then (d, e) else (d, e.set n (some (.frz d))) := Eq.trans rfl rfl
@[simp] theorem fz_frz : fz (.frz d) e = (d, e) := Eq.trans rfl rfl
@[simp] theorem fz_own : fz (.own o) e = (o.d, e) := Eq.trans rfl rfl
@[simp] theorem fz_bor : fz (.bor n d) e = (d, e.set n (some (.frz d))) := Eq.trans rfl rfl
@[simp] theorem tk_frz : tk (.frz d) e = (.frz d, e) := Eq.trans rfl rfl
@[simp] theorem tk_own : tk (.own o) e = (o, e) := Eq.trans rfl rfl
@[simp] theorem tk_bor : tk (.bor n d) e = (.frz d, e.set n (some (.frz d))) := Eq.trans rfl rfl
@[simp] theorem Rd_frz : R.d (.frz d) = d := Eq.trans rfl rfl
@[simp] theorem Rd_own : R.d (.own o) = o.d := Eq.trans rfl rfl
@[simp] theorem Rd_bor : R.d (.bor n d) = d := Eq.trans rfl rfl
@[simp] theorem Od_frz : O.d (.frz d) = d := Eq.trans rfl rfl
@[simp] theorem Od_own {os : List O} : O.d (.own os) = .list (O.ds os) := Eq.trans rfl rfl
@[simp] theorem Od_otup {os : List O} : O.d (.otup os) = .tuple (O.ds os) := Eq.trans rfl rfl
@[simp] theorem Ods_nil : O.ds [] = [] := Eq.trans rfl rfl
@[simp] theorem Ods_cons {os : List O} : O.ds (o :: os) = o.d :: O.ds os := Eq.trans rfl rfl
@[simp] theorem ofO_frz : ofO (.frz d) = .frz d := Eq.trans rfl rfl
@[simp] theorem ofO_own {os : List O} : ofO (.own os) = .own (.own os) := Eq.trans rfl rfl
@[simp] theorem ofO_otup {os : List O} : ofO (.otup os) = .own (.otup os) := Eq.trans rfl rfl
def rdN (n : Nat) (env : Env) : Option (Option O) → Option (R × Env)
  | some (some (.frz d)) => some (.frz d, env)
  | some (some o) => some (.bor n o.d, env)
  | _ => none
@[simp] theorem eName_ap : eName n env = rdN n env env[n]? := Eq.trans rfl rfl
@[simp] theorem rdN_frz : rdN n env (some (some (.frz d))) = some (.frz d, env) := Eq.trans rfl rfl
@[simp] theorem rdN_own {os : List O} : rdN n env (some (some (.own os))) = some (.bor n (.list (O.ds os)), env) := Eq.trans rfl rfl
@[simp] theorem rdN_otup {os : List O} : rdN n env (some (some (.otup os))) = some (.bor n (.tuple (O.ds os)), env) := Eq.trans rfl rfl
@[simp] theorem eD_ap : eD d env = some (.frz d, env) := Eq.trans rfl rfl
def neg1 (x : Option (R × Env)) : Option (R × Env) := x.bind fun x => wd x.2 ((asInt x.1.d).map fun i => .int (-i))
@[simp] theorem eNeg_ap : eNeg a env = neg1 (a env) := by
  unfold eNeg neg1 wd
  cases a env with
  | none => rfl
  | some x => simp [Option.map_map]; rfl
@[simp] theorem neg1_s : neg1 (some (r, e)) = wd e ((asInt r.d).map fun i => .int (-i)) := Eq.trans rfl rfl
@[simp] theorem asInt_s : asInt (.int i) = some i := Eq.trans rfl rfl
@[simp] theorem asBool_s : asBool (.bool k) = some k := Eq.trans rfl rfl
def not1 (x : Option (R × Env)) : Option (R × Env) := x.bind fun x => wb x.2 ((asBool x.1.d).map fun i => !i)
@[simp] theorem eNot_ap : eNot a env = not1 (a env) := by
  unfold eNot not1 wb
  cases a env with
  | none => rfl
  | some x => simp [Option.map_map]; rfl
@[simp] theorem not1_s : not1 (some (r, e)) = wb e ((asBool r.d).map fun i => !i) := Eq.trans rfl rfl
def and2 (b : Ev) (e : Env) (q : Option Bool) : Option (R × Env) := q.bind fun c => if c then b e else some (.frz (.bool false), e)
def and1 (b : Ev) (x : Option (R × Env)) : Option (R × Env) := x.bind fun x => and2 b x.2 (asBool x.1.d)
@[simp] theorem eAnd_ap : eAnd a b env = and1 b (a env) := Eq.trans rfl rfl
@[simp] theorem and1_s : and1 b (some (r, e)) = and2 b e (asBool r.d) := Eq.trans rfl rfl
@[simp] theorem and2_s : and2 b e (some k) = if k then b e else some (.frz (.bool false), e) := Eq.trans rfl rfl
def or2 (b : Ev) (e : Env) (q : Option Bool) : Option (R × Env) := q.bind fun c => if c then some (.frz (.bool true), e) else b e
def or1 (b : Ev) (x : Option (R × Env)) : Option (R × Env) := x.bind fun x => or2 b x.2 (asBool x.1.d)
@[simp] theorem eOr_ap : eOr a b env = or1 b (a env) := Eq.trans rfl rfl
@[simp] theorem or1_s : or1 b (some (r, e)) = or2 b e (asBool r.d) := Eq.trans rfl rfl
@[simp] theorem or2_s : or2 b e (some k) = if k then some (.frz (.bool true), e) else b e := Eq.trans rfl rfl
@[simp] theorem ite_and {k l : Bool} {e : Env} : (if k = true then some (R.frz (.bool l), e) else some (R.frz (.bool false), e)) = some (R.frz (.bool (k && l)), e) := by cases k <;> rfl
@[simp] theorem ite_or {k l : Bool} {e : Env} : (if k = true then some (R.frz (.bool true), e) else some (R.frz (.bool l), e)) = some (R.frz (.bool (k || l)), e) := by cases k <;> rfl
def cmp2 (cp : CmpOp) (r : R) (y : Option (R × Env)) : Option (R × Env) := y.bind fun y => wb y.2 (cmpV cp r.d y.1.d)
def cmp1 (cp : CmpOp) (b : Ev) (x : Option (R × Env)) : Option (R × Env) := x.bind fun x => cmp2 cp x.1 (b x.2)
@[simp] theorem eCmp_ap : eCmp cp a b env = cmp1 cp b (a env) := Eq.trans rfl rfl
@[simp] theorem cmp1_s : cmp1 cp b (some (r, e)) = cmp2 cp r (b e) := Eq.trans rfl rfl
@[simp] theorem cmp2_s : cmp2 cp r (some (s, e)) = wb e (cmpV cp r.d s.d) := Eq.trans rfl rfl
def ch4 (cp' : CmpOp) (r : R) (y : Option (R × Env)) : Option (R × Env) := y.bind fun y => wb y.2 (cmpV cp' r.d y.1.d)
def ch3 (cp' : CmpOp) (c : Ev) (r : R) (e : Env) (q : Option Bool) : Option (R × Env) := q.bind fun k => if k then ch4 cp' r (c e) else some (.frz (.bool false), e)
def ch2 (cp cp' : CmpOp) (c : Ev) (r : R) (y : Option (R × Env)) : Option (R × Env) := y.bind fun y => ch3 cp' c y.1 y.2 (cmpV cp r.d y.1.d)
def ch1 (cp cp' : CmpOp) (b c : Ev) (x : Option (R × Env)) : Option (R × Env) := x.bind fun x => ch2 cp cp' c x.1 (b x.2)
@[simp] theorem eCmp2_ap : eCmp2 cp cp' a b c env = ch1 cp cp' b c (a env) := Eq.trans rfl rfl
@[simp] theorem ch1_s : ch1 cp cp' b c (some (r, e)) = ch2 cp cp' c r (b e) := Eq.trans rfl rfl
@[simp] theorem ch2_s : ch2 cp cp' c r (some (s, e)) = ch3 cp' c s e (cmpV cp r.d s.d) := Eq.trans rfl rfl
@[simp] theorem ch3_s : ch3 cp' c r e (some k) = if k then ch4 cp' r (c e) else some (.frz (.bool false), e) := Eq.trans rfl rfl
@[simp] theorem ch4_s : ch4 cp' r (some (s, e)) = wb e (cmpV cp' r.d s.d) := Eq.trans rfl rfl
def ix3 (r : R) (i : D) (e : Env) (q : Option D) : Option (R × Env) := q.map (ixF r i e)
def ix2 (r : R) (y : Option (R × Env)) : Option (R × Env) := y.bind fun y => ix3 r y.1.d y.2 (ixV r.d y.1.d)
def ix1 (b : Ev) (x : Option (R × Env)) : Option (R × Env) := x.bind fun x => ix2 x.1 (b x.2)
@[simp] theorem eIx_ap : eIx a b env = ix1 b (a env) := Eq.trans rfl rfl
@[simp] theorem ix1_s : ix1 b (some (r, e)) = ix2 r (b e) := Eq.trans rfl rfl
@[simp] theorem ix2_s : ix2 r (some (s, e)) = ix3 r s.d e (ixV r.d s.d) := Eq.trans rfl rfl
@[simp] theorem ix3_int {x : D} : ix3 r x e (some (.int i)) = some (.frz (.int i), e) := Eq.trans rfl rfl
@[simp] theorem ix3_bool {x : D} : ix3 r x e (some (.bool k)) = some (.frz (.bool k), e) := Eq.trans rfl rfl
@[simp] theorem ix3_none {x : D} : ix3 r x e (some .none) = some (.frz .none, e) := Eq.trans rfl rfl
@[simp] theorem ix3_str {x : D} {z : Str} : ix3 r x e (some (.str z)) = some (.frz (.str z), e) := Eq.trans rfl rfl
/-- a fresh list's or tuple's item -/
def ix4 (r : R) (e : Env) : Option O → Option (R × Env)
  | some o => some (ofO o, e)
  | none => some (r, e)
@[simp] theorem ix4_s {o : O} : ix4 r e (some o) = some (ofO o, e) := Eq.trans rfl rfl
@[simp] theorem ix3_fr {x y : D} : ix3 (.frz y) x e (some d) = some (.frz d, e) := by
  show some (if scalar d = true then (R.frz d, e) else (R.frz d, e)) = _
  split <;> rfl
@[simp] theorem ix3_blist {x : D} {ds : List D} : ix3 (.bor n d) x e (some (.list ds)) = some (.frz (.list ds), (sh (.bor n d) e).2) := Eq.trans rfl rfl
@[simp] theorem ix3_btuple {x : D} {ds : List D} : ix3 (.bor n d) x e (some (.tuple ds)) = some (.frz (.tuple ds), (sh (.bor n d) e).2) := Eq.trans rfl rfl
@[simp] theorem ix3_olist {ds : List D} {os : List O} : ix3 (.own (.own os)) (.int i) e (some (.list ds)) = ix4 (.frz (.list ds)) e (atI os i) := by
  show some (match pickO (.own (.own os)) (.int i) with | some o => (ofO o, e) | none => (R.frz (.list ds), e)) = _
  show some (match atI os i with | some o => (ofO o, e) | none => (R.frz (.list ds), e)) = _
  cases atI os i <;> rfl
@[simp] theorem ix3_otuple {ds : List D} {os : List O} : ix3 (.own (.own os)) (.int i) e (some (.tuple ds)) = ix4 (.frz (.tuple ds)) e (atI os i) := by
  show some (match atI os i with | some o => (ofO o, e) | none => (R.frz (.tuple ds), e)) = _
  cases atI os i <;> rfl
@[simp] theorem ix3_tlist {ds : List D} {os : List O} : ix3 (.own (.otup os)) (.int i) e (some (.list ds)) = ix4 (.frz (.list ds)) e (atI os i) := by
  show some (match atI os i with | some o => (ofO o, e) | none => (R.frz (.list ds), e)) = _
  cases atI os i <;> rfl
@[simp] theorem ix3_ttuple {ds : List D} {os : List O} : ix3 (.own (.otup os)) (.int i) e (some (.tuple ds)) = ix4 (.frz (.tuple ds)) e (atI os i) := by
  show some (match atI os i with | some o => (ofO o, e) | none => (R.frz (.tuple ds), e)) = _
  cases atI os i <;> rfl
@[simp] theorem ixV_list {ds : List D} : ixV (.list ds) (.int i) = atI ds i := Eq.trans rfl rfl
@[simp] theorem ixV_tuple {ds : List D} : ixV (.tuple ds) (.int i) = atI ds i := Eq.trans rfl rfl
@[simp] theorem ePart_none : ePart none env = some (none, env) := Eq.trans rfl rfl
def part1 (x : Option (R × Env)) : Option (Option Int × Env) := x.bind fun x => (asInt x.1.d).map fun i => (some i, x.2)
@[simp] theorem ePart_some : ePart (some a) env = part1 (a env) := Eq.trans rfl rfl
@[simp] theorem part1_int : part1 (some (r, e)) = (asInt r.d).map fun i => (some i, e) := Eq.trans rfl rfl
def sl4 (r : R) (l h : Option Int) (e : Env) (q : Option D) : Option (R × Env) := match q with
  | some d => some (.frz d, (fz r e).2)
  | none => wv (sh r e).2 (slV (sh r e).1 l h)
def sl3 (r : R) (l : Option Int) (h : Option (Option Int × Env)) : Option (R × Env) := h.bind fun h => sl4 r l h.1 h.2 (cutT r.d l h.1)
def sl2 (r : R) (hi : Option Ev) (l : Option (Option Int × Env)) : Option (R × Env) := l.bind fun l => sl3 r l.1 (ePart hi l.2)
def sl1 (lo hi : Option Ev) (x : Option (R × Env)) : Option (R × Env) := x.bind fun x => sl2 x.1 hi (ePart lo x.2)
@[simp] theorem eSl_ap {lo hi : Option Ev} : eSl a lo hi env = sl1 lo hi (a env) := Eq.trans rfl rfl
@[simp] theorem sl1_s {lo hi : Option Ev} : sl1 lo hi (some (r, e)) = sl2 r hi (ePart lo e) := Eq.trans rfl rfl
@[simp] theorem sl2_s {hi : Option Ev} {l : Option Int} : sl2 r hi (some (l, e)) = sl3 r l (ePart hi e) := Eq.trans rfl rfl
@[simp] theorem sl3_s {l h : Option Int} : sl3 r l (some (h, e)) = sl4 r l h e (cutT r.d l h) := Eq.trans rfl rfl
@[simp] theorem sl4_n {l h : Option Int} : sl4 r l h e none = wv (sh r e).2 (slV (sh r e).1 l h) := Eq.trans rfl rfl
@[simp] theorem sl4_s {l h : Option Int} : sl4 r l h e (some d) = some (.frz d, (fz r e).2) := Eq.trans rfl rfl
@[simp] theorem cutT_l {ds : List D} {l h : Option Int} : cutT (.list ds) l h = none := Eq.trans rfl rfl
@[simp] theorem cutT_t {ds : List D} {l h : Option Int} : cutT (.tuple ds) l h = some (.tuple (cutD ds l h)) := Eq.trans rfl rfl
@[simp] theorem slV_list {ds : List D} {l h : Option Int} : slV (.list ds) l h = some (mkL (cutD ds l h)) := Eq.trans rfl rfl
def st3 (k : Int) (r : R) (l : Option Int) (h : Option (Option Int × Env)) : Option (R × Env) := h.bind fun h => wv (sh r h.2).2 (stpV (sh r h.2).1 l h.1 k)
def st2' (k : Int) (r : R) (hi : Option Ev) (l : Option (Option Int × Env)) : Option (R × Env) := l.bind fun l => st3 k r l.1 (ePart hi l.2)
def st1' (k : Int) (lo hi : Option Ev) (x : Option (R × Env)) : Option (R × Env) := x.bind fun x => st2' k x.1 hi (ePart lo x.2)
@[simp] theorem eStp_ap {k : Int} {lo hi : Option Ev} : eStp a lo hi k env = st1' k lo hi (a env) := Eq.trans rfl rfl
@[simp] theorem st1'_s {k : Int} {lo hi : Option Ev} : st1' k lo hi (some (r, e)) = st2' k r hi (ePart lo e) := Eq.trans rfl rfl
@[simp] theorem st2'_s {k : Int} {hi : Option Ev} {l : Option Int} : st2' k r hi (some (l, e)) = st3 k r l (ePart hi e) := Eq.trans rfl rfl
@[simp] theorem st3_s {k : Int} {l h : Option Int} : st3 k r l (some (h, e)) = wv (sh r e).2 (stpV (sh r e).1 l h k) := Eq.trans rfl rfl
theorem stpV_list {k : Int} {ds : List D} {l h : Option Int} : stpV (.list ds) l h k = if (pickL ds l h k).length ≤ sizeLine then some (mkL (pickL ds l h k)) else none := rfl
def rev2 (e : Env) : D → Option (R × Env)
  | .list xs => some (mkL xs.reverse, e)
  | _ => none
def rev1 (x : Option (R × Env)) : Option (R × Env) := x.bind fun x => rev2 (sh x.1 x.2).2 (sh x.1 x.2).1
@[simp] theorem eRev_ap : eRev a env = rev1 (a env) := by
  unfold eRev rev1
  cases a env with
  | none => rfl
  | some x => simp only [Option.bind_some]; cases (sh x.1 x.2).1 <;> rfl
@[simp] theorem rev1_s : rev1 (some (r, e)) = rev2 (sh r e).2 (sh r e).1 := Eq.trans rfl rfl
@[simp] theorem rev2_s {ds : List D} : rev2 e (.list ds) = some (mkL ds.reverse, e) := Eq.trans rfl rfl
def evs2 (r : R) (y : Option (List R × Env)) : Option (List R × Env) := y.map fun y => (r :: y.1, y.2)
def evs1 (fs : List Ev) (x : Option (R × Env)) : Option (List R × Env) := x.bind fun x => evs2 x.1 (evs fs x.2)
@[simp] theorem evs_nil : evs [] env = some ([], env) := Eq.trans rfl rfl
@[simp] theorem evs_cons {fs : List Ev} : evs (a :: fs) env = evs1 fs (a env) := Eq.trans rfl rfl
@[simp] theorem evs1_s {fs : List Ev} : evs1 fs (some (r, e)) = evs2 r (evs fs e) := Eq.trans rfl rfl
@[simp] theorem evs2_s {rs : List R} : evs2 r (some (rs, e)) = some (r :: rs, e) := Eq.trans rfl rfl
@[simp] theorem fzs_nil : fzs [] e = ([], e) := Eq.trans rfl rfl
@[simp] theorem fzs_cons {rs : List R} : fzs (r :: rs) e = ((fz r e).1 :: (fzs rs (fz r e).2).1, (fzs rs (fz r e).2).2) := Eq.trans rfl rfl
@[simp] theorem tks_nil : tks [] e = ([], e) := Eq.trans rfl rfl
@[simp] theorem tks_cons {rs : List R} : tks (r :: rs) e = ((tk r e).1 :: (tks rs (tk r e).2).1, (tks rs (tk r e).2).2) := Eq.trans rfl rfl
def call2 (e1 e2 : Env) (q : Option O) : Option (R × Env) := q.map fun o => (ofO o, if o.self then e1 else e2)
def call1 (f : List D → Option O) (x : Option (List R × Env)) : Option (R × Env) := x.bind fun x => call2 x.2 (fzs x.1 x.2).2 (f (fzs x.1 x.2).1)
@[simp] theorem eCall_ap {f : List D → Option O} {as : List Ev} : eCall f as env = call1 f (evs as env) := Eq.trans rfl rfl
@[simp] theorem call1_s {f : List D → Option O} {rs : List R} : call1 f (some (rs, e)) = call2 e (fzs rs e).2 (f (fzs rs e).1) := Eq.trans rfl rfl
@[simp] theorem call2_s {e1 e2 : Env} : call2 e1 e2 (some o) = some (ofO o, if o.self then e1 else e2) := Eq.trans rfl rfl
@[simp] theorem self_frz : O.self (.frz d) = scalar d := Eq.trans rfl rfl
@[simp] theorem self_own {os : List O} : O.self (.own os) = O.selfs os := Eq.trans rfl rfl
@[simp] theorem self_otup {os : List O} : O.self (.otup os) = O.selfs os := Eq.trans rfl rfl
@[simp] theorem selfs_nil : O.selfs [] = true := Eq.trans rfl rfl
@[simp] theorem selfs_cons {os : List O} : O.selfs (o :: os) = (o.self && O.selfs os) := Eq.trans rfl rfl
@[simp] theorem scalar_int : scalar (.int i) = true := Eq.trans rfl rfl
@[simp] theorem scalar_bool : scalar (.bool k) = true := Eq.trans rfl rfl
@[simp] theorem scalar_none : scalar .none = true := Eq.trans rfl rfl
@[simp] theorem scalar_str {z : Str} : scalar (.str z) = true := Eq.trans rfl rfl
@[simp] theorem scalar_list {ds : List D} : scalar (.list ds) = false := Eq.trans rfl rfl
@[simp] theorem scalar_tuple {ds : List D} : scalar (.tuple ds) = false := Eq.trans rfl rfl
def bi1' (x : String) (y : Option (List R × Env)) : Option (R × Env) := y.bind fun y => wd y.2 (biV x (y.1.map R.d))
@[simp] theorem eBi_ap {x : String} {as : List Ev} : eBi x as env = bi1' x (evs as env) := Eq.trans rfl rfl
@[simp] theorem bi1'_s {x : String} {rs : List R} : bi1' x (some (rs, e)) = wd e (biV x (rs.map R.d)) := Eq.trans rfl rfl
def bis2 (x : String) (r : R) (e : Env) : Option R → Option (R × Env)
  | some r' => some (r', e)
  | none => wv (sh r e).2 (biS x [(sh r e).1])
def bis1 (x : String) (y : Option (R × Env)) : Option (R × Env) := y.bind fun y => bis2 x y.1 y.2 (biM x y.1)
@[simp] theorem eBiS_ap {x : String} : eBiS x a env = bis1 x (a env) := by
  unfold eBiS bis1
  cases a env with
  | none => rfl
  | some y =>
    simp only [Option.bind_some]
    cases biM x y.1 <;> rfl
@[simp] theorem bis1_s {x : String} : bis1 x (some (r, e)) = bis2 x r e (biM x r) := Eq.trans rfl rfl
@[simp] theorem bis2_s {x : String} : bis2 x r e (some s) = some (s, e) := Eq.trans rfl rfl
@[simp] theorem bis2_n {x : String} : bis2 x r e none = wv (sh r e).2 (biS x [(sh r e).1]) := Eq.trans rfl rfl
@[simp] theorem biM_lo {os : List O} : biM "list" (.own (.own os)) = some (.own (.own os)) := Eq.trans rfl rfl
@[simp] theorem biM_lt {os : List O} : biM "list" (.own (.otup os)) = some (.own (.own os)) := Eq.trans rfl rfl
@[simp] theorem biM_to {os : List O} : biM "tuple" (.own (.own os)) = some (.own (.otup os)) := Eq.trans rfl rfl
theorem biM_frz {x : String} : biM x (.frz d) = none := by
  unfold biM
  split <;> first | rfl | (rename_i h; cases h)
theorem biM_bor {x : String} : biM x (.bor n d) = none := by
  unfold biM
  split <;> first | rfl | (rename_i h; cases h)
@[simp] theorem biM_f1 : biM "list" (.frz d) = none := biM_frz
@[simp] theorem biM_f2 : biM "tuple" (.frz d) = none := biM_frz
@[simp] theorem biM_b1 : biM "list" (.bor n d) = none := biM_bor
@[simp] theorem biM_b2 : biM "tuple" (.bor n d) = none := biM_bor
@[simp] theorem biS_ll {ds : List D} : biS "list" [.list ds] = some (mkL ds) := Eq.trans rfl rfl
@[simp] theorem biS_lt {ds : List D} : biS "list" [.tuple ds] = some (mkL ds) := Eq.trans rfl rfl
@[simp] theorem biS_tl {ds : List D} : biS "tuple" [.list ds] = some (mkT ds) := Eq.trans rfl rfl
def sortV1 (ds : List D) : Option (List Int) → Option R
  | some ns => some (mkL ((sortI ns).map .int))
  | none => if sortOk ds = true then some (mkL (sortD ds)) else none
@[simp] theorem biS_sorted {ds : List D} : biS "sorted" [.list ds] = sortV1 ds (intsOf ds) := by
  show (match intsOf ds with
    | some ns => some (mkL ((sortI ns).map .int))
    | none => if sortOk ds = true then some (mkL (sortD ds)) else none) = _
  cases intsOf ds <;> rfl
@[simp] theorem sortV1_s {ds : List D} {ns : List Int} : sortV1 ds (some ns) = some (mkL ((sortI ns).map .int)) := Eq.trans rfl rfl
@[simp] theorem sortV1_n {ds : List D} : sortV1 ds none = if sortOk ds = true then some (mkL (sortD ds)) else none := Eq.trans rfl rfl
@[simp] theorem biM_sf : biM "sorted" (.frz d) = none := biM_frz
@[simp] theorem biM_sb : biM "sorted" (.bor n d) = none := biM_bor
@[simp] theorem biM_so : biM "sorted" (.own o) = none := by cases o <;> rfl
def mn2 (r : R) (e : Env) (q : Option D) : Option (R × Env) := q.map fun d => if flatR r = true then (.own (canO d), e) else (.frz d, (sh r e).2)
def mn1 (a : Ev) (env : Env) : Option (R × Env) → Option (R × Env)
  | some r => some r
  | none => (a env).bind fun y => mn2 y.1 y.2 (minV y.1.d)
@[simp] theorem eMin_ap : eMin a env = mn1 a env (eBi "min" [a] env) := by
  unfold eMin mn1
  cases eBi "min" [a] env <;> rfl
@[simp] theorem mn1_s {q : R × Env} : mn1 a env (some q) = some q := Eq.trans rfl rfl
theorem mn1_n {q : Option (R × Env)} (h : q = none) {r : R} {e : Env} (ha : a env = some (r, e)) : mn1 a env q = mn2 r e (minV r.d) := by
  subst h
  show (a env).bind _ = _
  rw [ha]; rfl
@[simp] theorem mn2_s : mn2 r e (some d) = some (if flatR r = true then (.own (canO d), e) else (.frz d, (sh r e).2)) := Eq.trans rfl rfl
def mt01 (x : String) (y : Option (R × Env)) : Option (R × Env) := y.bind fun y => wd y.2 (metV x y.1.d [])
@[simp] theorem eMet0_ap {x : String} : eMet0 x a env = mt01 x (a env) := Eq.trans rfl rfl
@[simp] theorem mt01_s {x : String} : mt01 x (some (r, e)) = wd e (metV x r.d []) := Eq.trans rfl rfl
def mt12 (x : String) (r : R) (z : Option (R × Env)) : Option (R × Env) := z.bind fun z => wd z.2 (metV x r.d [z.1.d])
def mt11 (x : String) (b : Ev) (y : Option (R × Env)) : Option (R × Env) := y.bind fun y => mt12 x y.1 (b y.2)
@[simp] theorem eMet1_ap {x : String} : eMet1 x a b env = mt11 x b (a env) := Eq.trans rfl rfl
@[simp] theorem mt11_s {x : String} : mt11 x b (some (r, e)) = mt12 x r (b e) := Eq.trans rfl rfl
@[simp] theorem mt12_s {x : String} : mt12 x r (some (s, e)) = wd e (metV x r.d [s.d]) := Eq.trans rfl rfl
@[simp] theorem metV_upper {z : Str} : metV "upper" (.str z) [] = if z.length ≤ 5592405 then some (.str (Txt.upper z)) else none := Eq.trans rfl rfl
theorem metV_count {ds : List D} : metV "count" (.list ds) [.int i] = (intsOf ds).map fun ns => .int (ns.count i : Nat) := Eq.trans rfl rfl
theorem metV_index {ds : List D} : metV "index" (.list ds) [d] = if SeqAt.shaped (.list ds) = true ∧ SeqAt.shaped d = true then (ds.findIdx? fun y => PyData.eqv y d).map fun (j : Nat) => .int (j : Int) else none := Eq.trans rfl rfl
@[simp] theorem biV_lenl {ds : List D} : biV "len" [.list ds] = some (.int ds.length) := Eq.trans rfl rfl
@[simp] theorem biV_lent {ds : List D} : biV "len" [.tuple ds] = some (.int ds.length) := Eq.trans rfl rfl
theorem biV_repr : biV "repr" [d] = if d.canLay0 = true ∧ d.showable = true ∧ d.depth ≤ 60 ∧ d.shown.length ≤ sizeLine then some (.str d.shown) else none := Eq.trans rfl rfl
@[simp] theorem biV_abs : biV "abs" [.int i] = some (.int (if i < 0 then -i else i)) := Eq.trans rfl rfl
@[simp] theorem biV_intB {b : Bool} : biV "int" [.bool b] = some (.int (if b then 1 else 0)) := Eq.trans rfl rfl
@[simp] theorem biV_int : biV "int" [.int i] = some (.int i) := Eq.trans rfl rfl
@[simp] theorem biV_max : biV "max" [.int i, .int j] = some (.int (if j > i then j else i)) := Eq.trans rfl rfl
@[simp] theorem biV_min : biV "min" [.int i, .int j] = some (.int (if j < i then j else i)) := Eq.trans rfl rfl
def isi1 (t : String) (x : Option (R × Env)) : Option (R × Env) := x.bind fun x => wb x.2 (isInst t x.1.d)
@[simp] theorem eIsi_ap {t : String} : eIsi t a env = isi1 t (a env) := Eq.trans rfl rfl
@[simp] theorem isi1_s {t : String} : isi1 t (some (r, e)) = wb e (isInst t r.d) := Eq.trans rfl rfl
def lst1 (x : Option (List R × Env)) : Option (R × Env) := x.bind fun x => if x.1.length ≤ sizeLine then some (.own (.own (tks x.1 x.2).1), (tks x.1 x.2).2) else none
@[simp] theorem eList_ap {as : List Ev} : eList as env = lst1 (evs as env) := Eq.trans rfl rfl
@[simp] theorem lst1_s {rs : List R} : lst1 (some (rs, e)) = if rs.length ≤ sizeLine then some (.own (.own (tks rs e).1), (tks rs e).2) else none := Eq.trans rfl rfl
def tup1 (x : Option (List R × Env)) : Option (R × Env) := x.bind fun x => if x.1.length ≤ sizeLine then some (.own (.otup (tks x.1 x.2).1), (tks x.1 x.2).2) else none
@[simp] theorem eTup_ap {as : List Ev} : eTup as env = tup1 (evs as env) := Eq.trans rfl rfl
@[simp] theorem tup1_s {rs : List R} : tup1 (some (rs, e)) = if rs.length ≤ sizeLine then some (.own (.otup (tks rs e).1), (tks rs e).2) else none := Eq.trans rfl rfl
/-! ### tests -/
def tv2 (e : Env) (q : Option Bool) : Option (Bool × Env) := q.map fun b => (b, e)
@[simp] theorem frzAll_nil : frzAll [] = [] := Eq.trans rfl rfl
def fz1 : Option O → Option O
  | none => none
  | some o => some (.frz o.d)
@[simp] theorem frzAll_cons {x : Option O} : frzAll (x :: e) = fz1 x :: frzAll e := by cases x <;> rfl
@[simp] theorem fz1_none : fz1 none = none := Eq.trans rfl rfl
@[simp] theorem fz1_some : fz1 (some o) = some (.frz o.d) := Eq.trans rfl rfl
def tv1 (env : Env) (x : Option (R × Env)) : Option (Bool × Env) := x.bind fun x => tv2 env (asBool x.1.d)
@[simp] theorem tV_ap : tV a env = tv1 env (a (frzAll env)) := by
  unfold tV tV0 tv1 tv2
  cases a (frzAll env) with
  | none => rfl
  | some x => simp [Option.map_map, Function.comp_def]
@[simp] theorem tv1_s : tv1 env (some (r, e)) = tv2 env (asBool r.d) := Eq.trans rfl rfl
def tm2 (a : Ev) (env : Env) (r : R) : Bool → Option (R × Env)
  | true => some (r, env)
  | false => a env
def tm1 (a : Ev) (env : Env) (x : Option (R × Env)) : Option (R × Env) := x.bind fun x => tm2 a env x.1 (selfR x.1)
@[simp] theorem eTm_ap : eTm a env = tm1 a env (a (frzAll env)) := by
  unfold eTm tm1
  cases a (frzAll env) with
  | none => rfl
  | some x =>
    simp only [Option.bind_some]
    cases selfR x.1 <;> rfl
@[simp] theorem tm1_s : tm1 a env (some (r, e)) = tm2 a env r (selfR r) := Eq.trans rfl rfl
@[simp] theorem tm2_t : tm2 a env r true = some (r, env) := Eq.trans rfl rfl
@[simp] theorem tm2_f : tm2 a env r false = a env := Eq.trans rfl rfl
@[simp] theorem selfR_frz : selfR (.frz d) = scalar d := Eq.trans rfl rfl
@[simp] theorem selfR_own : selfR (.own o) = o.self := Eq.trans rfl rfl
@[simp] theorem selfR_bor : selfR (.bor n d) = false := Eq.trans rfl rfl
@[simp] theorem tv2_s : tv2 e (some k) = some (k, e) := Eq.trans rfl rfl
def tn1 (x : Option (Bool × Env)) : Option (Bool × Env) := x.map fun x => (!x.1, x.2)
@[simp] theorem tNot_ap : tNot' t env = tn1 (t env) := Eq.trans rfl rfl
@[simp] theorem tn1_s : tn1 (some (k, e)) = some (!k, e) := Eq.trans rfl rfl
def ta1 (u : Tst) (x : Option (Bool × Env)) : Option (Bool × Env) := x.bind fun x => if x.1 then u x.2 else some (false, x.2)
@[simp] theorem tAnd_ap : tAnd' t u env = ta1 u (t env) := Eq.trans rfl rfl
@[simp] theorem ta1_s : ta1 u (some (k, e)) = if k then u e else some (false, e) := Eq.trans rfl rfl
def to1 (u : Tst) (x : Option (Bool × Env)) : Option (Bool × Env) := x.bind fun x => if x.1 then some (true, x.2) else u x.2
@[simp] theorem tOr_ap : tOr' t u env = to1 u (t env) := Eq.trans rfl rfl
@[simp] theorem to1_s : to1 u (some (k, e)) = if k then some (true, e) else u e := Eq.trans rfl rfl
@[simp] theorem tTrue_ap : tTrue env = some (true, env) := Eq.trans rfl rfl
@[simp] theorem ite_tand {k l : Bool} {e : Env} : (if k = true then some (l, e) else some (false, e)) = some (k && l, e) := by cases k <;> rfl
@[simp] theorem ite_tor {k l : Bool} {e : Env} : (if k = true then some (true, e) else some (l, e)) = some (k || l, e) := by cases k <;> rfl
/-! ### what is walked -/
def iv2 (e : Env) : D → Option (List D × Env)
  | .list xs => some (xs, e)
  | .tuple xs => some (xs, e)
  | _ => none
def iv1 (x : Option (R × Env)) : Option (List D × Env) := x.bind fun x => iv2 (fz x.1 x.2).2 (fz x.1 x.2).1
@[simp] theorem iV_ap : iV a env = iv1 (a env) := by
  unfold iV iv1
  cases a env with
  | none => rfl
  | some x => simp only [Option.bind_some]; cases (fz x.1 x.2).1 <;> rfl
@[simp] theorem iv1_s : iv1 (some (r, e)) = iv2 (fz r e).2 (fz r e).1 := Eq.trans rfl rfl
@[simp] theorem iv2_l {ds : List D} : iv2 e (.list ds) = some (ds, e) := Eq.trans rfl rfl
@[simp] theorem iv2_t {ds : List D} : iv2 e (.tuple ds) = some (ds, e) := Eq.trans rfl rfl
def irv2 (e : Env) : D → Option (List D × Env)
  | .list xs => some (xs.reverse, e)
  | _ => none
def irv1 (x : Option (R × Env)) : Option (List D × Env) := x.bind fun x => irv2 (fz x.1 x.2).2 (fz x.1 x.2).1
@[simp] theorem iRv_ap : iRv a env = irv1 (a env) := by
  unfold iRv irv1
  cases a env with
  | none => rfl
  | some x => simp only [Option.bind_some]; cases (fz x.1 x.2).1 <;> rfl
@[simp] theorem irv1_s : irv1 (some (r, e)) = irv2 (fz r e).2 (fz r e).1 := Eq.trans rfl rfl
@[simp] theorem irv2_l {ds : List D} : irv2 e (.list ds) = some (ds.reverse, e) := Eq.trans rfl rfl
def ir1 (x : Option (R × Env)) : Option (List D × Env) := x.bind fun x => (asInt x.1.d).bind fun j => if -(2 ^ 62) ≤ j ∧ j < 2 ^ 62 then some (rangeD 0 j.toNat, x.2) else none
@[simp] theorem iR1_ap : iR1 a env = ir1 (a env) := Eq.trans rfl rfl
/-- a bound of a range -/
def Rk (i : Int) : Prop := -(2 ^ 62) ≤ i ∧ i < 2 ^ 62
instance (i : Int) : Decidable (Rk i) := by unfold Rk; infer_instance
theorem Rk_of {i : Int} (h1 : -1000000000 ≤ i) (h2 : i < 1000000000) : Rk i := ⟨by omega, by omega⟩
@[simp] theorem Rk_zero : Rk 0 := Rk_of (by omega) (by omega)
@[simp] theorem Rk_one : Rk 1 := Rk_of (by omega) (by omega)
@[simp] theorem ir1_s : ir1 (some (.frz (.int j), e)) = if Rk j then some (rangeD 0 j.toNat, e) else none := Eq.trans rfl rfl
def ir2b (r : R) (y : Option (R × Env)) : Option (List D × Env) := y.bind fun y => (asInt r.d).bind fun i => (asInt y.1.d).bind fun j =>
  if -(2 ^ 62) ≤ i ∧ i < 2 ^ 62 ∧ -(2 ^ 62) ≤ j ∧ j < 2 ^ 62 then some (rangeD i (j - i).toNat, y.2) else none
def ir2a (b : Ev) (x : Option (R × Env)) : Option (List D × Env) := x.bind fun x => ir2b x.1 (b x.2)
def lrg1 (q : Option (List D × Env)) : Option (R × Env) := q.bind fun x => if x.1.length ≤ 10000 then some (mkL x.1, x.2) else none
@[simp] theorem eLRg_ap {it : Itw} : eLRg it env = lrg1 (it env) := Eq.trans rfl rfl
@[simp] theorem lrg1_s {ds : List D} {e : Env} : lrg1 (some (ds, e)) = if ds.length ≤ 10000 then some (mkL ds, e) else none := Eq.trans rfl rfl
@[simp] theorem iR2_ap : iR2 a b env = ir2a b (a env) := Eq.trans rfl rfl
@[simp] theorem ir2a_s : ir2a b (some (r, e)) = ir2b r (b e) := Eq.trans rfl rfl
@[simp] theorem ir2b_s : ir2b (.frz (.int i)) (some (.frz (.int j), e)) = if Rk i ∧ Rk j then some (rangeD i (j - i).toNat, e) else none := by
  show (if -(2 ^ 62) ≤ i ∧ i < 2 ^ 62 ∧ -(2 ^ 62) ≤ j ∧ j < 2 ^ 62 then some (rangeD i (j - i).toNat, e) else none) = _
  unfold Rk
  simp only [and_assoc]
def ir3c (r r' : R) (z : Option (R × Env)) : Option (List D × Env) := z.bind fun z => (asInt r.d).bind fun i => (asInt r'.d).bind fun j => (asInt z.1.d).bind fun k =>
  if k = -1 ∧ -(2 ^ 62) ≤ i ∧ i < 2 ^ 62 ∧ -(2 ^ 62) ≤ j ∧ j < 2 ^ 62 then some (downD i (i - j).toNat, z.2) else none
def ir3b (c : Ev) (r : R) (y : Option (R × Env)) : Option (List D × Env) := y.bind fun y => ir3c r y.1 (c y.2)
def ir3a (b c : Ev) (x : Option (R × Env)) : Option (List D × Env) := x.bind fun x => ir3b c x.1 (b x.2)
@[simp] theorem iR3_ap {c : Ev} : iR3 a b c env = ir3a b c (a env) := Eq.trans rfl rfl
@[simp] theorem ir3a_s {c : Ev} {r : R} : ir3a b c (some (r, e)) = ir3b c r (b e) := Eq.trans rfl rfl
@[simp] theorem ir3b_s {c : Ev} {r r' : R} : ir3b c r (some (r', e)) = ir3c r r' (c e) := Eq.trans rfl rfl
@[simp] theorem ir3c_s {i j : Int} : ir3c (.frz (.int i)) (.frz (.int j)) (some (.frz (.int (-1)), e)) = if Rk i ∧ Rk j then some (downD i (i - j).toNat, e) else none := by
  show (if (-1 : Int) = -1 ∧ -(2 ^ 62) ≤ i ∧ i < 2 ^ 62 ∧ -(2 ^ 62) ≤ j ∧ j < 2 ^ 62 then some (downD i (i - j).toNat, e) else none) = _
  unfold Rk
  simp only [and_assoc, true_and]
theorem downD_zero (i : Int) : downD i 0 = [] := rfl
theorem downD_succ (i : Int) (n : Nat) : downD i (n + 1) = .int i :: downD (i - 1) n := by
  unfold downD
  rw [List.range_succ_eq_map, List.map_cons, List.map_map]
  refine congr (congrArg _ (by simp)) (List.map_congr_left fun k _ => ?_)
  show PyData.int (i - ((k + 1 : Nat) : Int)) = _
  congr 1
  omega
@[simp] theorem assignT_one : assignT (.one n) d e = some (e.set n (some (.frz d))) := Eq.trans rfl rfl
@[simp] theorem assignT_many {is : List Nat} {ds : List D} : assignT (.many is) (.tuple ds) e = setMany is ds e := Eq.trans rfl rfl
@[simp] theorem assignT_manyl {is : List Nat} {ds : List D} : assignT (.many is) (.list ds) e = setMany is ds e := Eq.trans rfl rfl
@[simp] theorem setMany_nil : setMany [] [] e = some e := Eq.trans rfl rfl
@[simp] theorem setMany_cons {is : List Nat} {ds : List D} : setMany (n :: is) (d :: ds) e = setMany is ds (e.set n (some (.frz d))) := Eq.trans rfl rfl
/-! ### statements -/
def seq1 (y : Stm) : Option Ctl → Option Ctl
  | some (.next e) => y e
  | c => c
@[simp] theorem sSeq_ap : sSeq x y env = seq1 y (x env) := by
  unfold sSeq seq1
  cases x env with
  | none => rfl
  | some c => cases c <;> rfl
@[simp] theorem seq1_next : seq1 y (some (.next e)) = y e := Eq.trans rfl rfl
@[simp] theorem seq1_ret : seq1 y (some (.ret o)) = some (.ret o) := Eq.trans rfl rfl
@[simp] theorem seq1_brk : seq1 y (some (.brk e)) = some (.brk e) := Eq.trans rfl rfl
@[simp] theorem seq1_cont : seq1 y (some (.cont e)) = some (.cont e) := Eq.trans rfl rfl
def if1 (x y : Stm) (q : Option (Bool × Env)) : Option Ctl := q.bind fun q => if q.1 then x q.2 else y q.2
@[simp] theorem sIf_ap : sIf t x y env = if1 x y (t env) := Eq.trans rfl rfl
@[simp] theorem if1_s : if1 x y (some (k, e)) = if k then x e else y e := Eq.trans rfl rfl
def set1 (n : Nat) (q : Option (R × Env)) : Option Ctl := q.map fun x => .next ((tk x.1 x.2).2.set n (some (tk x.1 x.2).1))
@[simp] theorem sSet_ap : sSet n a env = set1 n (a env) := Eq.trans rfl rfl
@[simp] theorem set1_s : set1 n (some (r, e)) = some (.next ((tk r e).2.set n (some (tk r e).1))) := Eq.trans rfl rfl
def nx (q : Option Env) : Option Ctl := q.map .next
@[simp] theorem nx_s : nx (some e) = some (.next e) := Eq.trans rfl rfl
def par1 (is : List Nat) (q : Option (List R × Env)) : Option Ctl := q.bind fun x => nx (putMany is (tks x.1 x.2).1 (tks x.1 x.2).2)
@[simp] theorem sPar_ap {is : List Nat} {fs : List Ev} : sPar is fs env = par1 is (evs fs env) := Eq.trans rfl rfl
@[simp] theorem par1_s {is : List Nat} {rs : List R} : par1 is (some (rs, e)) = nx (putMany is (tks rs e).1 (tks rs e).2) := Eq.trans rfl rfl
def sets2 (is : List Nat) (e : Env) (q : Option (List O)) : Option Ctl := q.bind fun os => nx (putMany is os e)
def sets1 (is : List Nat) (q : Option (R × Env)) : Option Ctl := q.bind fun x => sets2 is (tk x.1 x.2).2 (unpackO (tk x.1 x.2).1)
@[simp] theorem sSets_ap {is : List Nat} : sSets is a env = sets1 is (a env) := Eq.trans rfl rfl
@[simp] theorem sets1_s {is : List Nat} : sets1 is (some (r, e)) = sets2 is (tk r e).2 (unpackO (tk r e).1) := Eq.trans rfl rfl
@[simp] theorem sets2_s {is : List Nat} {os : List O} : sets2 is e (some os) = nx (putMany is os e) := Eq.trans rfl rfl
@[simp] theorem unpack_frz {ds : List D} : unpackO (.frz (.tuple ds)) = some (ds.map .frz) := Eq.trans rfl rfl
@[simp] theorem unpack_otup {os : List O} : unpackO (.otup os) = some os := Eq.trans rfl rfl
@[simp] theorem unpack_frzl {ds : List D} : unpackO (.frz (.list ds)) = some (ds.map .frz) := Eq.trans rfl rfl
@[simp] theorem unpack_own {os : List O} : unpackO (.own os) = some os := Eq.trans rfl rfl
@[simp] theorem putMany_nil : putMany [] [] e = some e := Eq.trans rfl rfl
@[simp] theorem putMany_cons {is : List Nat} {os : List O} : putMany (n :: is) (o :: os) e = putMany is os (e.set n (some o)) := Eq.trans rfl rfl
def sL : Option (Option O) → Option (List O)
  | some (some (.own os)) => some os
  | _ => none
@[simp] theorem slotL_ap : slotL env n = sL env[n]? := Eq.trans rfl rfl
@[simp] theorem sL_s {os : List O} : sL (some (some (.own os))) = some os := Eq.trans rfl rfl
def app3 (n : Nat) (e : Env) (o : O) (q : Option (List O)) : Option Ctl := q.bind fun os => if os.length < sizeLine then some (.next (e.set n (some (.own (os ++ [o]))))) else none
def app2 (n : Nat) (q : Option (R × Env)) : Option Ctl := q.bind fun x => app3 n (tk x.1 x.2).2 (tk x.1 x.2).1 (slotL (tk x.1 x.2).2 n)
def ap1h (i j : Nat) (x : O × Env) (os2 : Bool × List O) (q : Option (List O)) : Option Ctl := q.bind fun cs => if cs.length < sizeLine then some (.next (x.2.set i (some (mkO os2.1 (os2.2.set j (.own (cs ++ [x.1]))))))) else none
def ap1g (i j : Nat) (x : O × Env) (q : Option (Bool × List O)) : Option Ctl := q.bind fun os2 => ap1h i j x os2 (ownJ os2.2 j)
def ap1f (i j : Nat) (x : Option (R × Env)) : Option Ctl := x.bind fun x => ap1g i j (tk x.1 x.2) (chAt (tk x.1 x.2).2 i)
def ap1e (i j : Nat) (x : Option (R × Env)) (q : Option (List O)) : Option Ctl := q.bind fun _ => ap1f i j x
def ap1d (i : Nat) (x : Option (R × Env)) (os : List O) (q : Option Nat) : Option Ctl := q.bind fun j => ap1e i j x (ownJ os j)
def ap1c (i : Nat) (x : Option (R × Env)) (k : Int) (q : Option (Bool × List O)) : Option Ctl := q.bind fun os => ap1d i x os.2 (ixN os.2.length k)
def ap1b (i : Nat) (a : Ev) (e : Env) (q : Option Int) : Option Ctl := q.bind fun k => ap1c i (a e) k (chAt e i)
def ap1a (i : Nat) (a : Ev) (q : Option (R × Env)) : Option Ctl := q.bind fun y => ap1b i a y.2 (asInt y.1.d)
def ap10 (i : Nat) (a : Ev) (q : Option (R × Env)) (z : Option (Bool × List O)) : Option Ctl := z.bind fun _ => ap1a i a q
@[simp] theorem sAppend1_ap {i : Nat} {ix : Ev} : sAppend1 i ix a env = ap10 i a (ix env) (chAt env i) := Eq.trans rfl rfl
@[simp] theorem ap10_s {i : Nat} {q : Option (R × Env)} {z : Bool × List O} : ap10 i a q (some z) = ap1a i a q := Eq.trans rfl rfl
@[simp] theorem ap1a_s {i : Nat} : ap1a i a (some (r, e)) = ap1b i a e (asInt r.d) := Eq.trans rfl rfl
@[simp] theorem ap1b_s {i : Nat} {m : Int} : ap1b i a e (some m) = ap1c i (a e) m (chAt e i) := Eq.trans rfl rfl
@[simp] theorem ap1c_s {i : Nat} {m : Int} {q : Option (R × Env)} {b : Bool} {os : List O} : ap1c i q m (some (b, os)) = ap1d i q os (ixN os.length m) := Eq.trans rfl rfl
@[simp] theorem ap1d_s {i m : Nat} {q : Option (R × Env)} {os : List O} : ap1d i q os (some m) = ap1e i m q (ownJ os m) := Eq.trans rfl rfl
@[simp] theorem ap1e_s {i m : Nat} {q : Option (R × Env)} {os : List O} : ap1e i m q (some os) = ap1f i m q := Eq.trans rfl rfl
@[simp] theorem ap1f_s {i m : Nat} : ap1f i m (some (r, e)) = ap1g i m (tk r e) (chAt (tk r e).2 i) := Eq.trans rfl rfl
@[simp] theorem ap1g_s {i m : Nat} {x : O × Env} {b : Bool} {os : List O} : ap1g i m x (some (b, os)) = ap1h i m x (b, os) (ownJ os m) := Eq.trans rfl rfl
@[simp] theorem ap1h_s {i m : Nat} {b : Bool} {os cs : List O} : ap1h i m (o, e) (b, os) (some cs) = if cs.length < sizeLine then some (.next (e.set i (some (mkO b (os.set m (.own (cs ++ [o]))))))) else none := Eq.trans rfl rfl
def chO : Option (Option O) → Option (Bool × List O)
  | some (some (.own os)) => some (true, os)
  | some (some (.otup os)) => some (false, os)
  | _ => none
@[simp] theorem chAt_ap {i : Nat} : chAt e i = chO e[i]? := Eq.trans rfl rfl
@[simp] theorem chO_own {os : List O} : chO (some (some (.own os))) = some (true, os) := Eq.trans rfl rfl
@[simp] theorem chO_otup {os : List O} : chO (some (some (.otup os))) = some (false, os) := Eq.trans rfl rfl
def owJ : Option O → Option (List O)
  | some (.own cs) => some cs
  | _ => none
@[simp] theorem ownJ_ap {i : Nat} {os : List O} : ownJ os i = owJ os[i]? := Eq.trans rfl rfl
@[simp] theorem owJ_own {os : List O} : owJ (some (.own os)) = some os := Eq.trans rfl rfl
@[simp] theorem mkO_t {os : List O} : mkO true os = .own os := Eq.trans rfl rfl
@[simp] theorem mkO_f {os : List O} : mkO false os = .otup os := Eq.trans rfl rfl
def app1 (n : Nat) (q : Option (R × Env)) (z : Option (List O)) : Option Ctl := z.bind fun _ => app2 n q
@[simp] theorem sAppend_ap : sAppend n a env = app1 n (a env) (slotL env n) := Eq.trans rfl rfl
@[simp] theorem app1_s {q : Option (R × Env)} {os : List O} : app1 n q (some os) = app2 n q := Eq.trans rfl rfl
@[simp] theorem app2_s : app2 n (some (r, e)) = app3 n (tk r e).2 (tk r e).1 (slotL (tk r e).2 n) := Eq.trans rfl rfl
@[simp] theorem app3_s {os : List O} : app3 n e o (some os) = if os.length < sizeLine then some (.next (e.set n (some (.own (os ++ [o]))))) else none := Eq.trans rfl rfl
def pop1 (n : Nat) (e : Env) (q : Option (List O)) : Option Ctl := q.bind fun os => if os.length = 0 then none else some (.next (e.set n (some (.own os.dropLast))))
@[simp] theorem sPop_ap : sPop n env = pop1 n env (slotL env n) := Eq.trans rfl rfl
@[simp] theorem pop1_s {os : List O} : pop1 n e (some os) = if os.length = 0 then none else some (.next (e.set n (some (.own os.dropLast)))) := Eq.trans rfl rfl
def spop2 (j n : Nat) (e : Env) (os : List O) (q : Option O) : Option Ctl := q.map fun o => .next ((e.set n (some (.own os.dropLast))).set j (some o))
def spop1 (j n : Nat) (e : Env) (q : Option (List O)) : Option Ctl := q.bind fun os => spop2 j n e os os.getLast?
@[simp] theorem sSetPop_ap {j : Nat} : sSetPop j n env = spop1 j n env (slotL env n) := Eq.trans rfl rfl
@[simp] theorem spop1_s {j : Nat} {os : List O} : spop1 j n e (some os) = spop2 j n e os os.getLast? := Eq.trans rfl rfl
@[simp] theorem spop2_s {j : Nat} {os : List O} : spop2 j n e os (some o) = some (.next ((e.set n (some (.own os.dropLast))).set j (some o))) := Eq.trans rfl rfl
def expr1 (q : Option (R × Env)) : Option Ctl := q.map fun x => .next x.2
@[simp] theorem sExpr_ap : sExpr a env = expr1 (a env) := Eq.trans rfl rfl
@[simp] theorem expr1_s : expr1 (some (r, e)) = some (.next e) := Eq.trans rfl rfl
def retO (e : Env) : R → O
  | .frz d => .frz d
  | .own o => o
  | .bor i d => (e[i]?.getD none).getD (.frz d)
def ret1 (q : Option (R × Env)) : Option Ctl := q.map fun x => .ret (retO x.2 x.1)
@[simp] theorem sRet_ap : sRet a env = ret1 (a env) := by
  unfold sRet ret1 retO
  cases a env with
  | none => rfl
  | some x => obtain ⟨r, e⟩ := x; cases r <;> rfl
@[simp] theorem ret1_s : ret1 (some (r, e)) = some (.ret (retO e r)) := Eq.trans rfl rfl
@[simp] theorem retO_frz : retO e (.frz d) = .frz d := Eq.trans rfl rfl
@[simp] theorem retO_own : retO e (.own o) = o := Eq.trans rfl rfl
@[simp] theorem retO_bor : retO e (.bor n d) = (e[n]?.getD none).getD (.frz d) := Eq.trans rfl rfl
@[simp] theorem mvO_frz : mvO e (.frz d) = .frz d := Eq.trans rfl rfl
@[simp] theorem mvO_own : mvO e (.own o) = o := Eq.trans rfl rfl
@[simp] theorem mvO_bor : mvO e (.bor n d) = (e[n]?.getD none).getD (.frz d) := Eq.trans rfl rfl
@[simp] theorem bors_nil : bors [] = [] := Eq.trans rfl rfl
@[simp] theorem bors_frz {rs : List R} : bors (.frz d :: rs) = bors rs := Eq.trans rfl rfl
@[simp] theorem bors_own {rs : List R} : bors (.own o :: rs) = bors rs := Eq.trans rfl rfl
@[simp] theorem bors_bor {rs : List R} : bors (.bor n d :: rs) = n :: bors rs := Eq.trans rfl rfl
@[simp] theorem dupN_nil : dupN [] = false := Eq.trans rfl rfl
@[simp] theorem dupN_cons {is : List Nat} : dupN (n :: is) = (is.contains n || dupN is) := Eq.trans rfl rfl
def rt2 (rs : List R) (e : Env) : Bool → List O
  | true => (tks rs e).1
  | false => rs.map (mvO e)
def rt1 (q : Option (List R × Env)) : Option Ctl := q.bind fun x => if x.1.length ≤ sizeLine then some (.ret (.otup (rt2 x.1 x.2 (dupN (bors x.1))))) else none
@[simp] theorem sRetT_ap {as : List Ev} : sRetT as env = rt1 (evs as env) := by
  unfold sRetT rt1
  cases evs as env with
  | none => rfl
  | some x =>
    simp only [Option.bind_some]
    cases dupN (bors x.1) <;> rfl
@[simp] theorem rt1_s {rs : List R} : rt1 (some (rs, e)) = if rs.length ≤ sizeLine then some (.ret (.otup (rt2 rs e (dupN (bors rs))))) else none := Eq.trans rfl rfl
@[simp] theorem rt2_t {rs : List R} : rt2 rs e true = (tks rs e).1 := Eq.trans rfl rfl
@[simp] theorem rt2_f {rs : List R} : rt2 rs e false = rs.map (mvO e) := Eq.trans rfl rfl
theorem sRetPick_ap {m : Nat} {os : List O} {q : Tst} (h : slotL env m = some os) (h1 : n < env.length) (h2 : os.length ≤ sizeLine) : sRetPick n m q a env = (pickGo n q os ((frzAll env).set n none)).bind fun r => r.head?.map .ret := by
  unfold sRetPick
  rw [h]
  exact if_pos ⟨h1, h2⟩
def ra2 (os : Option (List O)) (r : R) : Option Ctl := os.bind fun os => match r with
    | .own (.own os2) => if os.length + os2.length ≤ sizeLine then some (.ret (.own (os ++ os2))) else none
    | _ => none
def ra1 (i : Nat) (x : Option (R × Env)) : Option Ctl := x.bind fun x => ra2 (slotL x.2 i) x.1
theorem sRetAdd_ap {i : Nat} {os : List O} (h : slotL env i = some os) : sRetAdd i a env = ra1 i (a env) := by
  unfold sRetAdd
  rw [h]
  rfl
theorem ra1_s {i : Nat} {os os2 : List O} (h : slotL e i = some os) (h2 : os.length + os2.length ≤ sizeLine) : ra1 i (some (.own (.own os2), e)) = some (.ret (.own (os ++ os2))) := by
  unfold ra1
  rw [Option.bind_some]
  unfold ra2
  rw [h, Option.bind_some]
  exact if_pos h2
def fa1 (n m : Nat) (a : Ev) (env : Env) (q : Option (List O)) : Option Ctl := q.bind fun os => if n ≠ m ∧ n < env.length then
    (itemsGo n m a os ((env.set m none).set n none)).map fun y => .next (y.2.set m (some (.own y.1))) else none
theorem sForA_ap {m : Nat} : sForA n m a env = fa1 n m a env (slotL env m) := Eq.trans rfl rfl
theorem fa1_s {m : Nat} {os : List O} : fa1 n m a env (some os) = if n ≠ m ∧ n < env.length then
    (itemsGo n m a os ((env.set m none).set n none)).map fun y => .next (y.2.set m (some (.own y.1))) else none := Eq.trans rfl rfl
@[simp] theorem sRetN_ap : sRetN env = some (.ret (.frz .none)) := Eq.trans rfl rfl
@[simp] theorem sNext_ap : sNext env = some (.next env) := Eq.trans rfl rfl
@[simp] theorem sBrk_ap : sBrk env = some (.brk env) := Eq.trans rfl rfl
@[simp] theorem sCont_ap : sCont env = some (.cont env) := Eq.trans rfl rfl
/-- a loop goes on behind a turn -/
def go1 (f : Env → Option Ctl) : Option Ctl → Option Ctl
  | some (.next e) => f e
  | some (.cont e) => f e
  | some (.brk e) => some (.next e)
  | some (.ret o) => some (.ret o)
  | none => none
@[simp] theorem go1_next {f : Env → Option Ctl} : go1 f (some (.next e)) = f e := Eq.trans rfl rfl
@[simp] theorem go1_cont {f : Env → Option Ctl} : go1 f (some (.cont e)) = f e := Eq.trans rfl rfl
@[simp] theorem go1_brk {f : Env → Option Ctl} : go1 f (some (.brk e)) = some (.next e) := Eq.trans rfl rfl
@[simp] theorem go1_ret {f : Env → Option Ctl} : go1 f (some (.ret o)) = some (.ret o) := Eq.trans rfl rfl
def fg1 (tg : Tgt) (body : Stm) (ds : List D) (q : Option Env) : Option Ctl := q.bind fun e => go1 (forGo tg body ds) (body e)
theorem forGo_nil {tg : Tgt} {body : Stm} : forGo tg body [] env = some (.next env) := rfl
theorem forGo_cons {tg : Tgt} {body : Stm} {ds : List D} : forGo tg body (d :: ds) env = fg1 tg body ds (assignT tg d env) := by
  show (assignT tg d env).bind _ = _
  unfold fg1
  cases assignT tg d env with
  | none => rfl
  | some e =>
    simp only [Option.bind_some]
    cases body e with
    | none => rfl
    | some c => cases c <;> rfl
@[simp] theorem fg1_s {tg : Tgt} {body : Stm} {ds : List D} : fg1 tg body ds (some e) = go1 (forGo tg body ds) (body e) := Eq.trans rfl rfl
def for1 (tg : Tgt) (body : Stm) (q : Option (List D × Env)) : Option Ctl := q.bind fun x => forGo tg body x.1 x.2
@[simp] theorem sFor_ap {tg : Tgt} {it : Itw} {body : Stm} : sFor tg it body env = for1 tg body (it env) := Eq.trans rfl rfl
@[simp] theorem for1_s {tg : Tgt} {body : Stm} {ds : List D} : for1 tg body (some (ds, e)) = forGo tg body ds e := Eq.trans rfl rfl
def wg1 (t : Tst) (body : Stm) (n : Nat) (q : Option (Bool × Env)) : Option Ctl := q.bind fun x => if x.1 then go1 (whileGo t body n) (body x.2) else some (.next x.2)
theorem whileGo_succ {t : Tst} {body : Stm} : whileGo t body (n + 1) env = wg1 t body n (t env) := by
  show (t env).bind _ = _
  unfold wg1
  cases t env with
  | none => rfl
  | some x =>
    obtain ⟨b, e⟩ := x
    cases b with
    | false => rfl
    | true =>
      simp only [Option.bind_some, if_true]
      cases body e with
      | none => rfl
      | some c => cases c <;> rfl
@[simp] theorem wg1_s {t : Tst} {body : Stm} : wg1 t body n (some (k, e)) = if k then go1 (whileGo t body n) (body e) else some (.next e) := Eq.trans rfl rfl
@[simp] theorem sWhile_ap {t : Tst} {body : Stm} : sWhile t body env = whileGo t body 1000000 env := Eq.trans rfl rfl
@[simp] theorem outO_ret : outO (some (.ret o)) = some o := Eq.trans rfl rfl
@[simp] theorem outO_next : outO (some (.next e)) = some (.frz .none) := Eq.trans rfl rfl
/-! ### comprehensions -/
def lg3 (vs : List Nat) (tg : Tgt) (tst : Tst) (elt : Ev) (ds : List D) (acc : List O) (q : Option (R × Env)) : Option (List O × Env) := q.bind fun r => if acc.length < sizeLine then lcGo vs tg tst elt ds (wipeE (tk r.1 r.2).2 vs) (acc ++ [(tk r.1 r.2).1]) else none
def lg2 (vs : List Nat) (tg : Tgt) (tst : Tst) (elt : Ev) (ds : List D) (acc : List O) (q : Option (Bool × Env)) : Option (List O × Env) := q.bind fun b => if b.1 then lg3 vs tg tst elt ds acc (elt b.2) else lcGo vs tg tst elt ds (wipeE b.2 vs) acc
def lg1 (vs : List Nat) (tg : Tgt) (tst : Tst) (elt : Ev) (ds : List D) (acc : List O) (q : Option Env) : Option (List O × Env) := q.bind fun w => lg2 vs tg tst elt ds acc (tst w)
section
variable {vs : List Nat} {tg : Tgt} {tst : Tst} {elt : Ev} {ds : List D} {acc : List O}
theorem lcGo_nil : lcGo vs tg tst elt [] env acc = some (acc, env) := rfl
theorem lcGo_cons : lcGo vs tg tst elt (d :: ds) env acc = lg1 vs tg tst elt ds acc (assignT tg d env) := rfl
@[simp] theorem lg1_s : lg1 vs tg tst elt ds acc (some e) = lg2 vs tg tst elt ds acc (tst e) := Eq.trans rfl rfl
@[simp] theorem lg2_s : lg2 vs tg tst elt ds acc (some (k, e)) = if k then lg3 vs tg tst elt ds acc (elt e) else lcGo vs tg tst elt ds (wipeE e vs) acc := Eq.trans rfl rfl
@[simp] theorem lg3_s : lg3 vs tg tst elt ds acc (some (r, e)) = if acc.length < sizeLine then lcGo vs tg tst elt ds (wipeE (tk r e).2 vs) (acc ++ [(tk r e).1]) else none := Eq.trans rfl rfl
def lc2 (vs : List Nat) (e : Env) (q : Option (List O × Env)) : Option (R × Env) := q.map fun y => (.own (.own y.1), restE e y.2 vs)
def lc1 (vs : List Nat) (tg : Tgt) (tst : Tst) (elt : Ev) (q : Option (List D × Env)) : Option (R × Env) := q.bind fun x => if vs.all (fun i => !ownAt x.2 i && decide (i < x.2.length)) then lc2 vs x.2 (lcGo vs tg tst elt x.1 (wipeE x.2 vs) []) else none
@[simp] theorem eLC_ap {it : Itw} : eLC vs tg it tst elt env = lc1 vs tg tst elt (it env) := Eq.trans rfl rfl
@[simp] theorem lc1_s : lc1 vs tg tst elt (some (ds, e)) = if vs.all (fun i => !ownAt e i && decide (i < e.length)) then lc2 vs e (lcGo vs tg tst elt ds (wipeE e vs) []) else none := Eq.trans rfl rfl
@[simp] theorem lc2_s {os : List O} : lc2 vs e (some (os, env)) = some (.own (.own os), restE e env vs) := Eq.trans rfl rfl
section
variable {it1 : Itw} {vs1 : List Nat} {tg1 : Tgt} {tst1 : Tst} {xs : List D} {acc' : List O}
def lh4 (vs : List Nat) (tg : Tgt) (tst : Tst) (it1 : Itw) (vs1 : List Nat) (tg1 : Tgt) (tst1 : Tst) (elt : Ev) (ds : List D) (q : Option (List O × Env)) : Option (List O × Env) := q.bind fun y => lc2Go vs tg tst it1 vs1 tg1 tst1 elt ds (wipeE y.2 vs) y.1
def lh3 (vs : List Nat) (tg : Tgt) (tst : Tst) (it1 : Itw) (vs1 : List Nat) (tg1 : Tgt) (tst1 : Tst) (elt : Ev) (ds : List D) (acc : List O) (q : Option (List D × Env)) : Option (List O × Env) := q.bind fun x => lh4 vs tg tst it1 vs1 tg1 tst1 elt ds (lcGo vs1 tg1 tst1 elt x.1 (wipeE x.2 vs1) acc)
def lh2 (vs : List Nat) (tg : Tgt) (tst : Tst) (it1 : Itw) (vs1 : List Nat) (tg1 : Tgt) (tst1 : Tst) (elt : Ev) (ds : List D) (acc : List O) (q : Option (Bool × Env)) : Option (List O × Env) := q.bind fun b => if b.1 then lh3 vs tg tst it1 vs1 tg1 tst1 elt ds acc (it1 b.2) else lc2Go vs tg tst it1 vs1 tg1 tst1 elt ds (wipeE b.2 vs) acc
def lh1 (vs : List Nat) (tg : Tgt) (tst : Tst) (it1 : Itw) (vs1 : List Nat) (tg1 : Tgt) (tst1 : Tst) (elt : Ev) (ds : List D) (acc : List O) (q : Option Env) : Option (List O × Env) := q.bind fun w => lh2 vs tg tst it1 vs1 tg1 tst1 elt ds acc (tst w)
theorem lc2Go_nil : lc2Go vs tg tst it1 vs1 tg1 tst1 elt [] env acc = some (acc, env) := rfl
theorem lc2Go_cons : lc2Go vs tg tst it1 vs1 tg1 tst1 elt (d :: ds) env acc = lh1 vs tg tst it1 vs1 tg1 tst1 elt ds acc (assignT tg d env) := rfl
@[simp] theorem lh1_s : lh1 vs tg tst it1 vs1 tg1 tst1 elt ds acc (some e) = lh2 vs tg tst it1 vs1 tg1 tst1 elt ds acc (tst e) := Eq.trans rfl rfl
@[simp] theorem lh2_s : lh2 vs tg tst it1 vs1 tg1 tst1 elt ds acc (some (k, e)) = if k then lh3 vs tg tst it1 vs1 tg1 tst1 elt ds acc (it1 e) else lc2Go vs tg tst it1 vs1 tg1 tst1 elt ds (wipeE e vs) acc := Eq.trans rfl rfl
@[simp] theorem lh3_s : lh3 vs tg tst it1 vs1 tg1 tst1 elt ds acc (some (xs, e)) = lh4 vs tg tst it1 vs1 tg1 tst1 elt ds (lcGo vs1 tg1 tst1 elt xs (wipeE e vs1) acc) := Eq.trans rfl rfl
@[simp] theorem lh4_s : lh4 vs tg tst it1 vs1 tg1 tst1 elt ds (some (acc', e)) = lc2Go vs tg tst it1 vs1 tg1 tst1 elt ds (wipeE e vs) acc' := Eq.trans rfl rfl
def lk1 (vs : List Nat) (tg : Tgt) (tst : Tst) (it1 : Itw) (vs1 : List Nat) (tg1 : Tgt) (tst1 : Tst) (elt : Ev) (q : Option (List D × Env)) : Option (R × Env) := q.bind fun x => if vs.all (fun i => !ownAt x.2 i && decide (i < x.2.length)) then lc2 vs x.2 (lc2Go vs tg tst it1 vs1 tg1 tst1 elt x.1 (wipeE x.2 vs) []) else none
@[simp] theorem eLC2_ap {it : Itw} : eLC2 vs tg it tst it1 vs1 tg1 tst1 elt env = lk1 vs tg tst it1 vs1 tg1 tst1 elt (it env) := Eq.trans rfl rfl
@[simp] theorem lk1_s : lk1 vs tg tst it1 vs1 tg1 tst1 elt (some (ds, e)) = if vs.all (fun i => !ownAt e i && decide (i < e.length)) then lc2 vs e (lc2Go vs tg tst it1 vs1 tg1 tst1 elt ds (wipeE e vs) []) else none := Eq.trans rfl rfl
end
@[simp] theorem wipeE_nil : wipeE e [] = e := Eq.trans rfl rfl
@[simp] theorem wipeE_cons : wipeE e (n :: vs) = (wipeE e vs).set n none := Eq.trans rfl rfl
@[simp] theorem restE_nil : restE env e [] = e := Eq.trans rfl rfl
@[simp] theorem restE_cons : restE env e (n :: vs) = (restE env e vs).set n (env[n]?.getD none) := Eq.trans rfl rfl
def oA : Option (Option O) → Bool
  | some (some (.frz _)) => false
  | some (some _) => true
  | _ => false
@[simp] theorem ownAt_ap : ownAt e n = oA e[n]? := Eq.trans rfl rfl
@[simp] theorem oA_frz : oA (some (some (.frz d))) = false := Eq.trans rfl rfl
@[simp] theorem oA_none : oA (some none) = false := Eq.trans rfl rfl
@[simp] theorem oA_own {os : List O} : oA (some (some (.own os))) = true := Eq.trans rfl rfl
def fA : Option (Option O) → Bool
  | some (some o) => o.flat
  | _ => false
@[simp] theorem flatAt_ap : flatAt e n = fA e[n]? := Eq.trans rfl rfl
@[simp] theorem fA_s : fA (some (some o)) = o.flat := Eq.trans rfl rfl
@[simp] theorem flat_own {os : List O} : O.flat (.own os) = os.all O.isFrz := Eq.trans rfl rfl
@[simp] theorem flat_otup {os : List O} : O.flat (.otup os) = os.all O.isFrz := Eq.trans rfl rfl
@[simp] theorem isFrz_frz : O.isFrz (.frz d) = true := Eq.trans rfl rfl
end
/-! ### values -/
@[simp] theorem binV_addi : binV .Add (.int i) (.int j) = some (.frz (.int (i + j))) := Eq.trans rfl rfl
@[simp] theorem binV_subi : binV .Sub (.int i) (.int j) = some (.frz (.int (i - j))) := Eq.trans rfl rfl
theorem binV_addl {xs ys : List D} : binV .Add (.list xs) (.list ys) = if xs.length + ys.length ≤ sizeLine then some (mkL (xs ++ ys)) else none := rfl
theorem binV_muli : binV .Mult (.int i) (.int j) = if (-(2 ^ 64) < i ∧ i < 2 ^ 64) ∨ (-(2 ^ 64) < j ∧ j < 2 ^ 64) then some (.frz (.int (i * j))) else
      if i.natAbs.log2 + j.natAbs.log2 < 1000000 then some (.frz (.int (i * j))) else none := rfl
theorem mul_ok (h : (-(2 ^ 64) < i ∧ i < 2 ^ 64) ∨ (-(2 ^ 64) < j ∧ j < 2 ^ 64)) : binV .Mult (.int i) (.int j) = some (.frz (.int (i * j))) := if_pos h
theorem binV_mull {xs : List D} : binV .Mult (.list xs) (.int i) = if -(2 ^ 63) ≤ i ∧ i < 2 ^ 63 ∧ xs.length * i.toNat ≤ sizeLine then some (mkL (List.replicate i.toNat xs).flatten) else none := rfl
@[simp] theorem binV_fdiv : binV .FloorDiv (.int i) (.int j) = if j ≠ 0 ∧ j.natAbs < 1073741824 then some (.frz (.int (i.fdiv j))) else none := Eq.trans rfl rfl
@[simp] theorem binV_mod : binV .Mod (.int i) (.int j) = if j ≠ 0 then some (.frz (.int (i.fmod j))) else none := Eq.trans rfl rfl
/-- a factor of a product -/
def Sm (i : Int) : Prop := -(2 ^ 64) < i ∧ i < 2 ^ 64
theorem Sm_of {i : Int} (h1 : -1000000000000 ≤ i) (h2 : i ≤ 1000000000000) : Sm i := ⟨by omega, by omega⟩
theorem mul_r (h : Sm j) : binV .Mult (.int i) (.int j) = some (.frz (.int (i * j))) := if_pos (.inr h)
theorem mul_l (h : Sm i) : binV .Mult (.int i) (.int j) = some (.frz (.int (i * j))) := if_pos (.inl h)
/-- how often a list is written -/
def Tm (n : Nat) (i : Int) : Prop := -(2 ^ 63) ≤ i ∧ i < 2 ^ 63 ∧ n * i.toNat ≤ sizeLine
theorem Tm_of {n : Nat} {i : Int} (h1 : -1000000 ≤ i) (h2 : i ≤ 1000) (h3 : n ≤ 10000) : Tm n i := by
  refine ⟨by omega, by omega, ?_⟩
  rw [sizeLine_eq]
  have : n * i.toNat ≤ 10000 * 1000 := Nat.mul_le_mul h3 (by omega)
  omega
theorem rep_l {xs : List D} (h : Tm xs.length i) : binV .Mult (.list xs) (.int i) = some (mkL (List.replicate i.toNat xs).flatten) := if_pos h
theorem pow_10_18 : binV .Pow (.int 10) (.int 18) = some (.frz (.int 1000000000000000000)) := by
  show (if (0 : Int) ≤ 18 ∧ (18 : Int) ≤ 1000000 ∧ (10 : Int).natAbs < 2 ^ 64 then some (R.frz (.int (10 ^ (18 : Int).toNat))) else none) = _
  rw [if_pos (by decide)]
  rfl
theorem binV_pow : binV .Pow (.int i) (.int j) = if 0 ≤ j ∧ j ≤ 1000000 ∧ i.natAbs < 2 ^ 64 then some (.frz (.int (i ^ j.toNat))) else none := rfl
@[simp] theorem cmpV_eq {p q : D} : cmpV .Eq p q = eqD p q := by cases p <;> rfl
@[simp] theorem cmpV_ne {p q : D} : cmpV .NotEq p q = (eqD p q).map (!·) := by cases p <;> rfl
@[simp] theorem cmpV_lt : cmpV .Lt (.int i) (.int j) = some (decide (i < j)) := Eq.trans rfl rfl
@[simp] theorem cmpV_le : cmpV .LtE (.int i) (.int j) = some (decide (i ≤ j)) := Eq.trans rfl rfl
@[simp] theorem cmpV_gt : cmpV .Gt (.int i) (.int j) = some (decide (j < i)) := Eq.trans rfl rfl
@[simp] theorem cmpV_ge : cmpV .GtE (.int i) (.int j) = some (decide (j ≤ i)) := Eq.trans rfl rfl
@[simp] theorem cmpV_is : cmpV .Is d .none = some (isNoneD d) := by cases d <;> rfl
@[simp] theorem cmpV_isb {a b : Bool} : cmpV .Is (.bool a) (.bool b) = some (a == b) := Eq.trans rfl rfl
@[simp] theorem cmpV_isnotb {a b : Bool} : cmpV .IsNot (.bool a) (.bool b) = some (!(a == b)) := Eq.trans rfl rfl
@[simp] theorem cmpV_isnot : cmpV .IsNot d .none = some (!isNoneD d) := by cases d <;> rfl
@[simp] theorem isNoneD_none : isNoneD .none = true := Eq.trans rfl rfl
@[simp] theorem isNoneD_int : isNoneD (.int i) = false := Eq.trans rfl rfl
@[simp] theorem isNoneD_list {ds : List D} : isNoneD (.list ds) = false := Eq.trans rfl rfl
@[simp] theorem isNoneD_tuple {ds : List D} : isNoneD (.tuple ds) = false := Eq.trans rfl rfl
@[simp] theorem isNoneD_bool : isNoneD (.bool k) = false := Eq.trans rfl rfl
@[simp] theorem isNoneD_str {z : Str} : isNoneD (.str z) = false := Eq.trans rfl rfl
@[simp] theorem eqD_int : eqD (.int i) (.int j) = some (decide (i = j)) := Eq.trans rfl rfl
@[simp] theorem eqD_bool {l : Bool} : eqD (.bool k) (.bool l) = some (decide (k = l)) := Eq.trans rfl rfl
@[simp] theorem eqD_str {z w : Str} : eqD (.str z) (.str w) = some (decide (z = w)) := Eq.trans rfl rfl
end
/-! ### lists of ints -/
def dI (ws : List Int) : List D := ws.map .int
def mI (ws : List Int) : List O := ws.map fun i => .frz (.int i)
abbrev ow (ws : List Int) : O := .own (mI ws)
abbrev L (ws : List Int) : D := .list (dI ws)
theorem dI_cons (w : Int) (ws : List Int) : dI (w :: ws) = .int w :: dI ws := rfl
theorem dI_nil : dI [] = [] := rfl
theorem mI_nil : mI [] = [] := rfl
@[simp] theorem ds_mI : ∀ ws : List Int, O.ds (mI ws) = dI ws
  | [] => rfl
  | w :: ws => by show PyData.int w :: O.ds (mI ws) = _; rw [ds_mI ws]; rfl
@[simp] theorem mI_snoc (ws : List Int) (a : Int) : mI ws ++ [O.frz (.int a)] = mI (ws ++ [a]) := by simp [mI]
@[simp] theorem mI_cons (a : Int) (ws : List Int) : O.frz (.int a) :: mI ws = mI (a :: ws) := Eq.trans rfl rfl
@[simp] theorem mI_one (a : Int) : [O.frz (.int a)] = mI [a] := Eq.trans rfl rfl
theorem dI_cons' (a : Int) (ws : List Int) : PyData.int a :: dI ws = dI (a :: ws) := Eq.trans rfl rfl
theorem dI_one (a : Int) : [PyData.int a] = dI [a] := Eq.trans rfl rfl
@[simp] theorem list_cons (a : Int) (ws : List Int) : PyData.list (PyData.int a :: dI ws) = L (a :: ws) := Eq.trans rfl rfl
@[simp] theorem list_one (a : Int) : PyData.list [PyData.int a] = L [a] := Eq.trans rfl rfl
@[simp] theorem dI_app (ws vs : List Int) : dI ws ++ dI vs = dI (ws ++ vs) := by simp [dI]
@[simp] theorem dI_rev (ws : List Int) : (dI ws).reverse = dI ws.reverse := by simp [dI]
@[simp] theorem dI_get (ws : List Int) (k : Nat) : (dI ws)[k]? = ws[k]?.map .int := by simp [dI]
@[simp] theorem dI_len (ws : List Int) : (dI ws).length = ws.length := by simp [dI]
@[simp] theorem mI_len (ws : List Int) : (mI ws).length = ws.length := by simp [mI]
@[simp] theorem mI_dropLast (ws : List Int) : (mI ws).dropLast = mI ws.dropLast := by simp [mI, List.map_dropLast]
@[simp] theorem mI_getLast (ws : List Int) : (mI ws).getLast? = ws.getLast?.map fun i => .frz (.int i) := by simp [mI, List.getLast?_map]
@[simp] theorem selfs_mI : ∀ ws : List Int, O.selfs (mI ws) = true
  | [] => rfl
  | w :: ws => by show (true && O.selfs (mI ws)) = true; rw [selfs_mI ws]; rfl
@[simp] theorem all_mI : ∀ ws : List Int, (mI ws).all O.isFrz = true
  | [] => rfl
  | w :: ws => by show (true && (mI ws).all O.isFrz) = true; rw [all_mI ws]; rfl
@[simp] theorem map_frz_dI (ws : List Int) : (dI ws).map O.frz = mI ws := by simp [dI, mI, Function.comp_def]
@[simp] theorem mkL_dI (ws : List Int) : mkL (dI ws) = .own (ow ws) := by unfold mkL; rw [map_frz_dI]
@[simp] theorem mkT_dI (ws : List Int) : mkT (dI ws) = .own (.otup (mI ws)) := by unfold mkT; rw [map_frz_dI]
@[simp] theorem mI_app (ws vs : List Int) : mI ws ++ mI vs = mI (ws ++ vs) := by simp [mI]
@[simp] theorem dI_getLast (ws : List Int) : (dI ws).getLast? = ws.getLast?.map .int := by simp [dI, List.getLast?_map]
@[simp] theorem line_pos : 0 < sizeLine := by rw [sizeLine_eq]; decide
theorem atI_map {α β : Type} (f : α → β) (xs : List α) (i : Int) : atI (xs.map f) i = (atI xs i).map f := by
  unfold atI
  rw [List.length_map]
  cases ixN xs.length i with
  | none => rfl
  | some j => simp
@[simp] theorem atI_dI (ws : List Int) (i : Int) : atI (dI ws) i = (atI ws i).map .int := atI_map _ _ _
def cutI (xs : List Int) (lo hi : Option Int) : List Int := (xs.drop (HT.sIx xs.length 0 lo)).take (HT.sIx xs.length xs.length hi - HT.sIx xs.length 0 lo)
@[simp] theorem cutD_dI (ws : List Int) (lo hi : Option Int) : cutD (dI ws) lo hi = dI (cutI ws lo hi) := by
  unfold cutD cutI dI
  rw [List.length_map, List.map_take, List.map_drop]
@[simp] theorem rep_dI (ws : List Int) : ∀ n : Nat, (List.replicate n (dI ws)).flatten = dI (List.replicate n ws).flatten
  | 0 => rfl
  | n + 1 => by rw [List.replicate_succ, List.replicate_succ, List.flatten_cons, List.flatten_cons, rep_dI ws n, dI_app]
theorem atI_neg {α : Type} (xs : List α) : atI xs (-1) = xs.getLast? := by
  cases h : xs.getLast? with
  | none =>
    rw [List.getLast?_eq_none_iff] at h
    subst h
    rfl
  | some v =>
    have hne : xs ≠ [] := by intro z; rw [z] at h; cases h
    have h1 := List.dropLast_concat_getLast hne
    rw [List.getLast?_eq_getLast hne] at h
    rw [← h1, Option.some.inj h]
    exact atI_last _ _
theorem atI_nat' {α : Type} (xs : List α) (j : Nat) : atI xs (j : Int) = xs[j]? := by
  cases h : xs[j]? with
  | some v => exact atI_nat h
  | none =>
    unfold atI ixN
    have : xs.length ≤ j := List.getElem?_eq_none_iff.mp h
    rw [if_pos (Int.natCast_nonneg j), if_neg (by omega)]
    rfl
theorem lineN : sizeLine = 16777216 := sizeLine_eq
theorem line_lt {n : Nat} (h : n < 1000000) : n < sizeLine := by rw [sizeLine_eq]; omega
theorem line_le {n : Nat} (h : n < 1000000) : n ≤ sizeLine := by rw [sizeLine_eq]; omega
@[simp] theorem ix3_map {r : R} {x : D} {e : Env} (q : Option Int) : ix3 r x e (q.map .int) = q.map fun i => (.frz (.int i), e) := by cases q <;> rfl
/-! data that can be laid -/
theorem shaped_int (i : Int) : SeqAt.shaped (.int i) = true := by simp [SeqAt.shaped, PyData.canLay0, PyData.depth]
theorem lay_dI : ∀ ws : List Int, PyData.canLayAll0 (dI ws) = true
  | [] => by simp [dI, PyData.canLayAll0]
  | w :: ws => by rw [dI_cons]; simp [PyData.canLayAll0, PyData.canLay0, lay_dI ws]
theorem dep_dI : ∀ ws : List Int, PyData.depthAll (dI ws) = 0
  | [] => by simp [dI, PyData.depthAll]
  | w :: ws => by rw [dI_cons]; simp [PyData.depthAll, PyData.depth, dep_dI ws]
@[simp] theorem shaped_dI (ws : List Int) : SeqAt.shaped (.list (dI ws)) = true := by simp [SeqAt.shaped, PyData.canLay0, PyData.depth, lay_dI, dep_dI]
theorem eqvAll_dI : ∀ ws vs : List Int, PyData.eqvAll (dI ws) (dI vs) = decide (ws = vs)
  | [], [] => by simp [dI, PyData.eqvAll]
  | [], v :: vs => by simp [dI, PyData.eqvAll]
  | w :: ws, [] => by simp [dI, PyData.eqvAll]
  | w :: ws, v :: vs => by
    rw [dI_cons, dI_cons]
    simp only [PyData.eqvAll, PyData.eqv, eqvAll_dI ws vs, List.cons.injEq]
    by_cases h : w = v <;> simp [h]
@[simp] theorem eqD_dI (ws vs : List Int) : eqD (.list (dI ws)) (.list (dI vs)) = some (decide (ws = vs)) := by
  show (if SeqAt.shaped (.list (dI ws)) = true ∧ SeqAt.shaped (.list (dI vs)) = true then some (PyData.eqv (.list (dI ws)) (.list (dI vs))) else none) = _
  rw [if_pos ⟨shaped_dI ws, shaped_dI vs⟩]
  simp only [PyData.eqv, eqvAll_dI]
@[simp] theorem eqD_nil (ws : List Int) : eqD (.list (dI ws)) (.list []) = some (decide (ws = [])) := eqD_dI ws []
@[simp] theorem eqD_nil' (ws : List Int) : eqD (.list []) (.list (dI ws)) = some (decide ([] = ws)) := eqD_dI [] ws
theorem add_l {xs ys : List Int} (h : xs.length + ys.length < 1000000) : binV .Add (.list (dI xs)) (.list (dI ys)) = some (.own (ow (xs ++ ys))) := by
  rw [binV_addl, if_pos (by rw [dI_len, dI_len]; exact line_le h), dI_app, mkL_dI]
theorem add_l0 {xs : List Int} (h : xs.length < 1000000) : binV .Add (.list (dI xs)) (.list []) = some (.own (ow xs)) := by
  have := add_l (xs := xs) (ys := []) (by simpa using h)
  simpa [dI] using this
theorem rep_li {xs : List Int} {i : Int} (h1 : -1000000 ≤ i) (h2 : i ≤ 1000) (h3 : xs.length ≤ 10000) : binV .Mult (.list (dI xs)) (.int i) = some (.own (ow (List.replicate i.toNat xs).flatten)) := by
  rw [rep_l (Tm_of h1 h2 (by rw [dI_len]; exact h3)), rep_dI, mkL_dI]
/-! ### cuts -/
theorem sIx_pos {n d : Nat} {i : Int} (h : 0 ≤ i) : HT.sIx n d (some i) = min i.toNat n := by
  show (if i < 0 then (i + (n : Int)).toNat else min i.toNat n) = _
  rw [if_neg (by omega)]
theorem sIx_neg {n d : Nat} {i : Int} (h : i < 0) : HT.sIx n d (some i) = (i + n).toNat := if_pos h
theorem cut_to {ws : List Int} {i : Int} (h : 0 ≤ i) : cutI ws none (some i) = ws.take i.toNat := by
  unfold cutI
  rw [HT.sIx_none, sIx_pos h, List.drop_zero, Nat.sub_zero, ← List.take_take, List.take_length]
theorem cut_from {ws : List Int} {i : Int} (h : 0 ≤ i) : cutI ws (some i) none = ws.drop i.toNat := by
  unfold cutI
  rw [HT.sIx_none, sIx_pos h, List.take_of_length_le (by simp)]
  by_cases q : i.toNat ≤ ws.length
  · rw [Nat.min_eq_left q]
  · rw [Nat.min_eq_right (by omega), List.drop_of_length_le (Nat.le_refl _), List.drop_of_length_le (by omega)]
theorem cut_mid (ws : List Int) : cutI ws (some 1) (some (-1)) = (ws.drop 1).dropLast := by
  cases ws with
  | nil => rfl
  | cons a r =>
    unfold cutI
    rw [sIx_pos (i := 1) (by decide), sIx_neg (i := -1) (by decide)]
    have e1 : min (1 : Int).toNat (a :: r).length = 1 := by simp
    have e2 : (-1 + ((a :: r).length : Int)).toNat = r.length := by rw [List.length_cons]; omega
    rw [e1, e2, List.drop_succ_cons, List.drop_zero, List.dropLast_eq_take]
theorem cut_two {ws : List Int} {i j : Int} (h : 0 ≤ i) (h2 : 0 ≤ j) : cutI ws (some i) (some j) = (ws.drop i.toNat).take (j.toNat - i.toNat) := by
  unfold cutI
  rw [sIx_pos h, sIx_pos h2]
  generalize i.toNat = a
  generalize j.toNat = b
  apply List.ext_getElem?
  intro k
  simp only [List.getElem?_take, List.getElem?_drop]
  by_cases q : a + k < ws.length
  · rw [Nat.min_eq_left (by omega : a ≤ ws.length)]
    by_cases z : k < b - a
    · rw [if_pos z, if_pos (by omega)]
    · rw [if_neg z, if_neg (by omega)]
  · have e1 : ws[a + k]? = none := List.getElem?_eq_none (by omega)
    have e2 : ws[min a ws.length + k]? = none ∨ ¬ k < min b ws.length - min a ws.length := by
      by_cases z : a ≤ ws.length
      · left; rw [Nat.min_eq_left z]; exact e1
      · right; omega
    rw [e1]
    rcases e2 with e2 | e2
    · rw [e2]; simp
    · rw [if_neg e2]; simp
end PY
set_option maxHeartbeats 1000000
/-! LibA: the compiled bodies that many laws share. -/
namespace PY
open PySem L2
def l_is_reduced_1 (call : Str → List PyData → Option O) : Stm :=
  (sIf (tV (eCmp .Eq (eIx (eName 0) (eName 1)) (eNeg (eIx (eName 0) (eBin .Sub (eName 1) (eD (.int 1)))))))
    (sRet (eD (.bool false)))
    sNext)
@[simp] theorem la_is_reduced_1 (call : Str → List PyData → Option O) (e : Env) : l_is_reduced_1 call e = (sIf (tV (eCmp .Eq (eIx (eName 0) (eName 1)) (eNeg (eIx (eName 0) (eBin .Sub (eName 1) (eD (.int 1)))))))
    (sRet (eD (.bool false)))
    sNext) e := Eq.trans rfl rfl
def b_is_reduced (call : Str → List PyData → Option O) : Stm :=
  (sSeq (sFor (.one 1) (iR2 (eD (.int 1)) (eBi "len" [(eName 0)])) (l_is_reduced_1 call))
    (sRet (eD (.bool true))))
theorem ba_is_reduced (call : Str → List PyData → Option O) (e : Env) : b_is_reduced call e = (sSeq (sFor (.one 1) (iR2 (eD (.int 1)) (eBi "len" [(eName 0)])) (l_is_reduced_1 call))
    (sRet (eD (.bool true)))) e := rfl
def l_reduced_1 (call : Str → List PyData → Option O) : Stm :=
  (sIf (tAnd' (tV (eCmp .Gt (eBi "len" [(eName 1)]) (eD (.int 0)))) (tV (eCmp .Eq (eIx (eName 1) (eNeg (eD (.int 1)))) (eNeg (eName 2)))))
    (sPop 1)
    (sAppend 1 (eName 2)))
@[simp] theorem la_reduced_1 (call : Str → List PyData → Option O) (e : Env) : l_reduced_1 call e = (sIf (tAnd' (tV (eCmp .Gt (eBi "len" [(eName 1)]) (eD (.int 0)))) (tV (eCmp .Eq (eIx (eName 1) (eNeg (eD (.int 1)))) (eNeg (eName 2)))))
    (sPop 1)
    (sAppend 1 (eName 2))) e := Eq.trans rfl rfl
def b_reduced (call : Str → List PyData → Option O) : Stm :=
  (sSeq (sSet 1 (eTm (eList [])))
    (sSeq (sFor (.one 2) (iV (eName 0)) (l_reduced_1 call))
    (sRet (eName 1))))
theorem ba_reduced (call : Str → List PyData → Option O) (e : Env) : b_reduced call e = (sSeq (sSet 1 (eTm (eList [])))
    (sSeq (sFor (.one 2) (iV (eName 0)) (l_reduced_1 call))
    (sRet (eName 1)))) e := rfl
def b_is_core (call : Str → List PyData → Option O) : Stm :=
  (sRet (eAnd (eCall (call "is_reduced") [(eName 0)]) (eOr (eCmp .Eq (eBi "len" [(eName 0)]) (eD (.int 0))) (eCmp .NotEq (eIx (eName 0) (eNeg (eD (.int 1)))) (eNeg (eIx (eName 0) (eD (.int 0))))))))
theorem ba_is_core (call : Str → List PyData → Option O) (e : Env) : b_is_core call e = (sRet (eAnd (eCall (call "is_reduced") [(eName 0)]) (eOr (eCmp .Eq (eBi "len" [(eName 0)]) (eD (.int 0))) (eCmp .NotEq (eIx (eName 0) (eNeg (eD (.int 1)))) (eNeg (eIx (eName 0) (eD (.int 0)))))))) e := rfl
def l_front_length_1 (call : Str → List PyData → Option O) : Tst :=
  (tAnd' (tV (eCmp .Lt (eBin .Add (eBin .Mult (eD (.int 2)) (eName 1)) (eD (.int 1))) (eBi "len" [(eName 0)]))) (tV (eCmp .Eq (eIx (eName 0) (eName 1)) (eNeg (eIx (eName 0) (eBin .Sub (eBin .Sub (eBi "len" [(eName 0)]) (eD (.int 1))) (eName 1)))))))
@[simp] theorem la_front_length_1 (call : Str → List PyData → Option O) (e : Env) : l_front_length_1 call e = (tAnd' (tV (eCmp .Lt (eBin .Add (eBin .Mult (eD (.int 2)) (eName 1)) (eD (.int 1))) (eBi "len" [(eName 0)]))) (tV (eCmp .Eq (eIx (eName 0) (eName 1)) (eNeg (eIx (eName 0) (eBin .Sub (eBin .Sub (eBi "len" [(eName 0)]) (eD (.int 1))) (eName 1))))))) e := Eq.trans rfl rfl
def l_front_length_2 (call : Str → List PyData → Option O) : Stm :=
  (sSet 1 (eTm (eBin .Add (eName 1) (eD (.int 1)))))
@[simp] theorem la_front_length_2 (call : Str → List PyData → Option O) (e : Env) : l_front_length_2 call e = (sSet 1 (eTm (eBin .Add (eName 1) (eD (.int 1))))) e := Eq.trans rfl rfl
def b_front_length (call : Str → List PyData → Option O) : Stm :=
  (sSeq (sSet 1 (eTm (eD (.int 0))))
    (sSeq (sWhile (l_front_length_1 call) (l_front_length_2 call))
    (sRet (eName 1))))
theorem ba_front_length (call : Str → List PyData → Option O) (e : Env) : b_front_length call e = (sSeq (sSet 1 (eTm (eD (.int 0))))
    (sSeq (sWhile (l_front_length_1 call) (l_front_length_2 call))
    (sRet (eName 1)))) e := rfl
def b_core_of (call : Str → List PyData → Option O) : Stm :=
  (sSeq (sSet 1 (eTm (eCall (call "reduced") [(eName 0)])))
    (sSeq (sSet 2 (eTm (eCall (call "front_length") [(eName 1)])))
    (sRetT [(eSl (eName 1) none (some (eName 2))), (eSl (eName 1) (some (eName 2)) (some (eBin .Sub (eBi "len" [(eName 1)]) (eName 2))))])))
theorem ba_core_of (call : Str → List PyData → Option O) (e : Env) : b_core_of call e = (sSeq (sSet 1 (eTm (eCall (call "reduced") [(eName 0)])))
    (sSeq (sSet 2 (eTm (eCall (call "front_length") [(eName 1)])))
    (sRetT [(eSl (eName 1) none (some (eName 2))), (eSl (eName 1) (some (eName 2)) (some (eBin .Sub (eBi "len" [(eName 1)]) (eName 2))))]))) e := rfl
def l_f_law_draws_1 (call : Str → List PyData → Option O) : Stm :=
  (sIf (tV (eCmp .Gt (eName 4) (eD (.int 0))))
    (sSeq (sAppend 2 (eBin .Mod (eName 4) (eD (.int 1000003))))
    (sSet 4 (eTm (eBin .FloorDiv (eName 4) (eD (.int 1000003))))))
    sNext)
@[simp] theorem la_f_law_draws_1 (call : Str → List PyData → Option O) (e : Env) : l_f_law_draws_1 call e = (sIf (tV (eCmp .Gt (eName 4) (eD (.int 0))))
    (sSeq (sAppend 2 (eBin .Mod (eName 4) (eD (.int 1000003))))
    (sSet 4 (eTm (eBin .FloorDiv (eName 4) (eD (.int 1000003))))))
    sNext) e := Eq.trans rfl rfl
def l_f_law_draws_2 (call : Str → List PyData → Option O) : Stm :=
  (sSeq (sSet 6 (eTm (eBin .Mod (eBin .Add (eBin .Add (eBin .Add (eBin .Mult (eName 6) (eD (.int 69621))) (eBin .FloorDiv (eName 6) (eD (.int 65536)))) (eBin .Mult (eD (.int 13)) (eName 5))) (eD (.int 5))) (eD (.int 2147483629)))))
    (sAppend 2 (eBin .Mod (eBin .FloorDiv (eName 6) (eD (.int 8))) (eD (.int 1000003)))))
@[simp] theorem la_f_law_draws_2 (call : Str → List PyData → Option O) (e : Env) : l_f_law_draws_2 call e = (sSeq (sSet 6 (eTm (eBin .Mod (eBin .Add (eBin .Add (eBin .Add (eBin .Mult (eName 6) (eD (.int 69621))) (eBin .FloorDiv (eName 6) (eD (.int 65536)))) (eBin .Mult (eD (.int 13)) (eName 5))) (eD (.int 5))) (eD (.int 2147483629)))))
    (sAppend 2 (eBin .Mod (eBin .FloorDiv (eName 6) (eD (.int 8))) (eD (.int 1000003))))) e := Eq.trans rfl rfl
def l_f_law_draws_3 (call : Str → List PyData → Option O) : Stm :=
  (sSeq (sSet 4 (eTm (eBi "abs" [(eBi "int" [(eName 3)])])))
    (sIf (tV (eCmp .GtE (eName 4) (eBin .Pow (eD (.int 10)) (eD (.int 18)))))
    (sFor (.one 5) (iR1 (eD (.int 60))) (l_f_law_draws_1 call))
    (sSeq (sSet 6 (eTm (eBin .Mod (eBin .Add (eBin .Add (eBin .Mult (eName 4) (eD (.int 48271))) (eBin .Mult (eD (.int 7)) (eBi "len" [(eName 2)]))) (eD (.int 11))) (eD (.int 2147483647)))))
    (sFor (.one 5) (iR1 (eD (.int 4))) (l_f_law_draws_2 call)))))
@[simp] theorem la_f_law_draws_3 (call : Str → List PyData → Option O) (e : Env) : l_f_law_draws_3 call e = (sSeq (sSet 4 (eTm (eBi "abs" [(eBi "int" [(eName 3)])])))
    (sIf (tV (eCmp .GtE (eName 4) (eBin .Pow (eD (.int 10)) (eD (.int 18)))))
    (sFor (.one 5) (iR1 (eD (.int 60))) (l_f_law_draws_1 call))
    (sSeq (sSet 6 (eTm (eBin .Mod (eBin .Add (eBin .Add (eBin .Mult (eName 4) (eD (.int 48271))) (eBin .Mult (eD (.int 7)) (eBi "len" [(eName 2)]))) (eD (.int 11))) (eD (.int 2147483647)))))
    (sFor (.one 5) (iR1 (eD (.int 4))) (l_f_law_draws_2 call))))) e := Eq.trans rfl rfl
def l_f_law_draws_4 (call : Str → List PyData → Option O) : Stm :=
  (sIf (tV (eCmp .Lt (eBi "len" [(eName 2)]) (eName 1)))
    (sSeq (sSet 7 (eTm (eD (.int 0))))
    (sSeq (sIf (tV (eCmp .Gt (eBi "len" [(eName 2)]) (eD (.int 0))))
    (sSet 7 (eTm (eIx (eName 2) (eBin .Mod (eName 5) (eBi "len" [(eName 2)])))))
    sNext)
    (sAppend 2 (eBin .Mod (eBin .Add (eBin .Add (eBin .Mult (eName 7) (eD (.int 16807))) (eBin .Mult (eD (.int 31)) (eBi "len" [(eName 2)]))) (eD (.int 17))) (eD (.int 1000003))))))
    sNext)
@[simp] theorem la_f_law_draws_4 (call : Str → List PyData → Option O) (e : Env) : l_f_law_draws_4 call e = (sIf (tV (eCmp .Lt (eBi "len" [(eName 2)]) (eName 1)))
    (sSeq (sSet 7 (eTm (eD (.int 0))))
    (sSeq (sIf (tV (eCmp .Gt (eBi "len" [(eName 2)]) (eD (.int 0))))
    (sSet 7 (eTm (eIx (eName 2) (eBin .Mod (eName 5) (eBi "len" [(eName 2)])))))
    sNext)
    (sAppend 2 (eBin .Mod (eBin .Add (eBin .Add (eBin .Mult (eName 7) (eD (.int 16807))) (eBin .Mult (eD (.int 31)) (eBi "len" [(eName 2)]))) (eD (.int 17))) (eD (.int 1000003))))))
    sNext) e := Eq.trans rfl rfl
def b_f_law_draws (call : Str → List PyData → Option O) : Stm :=
  (sSeq (sSet 2 (eTm (eList [])))
    (sSeq (sFor (.one 3) (iV (eSl (eName 0) none (some (eD (.int 63))))) (l_f_law_draws_3 call))
    (sSeq (sFor (.one 5) (iR1 (eName 1)) (l_f_law_draws_4 call))
    (sRet (eSl (eName 2) none (some (eName 1)))))))
theorem ba_f_law_draws (call : Str → List PyData → Option O) (e : Env) : b_f_law_draws call e = (sSeq (sSet 2 (eTm (eList [])))
    (sSeq (sFor (.one 3) (iV (eSl (eName 0) none (some (eD (.int 63))))) (l_f_law_draws_3 call))
    (sSeq (sFor (.one 5) (iR1 (eName 1)) (l_f_law_draws_4 call))
    (sRet (eSl (eName 2) none (some (eName 1))))))) e := rfl
def b_f_law_is_number (call : Str → List PyData → Option O) : Stm :=
  (sRet (eAnd (eIsi "int" (eName 0)) (eNot (eIsi "bool" (eName 0)))))
theorem ba_f_law_is_number (call : Str → List PyData → Option O) (e : Env) : b_f_law_is_number call e = (sRet (eAnd (eIsi "int" (eName 0)) (eNot (eIsi "bool" (eName 0))))) e := rfl
def l_f_law_same_1 (call : Str → List PyData → Option O) : Stm :=
  (sIf (tNot' (tV (eCall (call "_law_same") [(eIx (eName 0) (eName 2)), (eIx (eName 1) (eName 2))])))
    (sRet (eD (.bool false)))
    sNext)
@[simp] theorem la_f_law_same_1 (call : Str → List PyData → Option O) (e : Env) : l_f_law_same_1 call e = (sIf (tNot' (tV (eCall (call "_law_same") [(eIx (eName 0) (eName 2)), (eIx (eName 1) (eName 2))])))
    (sRet (eD (.bool false)))
    sNext) e := Eq.trans rfl rfl
def b_f_law_same (call : Str → List PyData → Option O) : Stm :=
  (sSeq (sIf (tV (eIsi "bool" (eName 1)))
    (sRet (eAnd (eIsi "bool" (eName 0)) (eCmp .Eq (eName 0) (eName 1))))
    sNext)
    (sSeq (sIf (tV (eIsi "int" (eName 1)))
    (sRet (eAnd (eCall (call "_law_is_number") [(eName 0)]) (eCmp .Eq (eName 0) (eName 1))))
    sNext)
    (sSeq (sIf (tV (eIsi "str" (eName 1)))
    (sRet (eAnd (eIsi "str" (eName 0)) (eCmp .Eq (eName 0) (eName 1))))
    sNext)
    (sSeq (sIf (tV (eCmp .Is (eName 1) (eD .none)))
    (sRet (eCmp .Is (eName 0) (eD .none)))
    sNext)
    (sSeq (sIf (tAnd' (tV (eIsi "tuple" (eName 1))) (tNot' (tV (eIsi "tuple" (eName 0)))))
    (sRet (eD (.bool false)))
    sNext)
    (sSeq (sIf (tAnd' (tV (eIsi "list" (eName 1))) (tNot' (tV (eIsi "list" (eName 0)))))
    (sRet (eD (.bool false)))
    sNext)
    (sSeq (sIf (tV (eCmp .NotEq (eBi "len" [(eName 0)]) (eBi "len" [(eName 1)])))
    (sRet (eD (.bool false)))
    sNext)
    (sSeq (sFor (.one 2) (iR1 (eBi "len" [(eName 1)])) (l_f_law_same_1 call))
    (sRet (eD (.bool true)))))))))))
theorem ba_f_law_same (call : Str → List PyData → Option O) (e : Env) : b_f_law_same call e = (sSeq (sIf (tV (eIsi "bool" (eName 1)))
    (sRet (eAnd (eIsi "bool" (eName 0)) (eCmp .Eq (eName 0) (eName 1))))
    sNext)
    (sSeq (sIf (tV (eIsi "int" (eName 1)))
    (sRet (eAnd (eCall (call "_law_is_number") [(eName 0)]) (eCmp .Eq (eName 0) (eName 1))))
    sNext)
    (sSeq (sIf (tV (eIsi "str" (eName 1)))
    (sRet (eAnd (eIsi "str" (eName 0)) (eCmp .Eq (eName 0) (eName 1))))
    sNext)
    (sSeq (sIf (tV (eCmp .Is (eName 1) (eD .none)))
    (sRet (eCmp .Is (eName 0) (eD .none)))
    sNext)
    (sSeq (sIf (tAnd' (tV (eIsi "tuple" (eName 1))) (tNot' (tV (eIsi "tuple" (eName 0)))))
    (sRet (eD (.bool false)))
    sNext)
    (sSeq (sIf (tAnd' (tV (eIsi "list" (eName 1))) (tNot' (tV (eIsi "list" (eName 0)))))
    (sRet (eD (.bool false)))
    sNext)
    (sSeq (sIf (tV (eCmp .NotEq (eBi "len" [(eName 0)]) (eBi "len" [(eName 1)])))
    (sRet (eD (.bool false)))
    sNext)
    (sSeq (sFor (.one 2) (iR1 (eBi "len" [(eName 1)])) (l_f_law_same_1 call))
    (sRet (eD (.bool true))))))))))) e := rfl
def l_f_law_is_reduced_1 (call : Str → List PyData → Option O) : Tst :=
  (tV (eCmp .Eq (eIx (eName 0) (eName 1)) (eNeg (eIx (eName 0) (eBin .Sub (eName 1) (eD (.int 1)))))))
@[simp] theorem la_f_law_is_reduced_1 (call : Str → List PyData → Option O) (e : Env) : l_f_law_is_reduced_1 call e = (tV (eCmp .Eq (eIx (eName 0) (eName 1)) (eNeg (eIx (eName 0) (eBin .Sub (eName 1) (eD (.int 1))))))) e := Eq.trans rfl rfl
def l_f_law_is_reduced_2 (call : Str → List PyData → Option O) : Ev :=
  (eName 1)
@[simp] theorem la_f_law_is_reduced_2 (call : Str → List PyData → Option O) (e : Env) : l_f_law_is_reduced_2 call e = (eName 1) e := Eq.trans rfl rfl
def b_f_law_is_reduced (call : Str → List PyData → Option O) : Stm :=
  (sRet (eCmp .Eq (eLC [1] (.one 1) (iR2 (eD (.int 1)) (eBi "len" [(eName 0)])) (l_f_law_is_reduced_1 call) (l_f_law_is_reduced_2 call)) (eList [])))
theorem ba_f_law_is_reduced (call : Str → List PyData → Option O) (e : Env) : b_f_law_is_reduced call e = (sRet (eCmp .Eq (eLC [1] (.one 1) (iR2 (eD (.int 1)) (eBi "len" [(eName 0)])) (l_f_law_is_reduced_1 call) (l_f_law_is_reduced_2 call)) (eList []))) e := rfl
def l_f_law_word_1 (call : Str → List PyData → Option O) : Stm :=
  (sSeq (sSet 6 (eTm (eBin .Add (eBin .FloorDiv (eIx (eName 0) (eBin .Mod (eBin .Add (eName 1) (eName 5)) (eBi "len" [(eName 0)]))) (eBin .Add (eD (.int 1)) (eBin .FloorDiv (eName 5) (eBi "len" [(eName 0)])))) (eBin .Mult (eD (.int 977)) (eName 5)))))
    (sAppend 4 (eBin .Mult (eBin .Add (eD (.int 1)) (eBin .Mod (eName 6) (eName 2))) (eBin .Sub (eD (.int 1)) (eBin .Mult (eD (.int 2)) (eBin .Mod (eBin .FloorDiv (eName 6) (eD (.int 8))) (eD (.int 2))))))))
@[simp] theorem la_f_law_word_1 (call : Str → List PyData → Option O) (e : Env) : l_f_law_word_1 call e = (sSeq (sSet 6 (eTm (eBin .Add (eBin .FloorDiv (eIx (eName 0) (eBin .Mod (eBin .Add (eName 1) (eName 5)) (eBi "len" [(eName 0)]))) (eBin .Add (eD (.int 1)) (eBin .FloorDiv (eName 5) (eBi "len" [(eName 0)])))) (eBin .Mult (eD (.int 977)) (eName 5)))))
    (sAppend 4 (eBin .Mult (eBin .Add (eD (.int 1)) (eBin .Mod (eName 6) (eName 2))) (eBin .Sub (eD (.int 1)) (eBin .Mult (eD (.int 2)) (eBin .Mod (eBin .FloorDiv (eName 6) (eD (.int 8))) (eD (.int 2)))))))) e := Eq.trans rfl rfl
def b_f_law_word (call : Str → List PyData → Option O) : Stm :=
  (sSeq (sSet 4 (eTm (eList [])))
    (sSeq (sFor (.one 5) (iR1 (eName 3)) (l_f_law_word_1 call))
    (sRet (eName 4))))
theorem ba_f_law_word (call : Str → List PyData → Option O) (e : Env) : b_f_law_word call e = (sSeq (sSet 4 (eTm (eList [])))
    (sSeq (sFor (.one 5) (iR1 (eName 3)) (l_f_law_word_1 call))
    (sRet (eName 4)))) e := rfl
def l_f_law_core_1 (call : Str → List PyData → Option O) : Tst :=
  (tAnd' (tV (eCmp .Gt (eBi "len" [(eName 1)]) (eD (.int 1)))) (tV (eCmp .Eq (eIx (eName 1) (eD (.int 0))) (eNeg (eIx (eName 1) (eNeg (eD (.int 1))))))))
@[simp] theorem la_f_law_core_1 (call : Str → List PyData → Option O) (e : Env) : l_f_law_core_1 call e = (tAnd' (tV (eCmp .Gt (eBi "len" [(eName 1)]) (eD (.int 1)))) (tV (eCmp .Eq (eIx (eName 1) (eD (.int 0))) (eNeg (eIx (eName 1) (eNeg (eD (.int 1)))))))) e := Eq.trans rfl rfl
def l_f_law_core_2 (call : Str → List PyData → Option O) : Stm :=
  (sSeq (sAppend 2 (eIx (eName 1) (eD (.int 0))))
    (sSet 1 (eTm (eSl (eName 1) (some (eD (.int 1))) (some (eNeg (eD (.int 1))))))))
@[simp] theorem la_f_law_core_2 (call : Str → List PyData → Option O) (e : Env) : l_f_law_core_2 call e = (sSeq (sAppend 2 (eIx (eName 1) (eD (.int 0))))
    (sSet 1 (eTm (eSl (eName 1) (some (eD (.int 1))) (some (eNeg (eD (.int 1)))))))) e := Eq.trans rfl rfl
def b_f_law_core (call : Str → List PyData → Option O) : Stm :=
  (sSeq (sSet 1 (eTm (eCall (call "_law_reduced") [(eName 0)])))
    (sSeq (sSet 2 (eTm (eList [])))
    (sSeq (sWhile (l_f_law_core_1 call) (l_f_law_core_2 call))
    (sRetT [(eName 2), (eName 1)]))))
theorem ba_f_law_core (call : Str → List PyData → Option O) (e : Env) : b_f_law_core call e = (sSeq (sSet 1 (eTm (eCall (call "_law_reduced") [(eName 0)])))
    (sSeq (sSet 2 (eTm (eList [])))
    (sSeq (sWhile (l_f_law_core_1 call) (l_f_law_core_2 call))
    (sRetT [(eName 2), (eName 1)])))) e := rfl
def l_f_law_back_1 (call : Str → List PyData → Option O) : Ev :=
  (eNeg (eName 1))
@[simp] theorem la_f_law_back_1 (call : Str → List PyData → Option O) (e : Env) : l_f_law_back_1 call e = (eNeg (eName 1)) e := Eq.trans rfl rfl
def b_f_law_back (call : Str → List PyData → Option O) : Stm :=
  (sRet (eLC [1] (.one 1) (iV (eRev (eName 0))) tTrue (l_f_law_back_1 call)))
theorem ba_f_law_back (call : Str → List PyData → Option O) (e : Env) : b_f_law_back call e = (sRet (eLC [1] (.one 1) (iV (eRev (eName 0))) tTrue (l_f_law_back_1 call))) e := Eq.trans rfl rfl
def l_f_law_reduced_1 (call : Str → List PyData → Option O) : Stm :=
  (sIf (tAnd' (tV (eCmp .NotEq (eName 1) (eList []))) (tV (eCmp .Eq (eIx (eName 1) (eNeg (eD (.int 1)))) (eNeg (eName 2)))))
    (sPop 1)
    (sAppend 1 (eName 2)))
@[simp] theorem la_f_law_reduced_1 (call : Str → List PyData → Option O) (e : Env) : l_f_law_reduced_1 call e = (sIf (tAnd' (tV (eCmp .NotEq (eName 1) (eList []))) (tV (eCmp .Eq (eIx (eName 1) (eNeg (eD (.int 1)))) (eNeg (eName 2)))))
    (sPop 1)
    (sAppend 1 (eName 2))) e := Eq.trans rfl rfl
def b_f_law_reduced (call : Str → List PyData → Option O) : Stm :=
  (sSeq (sSet 1 (eTm (eList [])))
    (sSeq (sFor (.one 2) (iV (eName 0)) (l_f_law_reduced_1 call))
    (sRet (eName 1))))
theorem ba_f_law_reduced (call : Str → List PyData → Option O) (e : Env) : b_f_law_reduced call e = (sSeq (sSet 1 (eTm (eList [])))
    (sSeq (sFor (.one 2) (iV (eName 0)) (l_f_law_reduced_1 call))
    (sRet (eName 1)))) e := rfl
def b_f_law_some_word (call : Str → List PyData → Option O) : Stm :=
  (sSeq (sSet 3 (eTm (eBin .Mod (eIx (eName 0) (eName 1)) (eD (.int 8)))))
    (sSeq (sSet 4 (eTm (eBin .Mod (eIx (eName 0) (eBin .Add (eName 1) (eD (.int 1)))) (eD (.int 13)))))
    (sSeq (sSet 5 (eTm (eCall (call "_law_word") [(eName 0), (eBin .Add (eName 1) (eD (.int 2))), (eName 2), (eName 4)])))
    (sSeq (sIf (tV (eCmp .Eq (eName 3) (eD (.int 1))))
    (sSet 5 (eTm (eCall (call "_law_reduced") [(eName 5)])))
    sNext)
    (sSeq (sIf (tOr' (tV (eCmp .Eq (eName 3) (eD (.int 2)))) (tV (eCmp .Eq (eName 3) (eD (.int 3)))))
    (sSeq (sSet 6 (eTm (eBin .Mod (eIx (eName 0) (eBin .Add (eName 1) (eD (.int 2)))) (eBin .Add (eName 4) (eD (.int 1))))))
    (sSeq (sSet 7 (eTm (eCall (call "_law_word") [(eName 0), (eBin .Add (eName 1) (eD (.int 7))), (eName 2), (eBin .Add (eD (.int 1)) (eBin .Mod (eIx (eName 0) (eBin .Add (eName 1) (eD (.int 3)))) (eD (.int 3))))])))
    (sSet 5 (eTm (eBin .Add (eBin .Add (eBin .Add (eSl (eName 5) none (some (eName 6))) (eName 7)) (eCall (call "_law_back") [(eName 7)])) (eSl (eName 5) (some (eName 6)) none))))))
    sNext)
    (sSeq (sIf (tV (eCmp .Eq (eName 3) (eD (.int 4))))
    (sSeq (sSet 8 (eTm (eCall (call "_law_word") [(eName 0), (eBin .Add (eName 1) (eD (.int 5))), (eName 2), (eBin .Add (eD (.int 1)) (eBin .Mod (eIx (eName 0) (eBin .Add (eName 1) (eD (.int 3)))) (eD (.int 4))))])))
    (sSet 5 (eTm (eBin .Add (eBin .Add (eName 8) (eSl (eName 5) none (some (eD (.int 6))))) (eCall (call "_law_back") [(eName 8)])))))
    sNext)
    (sSeq (sIf (tV (eCmp .Eq (eName 3) (eD (.int 5))))
    (sSet 5 (eTm (eBin .Mult (eSl (eName 5) none (some (eD (.int 4)))) (eBin .Add (eD (.int 1)) (eBin .Mod (eIx (eName 0) (eBin .Add (eName 1) (eD (.int 3)))) (eD (.int 5)))))))
    sNext)
    (sSeq (sIf (tV (eCmp .Eq (eName 3) (eD (.int 6))))
    (sSeq (sSet 8 (eTm (eCall (call "_law_word") [(eName 0), (eBin .Add (eName 1) (eD (.int 5))), (eName 2), (eBin .Mod (eIx (eName 0) (eBin .Add (eName 1) (eD (.int 3)))) (eD (.int 4)))])))
    (sSet 5 (eTm (eBin .Add (eBin .Add (eName 8) (eBin .Mult (eSl (eName 5) none (some (eD (.int 3)))) (eBin .Add (eD (.int 1)) (eBin .Mod (eIx (eName 0) (eBin .Add (eName 1) (eD (.int 4)))) (eD (.int 4)))))) (eCall (call "_law_back") [(eName 8)])))))
    sNext)
    (sSeq (sIf (tV (eCmp .Eq (eName 3) (eD (.int 7))))
    (sSeq (sSet 9 (eTm (eSl (eName 5) none (some (eD (.int 4))))))
    (sSeq (sSet 10 (eTm (eCall (call "_law_word") [(eName 0), (eBin .Add (eName 1) (eD (.int 4))), (eName 2), (eBin .Mod (eIx (eName 0) (eBin .Add (eName 1) (eD (.int 3)))) (eD (.int 5)))])))
    (sSet 5 (eTm (eBin .Add (eBin .Add (eBin .Add (eName 9) (eName 10)) (eCall (call "_law_back") [(eName 9)])) (eCall (call "_law_back") [(eName 10)]))))))
    sNext)
    (sRet (eName 5)))))))))))
theorem ba_f_law_some_word (call : Str → List PyData → Option O) (e : Env) : b_f_law_some_word call e = (sSeq (sSet 3 (eTm (eBin .Mod (eIx (eName 0) (eName 1)) (eD (.int 8)))))
    (sSeq (sSet 4 (eTm (eBin .Mod (eIx (eName 0) (eBin .Add (eName 1) (eD (.int 1)))) (eD (.int 13)))))
    (sSeq (sSet 5 (eTm (eCall (call "_law_word") [(eName 0), (eBin .Add (eName 1) (eD (.int 2))), (eName 2), (eName 4)])))
    (sSeq (sIf (tV (eCmp .Eq (eName 3) (eD (.int 1))))
    (sSet 5 (eTm (eCall (call "_law_reduced") [(eName 5)])))
    sNext)
    (sSeq (sIf (tOr' (tV (eCmp .Eq (eName 3) (eD (.int 2)))) (tV (eCmp .Eq (eName 3) (eD (.int 3)))))
    (sSeq (sSet 6 (eTm (eBin .Mod (eIx (eName 0) (eBin .Add (eName 1) (eD (.int 2)))) (eBin .Add (eName 4) (eD (.int 1))))))
    (sSeq (sSet 7 (eTm (eCall (call "_law_word") [(eName 0), (eBin .Add (eName 1) (eD (.int 7))), (eName 2), (eBin .Add (eD (.int 1)) (eBin .Mod (eIx (eName 0) (eBin .Add (eName 1) (eD (.int 3)))) (eD (.int 3))))])))
    (sSet 5 (eTm (eBin .Add (eBin .Add (eBin .Add (eSl (eName 5) none (some (eName 6))) (eName 7)) (eCall (call "_law_back") [(eName 7)])) (eSl (eName 5) (some (eName 6)) none))))))
    sNext)
    (sSeq (sIf (tV (eCmp .Eq (eName 3) (eD (.int 4))))
    (sSeq (sSet 8 (eTm (eCall (call "_law_word") [(eName 0), (eBin .Add (eName 1) (eD (.int 5))), (eName 2), (eBin .Add (eD (.int 1)) (eBin .Mod (eIx (eName 0) (eBin .Add (eName 1) (eD (.int 3)))) (eD (.int 4))))])))
    (sSet 5 (eTm (eBin .Add (eBin .Add (eName 8) (eSl (eName 5) none (some (eD (.int 6))))) (eCall (call "_law_back") [(eName 8)])))))
    sNext)
    (sSeq (sIf (tV (eCmp .Eq (eName 3) (eD (.int 5))))
    (sSet 5 (eTm (eBin .Mult (eSl (eName 5) none (some (eD (.int 4)))) (eBin .Add (eD (.int 1)) (eBin .Mod (eIx (eName 0) (eBin .Add (eName 1) (eD (.int 3)))) (eD (.int 5)))))))
    sNext)
    (sSeq (sIf (tV (eCmp .Eq (eName 3) (eD (.int 6))))
    (sSeq (sSet 8 (eTm (eCall (call "_law_word") [(eName 0), (eBin .Add (eName 1) (eD (.int 5))), (eName 2), (eBin .Mod (eIx (eName 0) (eBin .Add (eName 1) (eD (.int 3)))) (eD (.int 4)))])))
    (sSet 5 (eTm (eBin .Add (eBin .Add (eName 8) (eBin .Mult (eSl (eName 5) none (some (eD (.int 3)))) (eBin .Add (eD (.int 1)) (eBin .Mod (eIx (eName 0) (eBin .Add (eName 1) (eD (.int 4)))) (eD (.int 4)))))) (eCall (call "_law_back") [(eName 8)])))))
    sNext)
    (sSeq (sIf (tV (eCmp .Eq (eName 3) (eD (.int 7))))
    (sSeq (sSet 9 (eTm (eSl (eName 5) none (some (eD (.int 4))))))
    (sSeq (sSet 10 (eTm (eCall (call "_law_word") [(eName 0), (eBin .Add (eName 1) (eD (.int 4))), (eName 2), (eBin .Mod (eIx (eName 0) (eBin .Add (eName 1) (eD (.int 3)))) (eD (.int 5)))])))
    (sSet 5 (eTm (eBin .Add (eBin .Add (eBin .Add (eName 9) (eName 10)) (eCall (call "_law_back") [(eName 9)])) (eCall (call "_law_back") [(eName 10)]))))))
    sNext)
    (sRet (eName 5))))))))))) e := rfl
def b_product (call : Str → List PyData → Option O) : Stm :=
  (sRet (eCall (call "reduced") [(eBin .Add (eName 0) (eName 1))]))
theorem ba_product (call : Str → List PyData → Option O) (e : Env) : b_product call e = (sRet (eCall (call "reduced") [(eBin .Add (eName 0) (eName 1))])) e := rfl
def l_turned_round_1 (call : Str → List PyData → Option O) : Ev :=
  (eNeg (eName 1))
@[simp] theorem la_turned_round_1 (call : Str → List PyData → Option O) (e : Env) : l_turned_round_1 call e = (eNeg (eName 1)) e := Eq.trans rfl rfl
def b_turned_round (call : Str → List PyData → Option O) : Stm :=
  (sRet (eLC [1] (.one 1) (iRv (eName 0)) tTrue (l_turned_round_1 call)))
theorem ba_turned_round (call : Str → List PyData → Option O) (e : Env) : b_turned_round call e = (sRet (eLC [1] (.one 1) (iRv (eName 0)) tTrue (l_turned_round_1 call))) e := Eq.trans rfl rfl
def b_opposite (call : Str → List PyData → Option O) : Stm :=
  (sRet (eCall (call "reduced") [(eCall (call "turned_round") [(eName 0)])]))
theorem ba_opposite (call : Str → List PyData → Option O) (e : Env) : b_opposite call e = (sRet (eCall (call "reduced") [(eCall (call "turned_round") [(eName 0)])])) e := rfl
def b_put_back (call : Str → List PyData → Option O) : Stm :=
  (sRet (eBin .Add (eSl (eName 0) (some (eName 1)) none) (eSl (eName 0) none (some (eName 1)))))
theorem ba_put_back (call : Str → List PyData → Option O) (e : Env) : b_put_back call e = (sRet (eBin .Add (eSl (eName 0) (some (eName 1)) none) (eSl (eName 0) none (some (eName 1))))) e := rfl
def l_f_law_fresh_1 (call : Str → List PyData → Option O) : Ev :=
  (eCall (call "_law_fresh") [(eName 1)])
@[simp] theorem la_f_law_fresh_1 (call : Str → List PyData → Option O) (e : Env) : l_f_law_fresh_1 call e = (eCall (call "_law_fresh") [(eName 1)]) e := Eq.trans rfl rfl
def l_f_law_fresh_2 (call : Str → List PyData → Option O) : Ev :=
  (eCall (call "_law_fresh") [(eName 1)])
@[simp] theorem la_f_law_fresh_2 (call : Str → List PyData → Option O) (e : Env) : l_f_law_fresh_2 call e = (eCall (call "_law_fresh") [(eName 1)]) e := Eq.trans rfl rfl
def b_f_law_fresh (call : Str → List PyData → Option O) : Stm :=
  (sSeq (sIf (tV (eIsi "list" (eName 0)))
    (sRet (eLC [1] (.one 1) (iV (eName 0)) tTrue (l_f_law_fresh_1 call)))
    sNext)
    (sSeq (sIf (tV (eIsi "tuple" (eName 0)))
    (sRet (eBiS "tuple" (eLC [1] (.one 1) (iV (eName 0)) tTrue (l_f_law_fresh_2 call))))
    sNext)
    (sRet (eName 0))))
theorem ba_f_law_fresh (call : Str → List PyData → Option O) (e : Env) : b_f_law_fresh call e = (sSeq (sIf (tV (eIsi "list" (eName 0)))
    (sRet (eLC [1] (.one 1) (iV (eName 0)) tTrue (l_f_law_fresh_1 call)))
    sNext)
    (sSeq (sIf (tV (eIsi "tuple" (eName 0)))
    (sRet (eBiS "tuple" (eLC [1] (.one 1) (iV (eName 0)) tTrue (l_f_law_fresh_2 call))))
    sNext)
    (sRet (eName 0)))) e := rfl
def l_f_law_is_word_1 (call : Str → List PyData → Option O) : Stm :=
  (sIf (tOr' (tNot' (tV (eCall (call "_law_is_number") [(eName 2)]))) (tOr' (tV (eCmp .Eq (eName 2) (eD (.int 0)))) (tOr' (tV (eCmp .Gt (eName 2) (eName 0))) (tV (eCmp .Lt (eName 2) (eNeg (eName 0)))))))
    (sRet (eD (.bool false)))
    sNext)
@[simp] theorem la_f_law_is_word_1 (call : Str → List PyData → Option O) (e : Env) : l_f_law_is_word_1 call e = (sIf (tOr' (tNot' (tV (eCall (call "_law_is_number") [(eName 2)]))) (tOr' (tV (eCmp .Eq (eName 2) (eD (.int 0)))) (tOr' (tV (eCmp .Gt (eName 2) (eName 0))) (tV (eCmp .Lt (eName 2) (eNeg (eName 0)))))))
    (sRet (eD (.bool false)))
    sNext) e := Eq.trans rfl rfl
def b_f_law_is_word (call : Str → List PyData → Option O) : Stm :=
  (sSeq (sIf (tNot' (tV (eIsi "list" (eName 1))))
    (sRet (eD (.bool false)))
    sNext)
    (sSeq (sFor (.one 2) (iV (eName 1)) (l_f_law_is_word_1 call))
    (sRet (eD (.bool true)))))
theorem ba_f_law_is_word (call : Str → List PyData → Option O) (e : Env) : b_f_law_is_word call e = (sSeq (sIf (tNot' (tV (eIsi "list" (eName 1))))
    (sRet (eD (.bool false)))
    sNext)
    (sSeq (sFor (.one 2) (iV (eName 1)) (l_f_law_is_word_1 call))
    (sRet (eD (.bool true))))) e := rfl
def l_f_law_turns_1 (call : Str → List PyData → Option O) : Ev :=
  (eBin .Add (eSl (eName 0) (some (eName 1)) none) (eSl (eName 0) none (some (eName 1))))
@[simp] theorem la_f_law_turns_1 (call : Str → List PyData → Option O) (e : Env) : l_f_law_turns_1 call e = (eBin .Add (eSl (eName 0) (some (eName 1)) none) (eSl (eName 0) none (some (eName 1)))) e := Eq.trans rfl rfl
def b_f_law_turns (call : Str → List PyData → Option O) : Stm :=
  (sRet (eLC [1] (.one 1) (iR1 (eBi "max" [(eD (.int 1)), (eBi "len" [(eName 0)])])) tTrue (l_f_law_turns_1 call)))
theorem ba_f_law_turns (call : Str → List PyData → Option O) (e : Env) : b_f_law_turns call e = (sRet (eLC [1] (.one 1) (iR1 (eBi "max" [(eD (.int 1)), (eBi "len" [(eName 0)])])) tTrue (l_f_law_turns_1 call))) e := Eq.trans rfl rfl
def b_are_equal (call : Str → List PyData → Option O) : Stm :=
  (sRet (eCmp .Eq (eCall (call "reduced") [(eName 0)]) (eCall (call "reduced") [(eName 1)])))
theorem ba_are_equal (call : Str → List PyData → Option O) (e : Env) : b_are_equal call e = (sRet (eCmp .Eq (eCall (call "reduced") [(eName 0)]) (eCall (call "reduced") [(eName 1)]))) e := rfl
end PY
set_option maxHeartbeats 2000000
/-! LibB: what the shared bodies compute: words. -/
namespace PY
open PySem L2
abbrev Cal := Str → List PyData → Option O

theorem rangeD_zero (lo : Int) : rangeD lo 0 = [] := rfl
theorem rangeD_succ (lo : Int) (n : Nat) : rangeD lo (n + 1) = .int lo :: rangeD (lo + 1) n := by
  unfold rangeD
  rw [List.range_succ_eq_map, List.map_cons, List.map_map]
  refine congr (congrArg _ (by simp)) (List.map_congr_left fun i _ => ?_)
  show PyData.int (lo + ((i + 1 : Nat) : Int)) = _
  congr 1
  omega
theorem atI_nat1 {α : Type} (xs : List α) (j : Nat) : atI xs ((j : Int) + 1) = xs[j + 1]? := by
  have := atI_nat' xs (j + 1)
  rwa [show ((j + 1 : Nat) : Int) = (j : Int) + 1 by omega] at this
theorem atI_zero {α : Type} (xs : List α) : atI xs 0 = xs[0]? := atI_nat' xs 0

/-! ### reduced words -/
def put (acc : List Int) (n : Int) : List Int := if acc.getLast? = some (-n) then acc.dropLast else acc ++ [n]
def red (ws : List Int) : List Int := ws.foldl put []
theorem put_len (acc : List Int) (n : Int) : (put acc n).length ≤ acc.length + 1 := by
  unfold put; split
  · rw [List.length_dropLast]; omega
  · simp
theorem foldl_put_len : ∀ (ws acc : List Int), (ws.foldl put acc).length ≤ acc.length + ws.length
  | [], acc => by simp
  | w :: ws, acc => by
    have h1 := foldl_put_len ws (put acc w)
    have h2 := put_len acc w
    simp only [List.foldl_cons, List.length_cons]
    omega
theorem red_len (ws : List Int) : (red ws).length ≤ ws.length := by
  have := foldl_put_len ws []
  simpa [red] using this
theorem pos_of_last {acc : List Int} {z : Int} (h : acc.getLast? = some z) : 0 < acc.length ∧ acc ≠ [] := by
  cases acc with
  | nil => cases h
  | cons _ _ => simp
section
variable (call : Cal)
theorem red_loop (W : PyData) : ∀ (ws acc : List Int) (y : Option O), acc.length + ws.length < 1000000 → ∃ y', forGo (.one 2) (l_reduced_1 call) (dI ws) [some (.frz W), some (ow acc), y] = some (.next [some (.frz W), some (ow (ws.foldl put acc)), y'])
  | [], acc, y, h => ⟨y, rfl⟩
  | w :: ws, acc, y, h => by
    have hz : acc.length < sizeLine := line_lt (by omega)
    rw [dI_cons, List.foldl_cons, forGo_cons]
    cases hl : acc.getLast? with
    | none =>
      rw [List.getLast?_eq_none_iff] at hl
      subst hl
      have := red_loop W ws [w] (some (.frz (.int w))) (by simp at h ⊢; omega)
      simpa [put] using this
    | some z =>
      obtain ⟨hp, hne⟩ := pos_of_last hl
      by_cases hq : z = -w
      · have := red_loop W ws acc.dropLast (some (.frz (.int w))) (by simp at h ⊢; omega)
        simpa [put, hl, atI_neg, hp, hq, hne] using this
      · have := red_loop W ws (acc ++ [w]) (some (.frz (.int w))) (by simp at h ⊢; omega)
        simpa [put, hl, atI_neg, hp, hq, hz] using this
theorem R_reduced (ws : List Int) (h : ws.length < 1000000) : outO (b_reduced call [some (.frz (L ws)), none, none]) = some (ow (red ws)) := by
  obtain ⟨y', e⟩ := red_loop call (L ws) ws [] none (by simpa using h)
  rw [ba_reduced]
  simp [← mI_nil, e, red]
theorem red_loop2 (W : PyData) : ∀ (ws acc : List Int) (y : Option O), acc.length + ws.length < 1000000 → ∃ y', forGo (.one 2) (l_f_law_reduced_1 call) (dI ws) [some (.frz W), some (ow acc), y] = some (.next [some (.frz W), some (ow (ws.foldl put acc)), y'])
  | [], acc, y, h => ⟨y, rfl⟩
  | w :: ws, acc, y, h => by
    have hz : acc.length < sizeLine := line_lt (by omega)
    rw [dI_cons, List.foldl_cons, forGo_cons]
    cases hl : acc.getLast? with
    | none =>
      rw [List.getLast?_eq_none_iff] at hl
      subst hl
      have := red_loop2 W ws [w] (some (.frz (.int w))) (by simp at h ⊢; omega)
      simpa [put] using this
    | some z =>
      obtain ⟨hp, hne⟩ := pos_of_last hl
      by_cases hq : z = -w
      · have := red_loop2 W ws acc.dropLast (some (.frz (.int w))) (by simp at h ⊢; omega)
        simpa [put, hl, atI_neg, hp, hq, hne] using this
      · have := red_loop2 W ws (acc ++ [w]) (some (.frz (.int w))) (by simp at h ⊢; omega)
        simpa [put, hl, atI_neg, hp, hq, hz, hne] using this
theorem R_law_reduced (ws : List Int) (h : ws.length < 1000000) : outO (b_f_law_reduced call [some (.frz (L ws)), none, none]) = some (ow (red ws)) := by
  obtain ⟨y', e⟩ := red_loop2 call (L ws) ws [] none (by simpa using h)
  rw [ba_f_law_reduced]
  simp [← mI_nil, e, red]
/-- no number beside its opposite -/
def isRed : List Int → Bool
  | a :: b :: r => decide (b ≠ -a) && isRed (b :: r)
  | _ => true
theorem isRed_drop {ws : List Int} {k : Nat} {a b : Int} (ha : ws[k]? = some a) (hb : ws[k + 1]? = some b) : isRed (ws.drop k) = (decide (b ≠ -a) && isRed (ws.drop (k + 1))) := by
  obtain ⟨h1, e1⟩ := List.getElem?_eq_some_iff.mp ha
  obtain ⟨h2, e2⟩ := List.getElem?_eq_some_iff.mp hb
  rw [List.drop_eq_getElem_cons h1, List.drop_eq_getElem_cons h2, e1, e2]
  rfl
theorem isRed_loop (ws : List Int) : ∀ (m k : Nat) (y : Option O), k + 1 + m = ws.length → ∃ y', forGo (.one 1) (l_is_reduced_1 call) (rangeD ((k : Int) + 1) m) [some (.frz (L ws)), y] = if isRed (ws.drop k) then some (.next [some (.frz (L ws)), y']) else some (.ret (.frz (.bool false)))
  | 0, k, y, h => by
    refine ⟨y, ?_⟩
    have : ws.drop k = [ws[k]] := by
      rw [List.drop_eq_getElem_cons (by omega), List.drop_eq_nil_of_le (by omega)]
    rw [this]
    rfl
  | m + 1, k, y, h => by
    have ha : ws[k]? = some ws[k] := List.getElem?_eq_getElem (by omega)
    have hb : ws[k + 1]? = some ws[k + 1] := List.getElem?_eq_getElem (by omega)
    rw [isRed_drop ha hb, rangeD_succ, forGo_cons]
    obtain ⟨y', e⟩ := isRed_loop ws m (k + 1) (some (.frz (.int ((k : Int) + 1)))) (by omega)
    rw [show (((k + 1 : Nat) : Int) + 1) = (k : Int) + 1 + 1 by omega] at e
    have e0 : ((k : Int) + 1 - 1) = (k : Int) := by omega
    by_cases hq : ws[k + 1] = -ws[k]
    · refine ⟨none, ?_⟩
      simp [atI_nat1, atI_nat', e0, ha, hb, hq]
    · refine ⟨y', ?_⟩
      simp [atI_nat1, atI_nat', e0, ha, hb, hq, e]
theorem rangeD_len (lo : Int) (n : Nat) : (rangeD lo n).length = n := by unfold rangeD; simp
theorem R_is_reduced0 : outO (b_is_reduced call [some (.frz (L [])), none]) = some (.frz (.bool (isRed []))) := by
  rw [ba_is_reduced]
  simp [rangeD_zero, forGo_nil, isRed]
theorem R_is_reduced1 (w : Int) (r : List Int) (h : (w :: r).length < 1000000) : outO (b_is_reduced call [some (.frz (L (w :: r))), none]) = some (.frz (.bool (isRed (w :: r)))) := by
  obtain ⟨y', e⟩ := isRed_loop call (w :: r) r.length 0 none (by simp; omega)
  have h1 : Rk ((r.length : Int) + 1) := Rk_of (by omega) (by simp at h; omega)
  simp only [Int.ofNat_zero, Int.zero_add, Int.natCast_zero] at e
  rw [ba_is_reduced]
  simp [h1]
  rw [e]
  cases hr : isRed (w :: r) <;> simp [hr]
theorem R_is_reduced (ws : List Int) (h : ws.length < 1000000) : outO (b_is_reduced call [some (.frz (L ws)), none]) = some (.frz (.bool (isRed ws))) := by
  cases ws with
  | nil => exact R_is_reduced0 call
  | cons w r => exact R_is_reduced1 call w r h
def headOk (ws : List Int) : Bool := decide (ws.length = 0) || !decide (ws.getLast? = ws.head?.map (-·))
def isCore (ws : List Int) : Bool := isRed ws && headOk ws
theorem R_is_core (ws : List Int) (hc : call "is_reduced" [L ws] = some (.frz (.bool (isRed ws)))) :
    outO (b_is_core call [some (.frz (L ws))]) = some (.frz (.bool (isCore ws))) := by
  rw [ba_is_core]
  cases hr : isRed ws with
  | false => simp [hc, isCore, hr]
  | true =>
    cases ws with
    | nil => simp [hc, hr, isCore, headOk]
    | cons a r =>
      obtain ⟨z, hz⟩ : ∃ z, (a :: r).getLast? = some z := ⟨_, List.getLast?_eq_getLast (by simp)⟩
      have h1 : atI (a :: r) 0 = some a := by rw [atI_zero]; rfl
      have h2 : ¬ ((r.length : Int) + 1 = 0) := by omega
      simp [hc, hr, atI_neg, h1, hz, isCore, headOk, h2]
end
/-! ### cores -/
def flc (ws : List Int) (k : Nat) : Bool := decide (2 * k + 1 < ws.length) && decide (ws[k]? = ws[ws.length - 1 - k]?.map (-·))
def flGo (ws : List Int) : Nat → Nat → Nat
  | 0, k => k
  | f + 1, k => if flc ws k then flGo ws f (k + 1) else k
def fl (ws : List Int) : Nat := flGo ws 999999 0
theorem flGo_spec (ws : List Int) : ∀ f k, (∀ j < k, flc ws j = true) → ws.length ≤ f + k → (∀ j < flGo ws f k, flc ws j = true) ∧ flc ws (flGo ws f k) = false
  | 0, k, h, hl => by
    refine ⟨h, ?_⟩
    show flc ws k = false
    unfold flc
    simp; omega
  | f + 1, k, h, hl => by
    show (∀ j < (if flc ws k then flGo ws f (k + 1) else k), flc ws j = true) ∧ flc ws (if flc ws k then flGo ws f (k + 1) else k) = false
    by_cases q : flc ws k = true
    · rw [if_pos q]
      refine flGo_spec ws f (k + 1) (fun j hj => ?_) (by omega)
      by_cases z : j = k
      · rw [z]; exact q
      · exact h j (by omega)
    · rw [if_neg q]
      exact ⟨h, by simpa using q⟩
theorem fl_spec {ws : List Int} (h : ws.length < 900000) : (∀ j < fl ws, flc ws j = true) ∧ flc ws (fl ws) = false := flGo_spec ws 999999 0 (by omega) (by omega)
theorem flc_lt {ws : List Int} {k : Nat} (h : flc ws k = true) : 2 * k + 1 < ws.length := by
  unfold flc at h
  simp at h
  exact h.1
theorem fl_le2 {ws : List Int} (h : ws.length < 900000) : 2 * fl ws ≤ ws.length := by
  by_cases q : fl ws = 0
  · omega
  · have := flc_lt ((fl_spec h).1 (fl ws - 1) (by omega))
    omega
theorem fl_unique {ws : List Int} {k : Nat} (h : ws.length < 900000) (h1 : ∀ j < k, flc ws j = true) (h2 : flc ws k = false) : fl ws = k := by
  obtain ⟨a, b⟩ := fl_spec h
  rcases Nat.lt_trichotomy (fl ws) k with q | q | q
  · rw [h1 _ q] at b; cases b
  · exact q
  · rw [a _ q] at h2; cases h2
section
variable (call : Cal)
theorem fl_loop (ws : List Int) (hw : ws.length < 1000000) : ∀ (f k : Nat), ws.length ≤ f + k → k < 1000000 → whileGo (l_front_length_1 call) (l_front_length_2 call) (f + 1) [some (.frz (L ws)), some (.frz (.int (k : Int)))] = some (.next [some (.frz (L ws)), some (.frz (.int (flGo ws f k : Nat)))])
  | f, k, h, hk => by
    have s2 : Sm 2 := Sm_of (by omega) (by omega)
    rw [whileGo_succ]
    by_cases h1 : 2 * k + 1 < ws.length
    · have h1' : (2 * (k : Int) + 1 < (ws.length : Int)) := by omega
      have ha : ws[k]? = some ws[k] := List.getElem?_eq_getElem (by omega)
      have hb : ws[ws.length - 1 - k]? = some ws[ws.length - 1 - k] := List.getElem?_eq_getElem (by omega)
      have e1 : ((ws.length : Int) - 1 - (k : Int)) = ((ws.length - 1 - k : Nat) : Int) := by omega
      cases f with
      | zero => omega
      | succ f =>
        have ih := fl_loop ws hw f (k + 1) (by omega) (by omega)
        by_cases hq : ws[k] = -ws[ws.length - 1 - k]
        · have : flGo ws (f + 1) k = flGo ws f (k + 1) := by
            show (if flc ws k then flGo ws f (k + 1) else k) = _
            rw [if_pos]
            unfold flc
            rw [ha, hb]
            simp [h1, hq]
          rw [this]
          simp [mul_l s2, h1', atI_nat', e1, ha, hb, hq]
          exact ih
        · have : flGo ws (f + 1) k = k := by
            show (if flc ws k then flGo ws f (k + 1) else k) = _
            rw [if_neg]
            unfold flc
            rw [ha, hb]
            simp [h1, hq]
          rw [this]
          simp [mul_l s2, h1', atI_nat', e1, ha, hb, hq]
    · have h1' : ¬ (2 * (k : Int) + 1 < (ws.length : Int)) := by omega
      have : flGo ws f k = k := by
        cases f with
        | zero => rfl
        | succ f =>
          show (if flc ws k then flGo ws f (k + 1) else k) = _
          rw [if_neg]
          unfold flc
          simp [h1]
      rw [this]
      simp [mul_l s2, h1']
theorem R_front_length (ws : List Int) (hw : ws.length < 900000) : outO (b_front_length call [some (.frz (L ws)), none]) = some (.frz (.int (fl ws : Nat))) := by
  have e : whileGo (l_front_length_1 call) (l_front_length_2 call) 1000000 [some (.frz (L ws)), some (.frz (.int 0))] = some (.next [some (.frz (L ws)), some (.frz (.int (fl ws : Nat)))]) := fl_loop call ws (by omega) 999999 0 (by omega) (by omega)
  rw [ba_front_length]
  simp [sWhile_ap, e]
theorem R_core_of (ws : List Int) (hw : (red ws).length < 900000) (h1 : call "reduced" [L ws] = some (ow (red ws))) (h2 : call "front_length" [L (red ws)] = some (.frz (.int (fl (red ws) : Nat)))) :
    outO (b_core_of call [some (.frz (L ws)), none, none]) = some (.otup [ow ((red ws).take (fl (red ws))), ow (((red ws).drop (fl (red ws))).take ((red ws).length - 2 * fl (red ws)))]) := by
  rw [ba_core_of]
  simp [h1, h2]
  have e0 := fl_le2 hw
  rw [if_pos (line_le (by decide)), cut_to (by omega), cut_two (by omega) (by omega)]
  have e1 : ((fl (red ws) : Nat) : Int).toNat = fl (red ws) := Int.toNat_natCast _
  have e2 : (((red ws).length : Int) - (fl (red ws) : Nat)).toNat = (red ws).length - fl (red ws) := by omega
  rw [e1, e2, show (red ws).length - fl (red ws) - fl (red ws) = (red ws).length - 2 * fl (red ws) by omega]
  rfl
end
end PY
set_option maxHeartbeats 2000000
/-! LibC: what the shared bodies compute: the law's own helpers. -/
namespace PY
open PySem L2
def bck (ws : List Int) : List Int := ws.reverse.map (-·)
@[simp] theorem bck_len (ws : List Int) : (bck ws).length = ws.length := by simp [bck]
section
variable (call : Cal)
theorem back_loop (W : PyData) : ∀ (ws acc : List Int), acc.length + ws.length < 1000000 → lcGo [1] (.one 1) tTrue (l_f_law_back_1 call) (dI ws) [some (.frz W), none] (mI acc) = some (mI (acc ++ ws.map (-·)), [some (.frz W), none])
  | [], acc, h => by simp [dI_nil, lcGo_nil]
  | w :: ws, acc, h => by
    have hz : acc.length < sizeLine := line_lt (by omega)
    have := back_loop W ws (acc ++ [-w]) (by simp at h ⊢; omega)
    rw [dI_cons, lcGo_cons]
    simp [hz, this]
theorem R_law_back (ws : List Int) (h : ws.length < 1000000) : outO (b_f_law_back call [some (.frz (L ws)), none]) = some (ow (bck ws)) := by
  have e := back_loop call (L ws) ws.reverse [] (by simpa using h)
  rw [ba_f_law_back]
  simp [← mI_nil, e, bck]
/-! ### the law's own look at reduced words -/
theorem lawRed_loop (ws : List Int) : ∀ (m k : Nat) (acc : List Int), k + 1 + m = ws.length → ws.length < 900000 → acc.length ≤ k → ∃ out, lcGo [1] (.one 1) (l_f_law_is_reduced_1 call) (l_f_law_is_reduced_2 call) (rangeD ((k : Int) + 1) m) [some (.frz (L ws)), none] (mI acc) = some (mI (acc ++ out), [some (.frz (L ws)), none]) ∧ (decide (out = []) = isRed (ws.drop k))
  | 0, k, acc, h, hw, ha => by
    refine ⟨[], by simp [rangeD_zero, lcGo_nil], ?_⟩
    have : ws.drop k = [ws[k]] := by
      rw [List.drop_eq_getElem_cons (by omega), List.drop_eq_nil_of_le (by omega)]
    rw [this]
    rfl
  | m + 1, k, acc, h, hw, hac => by
    have ha : ws[k]? = some ws[k] := List.getElem?_eq_getElem (by omega)
    have hb : ws[k + 1]? = some ws[k + 1] := List.getElem?_eq_getElem (by omega)
    have hz : acc.length < sizeLine := line_lt (by omega)
    have e0 : ((k : Int) + 1 - 1) = (k : Int) := by omega
    rw [isRed_drop ha hb, rangeD_succ, lcGo_cons]
    by_cases hq : ws[k + 1] = -ws[k]
    · obtain ⟨out, e, e2⟩ := lawRed_loop ws m (k + 1) (acc ++ [(k : Int) + 1]) (by omega) hw (by simp; omega)
      rw [show (((k + 1 : Nat) : Int) + 1) = (k : Int) + 1 + 1 by omega] at e
      refine ⟨((k : Int) + 1) :: out, ?_, by simp [hq]⟩
      simp [atI_nat1, atI_nat', e0, ha, hb, hq, hz, e]
    · obtain ⟨out, e, e2⟩ := lawRed_loop ws m (k + 1) acc (by omega) hw (by omega)
      rw [show (((k + 1 : Nat) : Int) + 1) = (k : Int) + 1 + 1 by omega] at e
      refine ⟨out, ?_, by simp [hq, e2]⟩
      simp [atI_nat1, atI_nat', e0, ha, hb, hq, hz, e]
theorem eqD_00 : eqD (.list []) (.list []) = some true := by
  have := eqD_dI [] []
  simpa [dI] using this
theorem R_law_is_reduced (ws : List Int) (h : ws.length < 900000) : outO (b_f_law_is_reduced call [some (.frz (L ws)), none]) = some (.frz (.bool (isRed ws))) := by
  rw [ba_f_law_is_reduced]
  cases ws with
  | nil => simp [rangeD_zero, lcGo_nil, isRed, eqD_00]
  | cons w r =>
    obtain ⟨out, e, e2⟩ := lawRed_loop call (w :: r) r.length 0 [] (by simp; omega) h (by simp)
    have h1 : Rk ((r.length : Int) + 1) := Rk_of (by omega) (by simp at h; omega)
    simp only [Int.ofNat_zero, Int.zero_add, Int.natCast_zero, List.nil_append, List.drop_zero] at e e2
    rw [mI_nil] at e
    simp [h1]
    rw [e]
    simp [e2]
/-! ### the law's own core -/
def midW (r : List Int) (k : Nat) : List Int := (r.drop k).take (r.length - 2 * k)
theorem midW_len (r : List Int) (k : Nat) : (midW r k).length = r.length - 2 * k := by
  unfold midW
  rw [List.length_take, List.length_drop]
  omega
theorem midW_get {r : List Int} {k j : Nat} (h : j < r.length - 2 * k) : (midW r k)[j]? = r[k + j]? := by
  unfold midW
  rw [List.getElem?_take, if_pos h, List.getElem?_drop]
theorem midW_zero (r : List Int) : midW r 0 = r := by simp [midW]
theorem midW_last {r : List Int} {k : Nat} (h : 2 * k < r.length) : (midW r k).getLast? = r[r.length - 1 - k]? := by
  rw [List.getLast?_eq_getElem?, midW_len, midW_get (by omega)]
  congr 1
  omega
theorem midW_succ {r : List Int} {k : Nat} (h : 2 * k + 1 < r.length) : (midW r k).tail.dropLast = midW r (k + 1) := by
  apply List.ext_getElem?
  intro j
  rw [List.getElem?_dropLast, List.length_tail, midW_len]
  by_cases q : j < r.length - 2 * k - 1 - 1
  · rw [if_pos q, List.getElem?_tail, midW_get (by omega), midW_get (by omega)]
    congr 1
    omega
  · rw [if_neg q, List.getElem?_eq_none (by rw [midW_len]; omega)]
theorem lcore_loop (W : PyData) (r : List Int) (hr : r.length < 900000) : ∀ (f k : Nat), r.length ≤ f + k → k < 900000 → 2 * k ≤ r.length → whileGo (l_f_law_core_1 call) (l_f_law_core_2 call) (f + 1) [some (.frz W), some (ow (midW r k)), some (ow (r.take k))] = some (.next [some (.frz W), some (ow (midW r (flGo r f k))), some (ow (r.take (flGo r f k)))])
  | f, k, h, hk, h2 => by
    rw [whileGo_succ]
    have hl := midW_len r k
    by_cases h1 : 2 * k + 1 < r.length
    · have ha : r[k]? = some r[k] := List.getElem?_eq_getElem (by omega)
      have hb : r[r.length - 1 - k]? = some r[r.length - 1 - k] := List.getElem?_eq_getElem (by omega)
      have e0 : atI (midW r k) 0 = some r[k] := by rw [atI_zero, midW_get (by omega)]; exact ha
      have e1 : atI (midW r k) (-1) = some r[r.length - 1 - k] := by rw [atI_neg, midW_last (by omega)]; exact hb
      have hl' : 1 < ((midW r k).length : Int) := by omega
      have hz : (r.take k).length < sizeLine := line_lt (by simp; omega)
      cases f with
      | zero => omega
      | succ f =>
        have ih := lcore_loop W r hr f (k + 1) (by omega) (by omega) (by omega)
        by_cases hq : r[k] = -r[r.length - 1 - k]
        · have : flGo r (f + 1) k = flGo r f (k + 1) := by
            show (if flc r k then flGo r f (k + 1) else k) = _
            rw [if_pos]
            unfold flc
            rw [ha, hb]
            simp [h1, hq]
          rw [this]
          have et : r.take k ++ [r[k]] = r.take (k + 1) := by rw [List.take_add_one, ha]; rfl
          have ed := midW_succ h1
          rw [hq] at et
          simp [hl', e0, e1, hq, -List.length_take, hz, cut_mid, et, ed]
          exact ih
        · have : flGo r (f + 1) k = k := by
            show (if flc r k then flGo r f (k + 1) else k) = _
            rw [if_neg]
            unfold flc
            rw [ha, hb]
            simp [h1, hq]
          rw [this]
          simp [hl', e0, e1, hq]
    · have hl' : ¬ 1 < ((midW r k).length : Int) := by omega
      have : flGo r f k = k := by
        cases f with
        | zero => rfl
        | succ f =>
          show (if flc r k then flGo r f (k + 1) else k) = _
          rw [if_neg]
          unfold flc
          simp [h1]
      rw [this]
      simp [hl']
theorem R_law_core (ws : List Int) (hw : (red ws).length < 900000) (h1 : call "_law_reduced" [L ws] = some (ow (red ws))) :
    outO (b_f_law_core call [some (.frz (L ws)), none, none]) = some (.otup [ow ((red ws).take (fl (red ws))), ow (midW (red ws) (fl (red ws)))]) := by
  have e : whileGo (l_f_law_core_1 call) (l_f_law_core_2 call) 1000000 [some (.frz (L ws)), some (ow (midW (red ws) 0)), some (ow ((red ws).take 0))] = some (.next [some (.frz (L ws)), some (ow (midW (red ws) (fl (red ws)))), some (ow ((red ws).take (fl (red ws))))]) :=
    lcore_loop call (L ws) (red ws) hw 999999 0 (by omega) (by omega) (by omega)
  rw [midW_zero, List.take_zero] at e
  have h2 : 2 ≤ sizeLine := line_le (by decide)
  rw [ba_f_law_core]
  simp [h1, ← mI_nil, e, h2]
end
end PY
set_option maxHeartbeats 2000000
/-! LibD: draws and words. -/
namespace PY
open PySem L2
def Dr (ds : List Int) : Prop := ∀ d ∈ ds, 0 ≤ d ∧ d < 1000003
theorem Dr_nil : Dr [] := fun _ m => nomatch m
theorem Dr_snoc {ds : List Int} {d : Int} (h : Dr ds) (h1 : 0 ≤ d) (h2 : d < 1000003) : Dr (ds ++ [d]) := fun x m => by
  rcases List.mem_append.mp m with m | m
  · exact h x m
  · rw [List.mem_singleton.mp m]; exact ⟨h1, h2⟩
theorem Dr_mod {ds : List Int} {d : Int} (h : Dr ds) : Dr (ds ++ [d.fmod 1000003]) := Dr_snoc h (Int.fmod_nonneg_of_pos d (by decide)) (Int.fmod_lt_of_pos d (by decide))
section
variable (call : Cal)
theorem dr1 {W M c : PyData} {x b : Option O} : ∀ (ks : List D) (fs : List Int) (n : Int) (k : Option O), fs.length + ks.length < 1000000 → Dr fs →
    ∃ fs' n' k', forGo (.one 5) (l_f_law_draws_1 call) ks [some (.frz W), some (.frz M), some (ow fs), some (.frz c), some (.frz (.int n)), k, x, b] = some (.next [some (.frz W), some (.frz M), some (ow fs'), some (.frz c), some (.frz (.int n')), k', x, b]) ∧ Dr fs' ∧ fs'.length ≤ fs.length + ks.length
  | [], fs, n, k, h, hd => ⟨fs, n, k, rfl, hd, by simp⟩
  | q :: ks, fs, n, k, h, hd => by
    have hz : fs.length < sizeLine := line_lt (by simp at h; omega)
    rw [forGo_cons]
    by_cases hn : 0 < n
    · obtain ⟨fs', n', k', e, hd', hl⟩ := dr1 (W := W) (M := M) (c := c) (x := x) (b := b) ks (fs ++ [n.fmod 1000003]) (n.fdiv 1000003) (some (.frz q)) (by simp at h ⊢; omega) (Dr_mod hd)
      refine ⟨fs', n', k', ?_, hd', by simp at hl ⊢; omega⟩
      simp [hn, hz, e]
    · obtain ⟨fs', n', k', e, hd', hl⟩ := dr1 (W := W) (M := M) (c := c) (x := x) (b := b) ks fs n (some (.frz q)) (by simp at h ⊢; omega) hd
      refine ⟨fs', n', k', ?_, hd', by simp at hl ⊢; omega⟩
      simp [hn, e]
theorem dr2 {W M c n : PyData} {b : Option O} : ∀ (ks : List Int) (fs : List Int) (x : Int) (k : Option O), fs.length + ks.length < 1000000 → Dr fs →
    ∃ fs' x' k', forGo (.one 5) (l_f_law_draws_2 call) (dI ks) [some (.frz W), some (.frz M), some (ow fs), some (.frz c), some (.frz n), k, some (.frz (.int x)), b] = some (.next [some (.frz W), some (.frz M), some (ow fs'), some (.frz c), some (.frz n), k', some (.frz (.int x')), b]) ∧ Dr fs' ∧ fs'.length ≤ fs.length + ks.length
  | [], fs, x, k, h, hd => ⟨fs, x, k, rfl, hd, by simp⟩
  | q :: ks, fs, x, k, h, hd => by
    have hz : fs.length < sizeLine := line_lt (by simp at h; omega)
    have s1 : Sm 69621 := Sm_of (by omega) (by omega)
    have s2 : Sm 13 := Sm_of (by omega) (by omega)
    rw [dI_cons, forGo_cons]
    generalize hx : (x * 69621 + x.fdiv 65536 + 13 * q + 5).fmod 2147483629 = x1
    obtain ⟨fs', x', k', e, hd', hl⟩ := dr2 (W := W) (M := M) (c := c) (n := n) (b := b) ks (fs ++ [(x1.fdiv 8).fmod 1000003]) x1 (some (.frz (.int q))) (by simp at h ⊢; omega) (Dr_mod hd)
    refine ⟨fs', x', k', ?_, hd', by simp at hl ⊢; omega⟩
    simp [mul_r s1, mul_l s2, hx, hz, e]
theorem rangeD_eq (lo : Int) (n : Nat) : ∃ ks : List Int, rangeD lo n = dI ks ∧ ks.length = n := ⟨(List.range n).map fun i : Nat => lo + (i : Int), by unfold rangeD dI; rw [List.map_map]; rfl, by simp⟩
theorem dr3 {W M : PyData} : ∀ (cs : List Int) (fs : List Int) (c n k x b : Option O), fs.length + 60 * cs.length < 900000 → Dr fs →
    ∃ fs' c' n' k' x', forGo (.one 3) (l_f_law_draws_3 call) (dI cs) [some (.frz W), some (.frz M), some (ow fs), c, n, k, x, b] = some (.next [some (.frz W), some (.frz M), some (ow fs'), c', n', k', x', b]) ∧ Dr fs' ∧ fs'.length ≤ fs.length + 60 * cs.length
  | [], fs, c, n, k, x, b, h, hd => ⟨fs, c, n, k, x, rfl, hd, by simp⟩
  | q :: cs, fs, c, n, k, x, b, h, hd => by
    have s1 : Sm 48271 := Sm_of (by omega) (by omega)
    have s2 : Sm 7 := Sm_of (by omega) (by omega)
    have r60 : Rk 60 := Rk_of (by omega) (by omega)
    have r4 : Rk 4 := Rk_of (by omega) (by omega)
    rw [dI_cons, forGo_cons]
    generalize hn : (if q < 0 then -q else q) = m
    by_cases hm : 1000000000000000000 ≤ m
    · obtain ⟨ks, ek, lk⟩ := rangeD_eq 0 60
      obtain ⟨f1, n1, k1, e1, d1, l1⟩ := dr1 call (W := W) (M := M) (c := .int q) (x := x) (b := b) (dI ks) fs m k (by simp [lk] at h ⊢; omega) hd
      obtain ⟨f2, c2, n2, k2, x2, e2, d2, l2⟩ := dr3 (W := W) (M := M) cs f1 (some (.frz (.int q))) (some (.frz (.int n1))) k1 x b (by simp [lk] at h l1 ⊢; omega) d1
      refine ⟨f2, c2, n2, k2, x2, ?_, d2, by simp [lk] at l1 l2 ⊢; omega⟩
      simp [hn, pow_10_18, hm, r60, ek, e1, e2]
    · obtain ⟨ks, ek, lk⟩ := rangeD_eq 0 4
      generalize hx : (m * 48271 + 7 * (fs.length : Int) + 11).fmod 2147483647 = x1
      obtain ⟨f1, x1', k1, e1, d1, l1⟩ := dr2 call (W := W) (M := M) (c := .int q) (n := .int m) (b := b) ks fs x1 k (by simp [lk] at h ⊢; omega) hd
      obtain ⟨f2, c2, n2, k2, x2, e2, d2, l2⟩ := dr3 (W := W) (M := M) cs f1 (some (.frz (.int q))) (some (.frz (.int m))) k1 (some (.frz (.int x1'))) b (by simp [lk] at h l1 ⊢; omega) d1
      refine ⟨f2, c2, n2, k2, x2, ?_, d2, by simp [lk] at l1 l2 ⊢; omega⟩
      simp [hn, pow_10_18, hm, r4, ek, mul_r s1, mul_l s2, hx, e1, e2]
theorem atI_mod {ds : List Int} {i : Int} (h : 0 < ds.length) : ∃ d, atI ds (i.fmod ds.length) = some d ∧ d ∈ ds := by
  have h1 : 0 ≤ i.fmod ds.length := Int.fmod_nonneg_of_pos i (by omega)
  have h2 : i.fmod ds.length < ds.length := Int.fmod_lt_of_pos i (by omega)
  obtain ⟨j, hj⟩ := Int.eq_ofNat_of_zero_le h1
  rw [hj] at h2 ⊢
  have hj2 : j < ds.length := by omega
  refine ⟨ds[j], ?_, List.getElem_mem hj2⟩
  rw [atI_nat']
  exact List.getElem?_eq_getElem hj2
theorem dr4 {W : PyData} {c n x : Option O} (M : Nat) : ∀ (ks : List Int) (fs : List Int) (k b : Option O), fs.length + ks.length < 1000000 → Dr fs →
    ∃ fs' k' b', forGo (.one 5) (l_f_law_draws_4 call) (dI ks) [some (.frz W), some (.frz (.int M)), some (ow fs), c, n, k, x, b] = some (.next [some (.frz W), some (.frz (.int M)), some (ow fs'), c, n, k', x, b']) ∧ Dr fs' ∧ min M (fs.length + ks.length) ≤ fs'.length
  | [], fs, k, b, h, hd => ⟨fs, k, b, rfl, hd, by simp; omega⟩
  | q :: ks, fs, k, b, h, hd => by
    have hz : fs.length < sizeLine := line_lt (by simp at h; omega)
    have s1 : Sm 16807 := Sm_of (by omega) (by omega)
    have s2 : Sm 31 := Sm_of (by omega) (by omega)
    rw [dI_cons, forGo_cons]
    by_cases hm : (fs.length : Int) < (M : Int)
    · by_cases hf : 0 < (fs.length : Int)
      · obtain ⟨d, ed, _⟩ := atI_mod (ds := fs) (i := q) (by omega)
        have hf' : ¬ ((fs.length : Int) = 0) := by omega
        have hf2 : fs ≠ [] := by intro z; rw [z] at hf; simp at hf
        obtain ⟨fs', k', b', e, hd', hl⟩ := dr4 (c := c) (n := n) (x := x) (W := W) M ks (fs ++ [(d * 16807 + 31 * (fs.length : Int) + 17).fmod 1000003]) (some (.frz (.int q))) (some (.frz (.int d))) (by simp at h ⊢; omega) (Dr_mod hd)
        refine ⟨fs', k', b', ?_, hd', by simp at hl ⊢; omega⟩
        have hf3 : 0 < fs.length := by omega
        simp [hm, hf, hf', hf2, hf3, ed, hz, mul_r s1, mul_l s2, e]
      · have hf0 : fs = [] := by cases fs with | nil => rfl | cons _ _ => simp at hf
        subst hf0
        obtain ⟨fs', k', b', e, hd', hl⟩ := dr4 (c := c) (n := n) (x := x) (W := W) M ks [17] (some (.frz (.int q))) (some (.frz (.int 0))) (by simp at h ⊢; omega) (fun d m => by rw [List.mem_singleton.mp m]; decide)
        refine ⟨fs', k', b', ?_, hd', by simp at hl ⊢; omega⟩
        have hm' : (0 : Int) < (M : Int) := by simpa using hm
        have hm2 : 0 < M := by omega
        have f17 : (17 : Int).fmod 1000003 = 17 := by decide
        simp [hm', hm2, hz, mul_r s1, mul_l s2, e, f17]
    · obtain ⟨fs', k', b', e, hd', hl⟩ := dr4 (c := c) (n := n) (x := x) (W := W) M ks fs (some (.frz (.int q))) b (by simp at h ⊢; omega) hd
      refine ⟨fs', k', b', ?_, hd', by simp at hl ⊢; omega⟩
      have hm2 : ¬ fs.length < M := by omega
      simp [hm, hm2, e]
theorem R_draws (ns : List Int) (M : Nat) (hn : ns.length ≤ 63) (hM : M ≤ 1000) : ∃ ds : List Int, ds.length = M ∧ Dr ds ∧ outO (b_f_law_draws call [some (.frz (L ns)), some (.frz (.int M)), none, none, none, none, none, none]) = some (ow ds) := by
  obtain ⟨f1, c1, n1, k1, x1, e1, d1, l1⟩ := dr3 call (W := L ns) (M := .int M) (ns.take 63) [] none none none none none (by simp; omega) Dr_nil
  obtain ⟨ks, ek, lk⟩ := rangeD_eq 0 M
  have hl0 : f1.length ≤ 60 * 63 := by simp at l1; omega
  obtain ⟨f2, k2, b2, e2, d2, l2⟩ := dr4 call (W := L ns) (c := c1) (n := n1) (x := x1) M ks f1 k1 none (by omega) d1
  refine ⟨f2.take M, by rw [List.length_take]; omega, fun d m => d2 d (List.mem_of_mem_take m), ?_⟩
  have rM : Rk (M : Int) := Rk_of (by omega) (by omega)
  rw [ba_f_law_draws]
  simp [← mI_nil, cut_to, e1, rM, ek, e2]
end
end PY
set_option maxHeartbeats 4000000
/-! LibE: words that are drawn; what is the same as itself. -/
namespace PY
open PySem L2
/-- words over so many letters -/
def Wd (l : Int) (ws : List Int) : Prop := ∀ w ∈ ws, w ≠ 0 ∧ -l ≤ w ∧ w ≤ l
theorem Wd_nil {l : Int} : Wd l [] := fun _ m => nomatch m
theorem Wd_app {l : Int} {a b : List Int} (h : Wd l a) (k : Wd l b) : Wd l (a ++ b) := fun w m => (List.mem_append.mp m).elim (h w) (k w)
theorem Wd_take {l : Int} {a : List Int} (n : Nat) (h : Wd l a) : Wd l (a.take n) := fun w m => h w (List.mem_of_mem_take m)
theorem Wd_drop {l : Int} {a : List Int} (n : Nat) (h : Wd l a) : Wd l (a.drop n) := fun w m => h w (List.mem_of_mem_drop m)
theorem Wd_bck {l : Int} {a : List Int} (h : Wd l a) : Wd l (bck a) := fun w m => by
  unfold bck at m
  obtain ⟨v, m2, rfl⟩ := List.mem_map.mp m
  have := h v (List.mem_reverse.mp m2)
  omega
theorem Wd_rep {l : Int} {a : List Int} (n : Nat) (h : Wd l a) : Wd l (List.replicate n a).flatten := fun w m => by
  obtain ⟨b, mb, m⟩ := List.mem_flatten.mp m
  rw [List.eq_of_mem_replicate mb] at m
  exact h w m
theorem mem_put {acc : List Int} {n w : Int} (h : w ∈ put acc n) : w ∈ acc ∨ w = n := by
  unfold put at h
  split at h
  · exact .inl ((List.dropLast_subset acc h))
  · simpa using h
theorem mem_foldl_put : ∀ (ws acc : List Int) {w : Int}, w ∈ ws.foldl put acc → w ∈ acc ∨ w ∈ ws
  | [], acc, w, h => .inl h
  | v :: ws, acc, w, h => by
    rcases mem_foldl_put ws (put acc v) h with h | h
    · rcases mem_put h with h | h
      · exact .inl h
      · exact .inr (by simp [h])
    · exact .inr (List.mem_cons_of_mem _ h)
theorem mem_red {ws : List Int} {w : Int} (h : w ∈ red ws) : w ∈ ws := (mem_foldl_put ws [] h).elim (fun m => nomatch m) id
theorem Wd_red {l : Int} {a : List Int} (h : Wd l a) : Wd l (red a) := fun w m => h w (mem_red m)
theorem rep_len (n : Nat) (a : List Int) : (List.replicate n a).flatten.length = n * a.length := by
  induction n with
  | zero => simp
  | succ n ih => rw [List.replicate_succ, List.flatten_cons, List.length_append, ih, Nat.succ_mul]; omega
section
variable (call : Cal)
theorem word_loop {W A : PyData} (ds : List Int) (at_ l : Int) (hd : 0 < ds.length) (hd2 : ds.length < 1000000) (hl : 1 ≤ l) (hl2 : l ≤ 1000) : ∀ (m k : Nat) (acc : List Int) (y z : Option O), k + m < 1000000 → acc.length = k → Wd l acc →
    ∃ out y' z', forGo (.one 5) (l_f_law_word_1 call) (rangeD (k : Int) m) [some (.frz (L ds)), some (.frz (.int at_)), some (.frz (.int l)), some (.frz A), some (ow acc), y, z] = some (.next [some (.frz (L ds)), some (.frz (.int at_)), some (.frz (.int l)), some (.frz A), some (ow out), y', z']) ∧ out.length = k + m ∧ Wd l out
  | 0, k, acc, y, z, h, ha, hw => ⟨acc, y, z, rfl, ha, hw⟩
  | m + 1, k, acc, y, z, h, ha, hw => by
    have hz : acc.length < sizeLine := line_lt (by omega)
    obtain ⟨d, ed, _⟩ := atI_mod (ds := ds) (i := at_ + k) hd
    have h0 : ¬ ((ds.length : Int) = 0) := by omega
    have hne : ds ≠ [] := by intro z; rw [z] at hd; simp at hd
    have e1 : (k : Int).fdiv (ds.length : Int) = ((k / ds.length : Nat) : Int) := by
      rw [Int.fdiv_eq_ediv_of_nonneg _ (by omega)]
      exact (Int.natCast_ediv k ds.length).symm
    have q1 : k / ds.length ≤ k := Nat.div_le_self _ _
    generalize hq : k / ds.length = q at e1 q1
    have h1 : ¬ (1 + (q : Int) = 0) := by omega
    have h2 : (1 + (q : Int)).natAbs < 1073741824 := by omega
    have h3 : ¬ (l = 0) := by omega
    have h4 : ds.length < 1073741824 := by omega
    have s1 : Sm 977 := Sm_of (by omega) (by omega)
    have s2 : Sm 2 := Sm_of (by omega) (by omega)
    generalize hc : d.fdiv (1 + (q : Int)) + 977 * (k : Int) = c
    have b1 : 0 ≤ c.fmod l := Int.fmod_nonneg_of_pos c (by omega)
    have b2 : c.fmod l < l := Int.fmod_lt_of_pos c (by omega)
    have b3 : 0 ≤ (c.fdiv 8).fmod 2 := Int.fmod_nonneg_of_pos _ (by omega)
    have b4 : (c.fdiv 8).fmod 2 < 2 := Int.fmod_lt_of_pos _ (by omega)
    generalize hx : c.fmod l = x at b1 b2
    generalize hy : (c.fdiv 8).fmod 2 = yy at b3 b4
    have s3 : Sm (1 + x) := Sm_of (by omega) (by omega)
    have hw2 : Wd l (acc ++ [(1 + x) * (1 - 2 * yy)]) := Wd_app hw fun w mw => by
      rw [List.mem_singleton.mp mw]
      have : yy = 0 ∨ yy = 1 := by omega
      rcases this with rfl | rfl
      · simp; omega
      · simp; omega
    obtain ⟨out, y', z', e, hlen, hw'⟩ := word_loop (W := W) (A := A) ds at_ l hd hd2 hl hl2 m (k + 1) (acc ++ [(1 + x) * (1 - 2 * yy)]) (some (.frz (.int k))) (some (.frz (.int c))) (by omega) (by simp [ha]) hw2
    refine ⟨out, y', z', ?_, by omega, hw'⟩
    rw [rangeD_succ, forGo_cons]
    rw [show (((k + 1 : Nat) : Int)) = (k : Int) + 1 by omega] at e
    simp [hne, h0, ed, e1, h1, h2, h3, h4, mul_l s1, mul_l s2, mul_l s3, hc, hx, hy, hz, e]
theorem R_word (ds : List Int) (at_ l : Int) (m : Nat) (hd : 0 < ds.length) (hd2 : ds.length < 1000000) (hl : 1 ≤ l) (hl2 : l ≤ 1000) (hm : m < 100000) :
    ∃ ws, ws.length = m ∧ Wd l ws ∧ outO (b_f_law_word call [some (.frz (L ds)), some (.frz (.int at_)), some (.frz (.int l)), some (.frz (.int m)), none, none, none]) = some (ow ws) := by
  obtain ⟨out, y', z', e, hlen, hw⟩ := word_loop call (W := .none) (A := .int m) ds at_ l hd hd2 hl hl2 m 0 [] none none (by omega) rfl Wd_nil
  refine ⟨out, by omega, hw, ?_⟩
  have rM : Rk (m : Int) := Rk_of (by omega) (by omega)
  rw [show ((0 : Nat) : Int) = 0 from rfl] at e
  rw [ba_f_law_word]
  simp [← mI_nil, rM, e]
end
/-! ### what is the same as itself -/
def Same1 (call : Cal) (d : D) : Prop := call "_law_same" [d, d] = some (.frz (.bool true))
section
variable (call : Cal)
theorem R_is_number (i : Int) : outO (b_f_law_is_number call [some (.frz (.int i))]) = some (.frz (.bool true)) := by
  rw [ba_f_law_is_number]
  have h1 : isInst "int" (.int i) = some true := by rfl
  have h2 : isInst "bool" (.int i) = some false := by rfl
  simp [h1, h2]
theorem R_same_int (i : Int) (h : call "_law_is_number" [.int i] = some (.frz (.bool true))) : outO (b_f_law_same call [some (.frz (.int i)), some (.frz (.int i)), none]) = some (.frz (.bool true)) := by
  rw [ba_f_law_same]
  have h1 : isInst "int" (.int i) = some true := by rfl
  have h2 : isInst "bool" (.int i) = some false := by rfl
  simp [h1, h2, h]
theorem R_same_bool (i : Bool) : outO (b_f_law_same call [some (.frz (.bool i)), some (.frz (.bool i)), none]) = some (.frz (.bool true)) := by
  rw [ba_f_law_same]
  have h2 : isInst "bool" (.bool i) = some true := by rfl
  simp [h2]
theorem R_same_str (i : Str) : outO (b_f_law_same call [some (.frz (.str i)), some (.frz (.str i)), none]) = some (.frz (.bool true)) := by
  rw [ba_f_law_same]
  have h1 : isInst "int" (.str i) = some false := by rfl
  have h2 : isInst "bool" (.str i) = some false := by rfl
  have h3 : isInst "str" (.str i) = some true := by rfl
  simp [h1, h2, h3]
theorem same_loop (V : PyData) (ds : List D) (hv : ∀ i : Int, ixV V (.int i) = atI ds i) (hs : ∀ d ∈ ds, Same1 call d) : ∀ (m k : Nat) (y : Option O), k + m = ds.length →
    ∃ y', forGo (.one 2) (l_f_law_same_1 call) (rangeD (k : Int) m) [some (.frz V), some (.frz V), y] = some (.next [some (.frz V), some (.frz V), y'])
  | 0, k, y, h => ⟨y, rfl⟩
  | m + 1, k, y, h => by
    have hk : k < ds.length := by omega
    obtain ⟨y', e⟩ := same_loop V ds hv hs m (k + 1) (some (.frz (.int k))) (by omega)
    refine ⟨y', ?_⟩
    rw [show (((k + 1 : Nat) : Int)) = (k : Int) + 1 by omega] at e
    have e1 : atI ds (k : Int) = some ds[k] := by rw [atI_nat']; exact List.getElem?_eq_getElem hk
    have e2 : call "_law_same" [ds[k], ds[k]] = some (.frz (.bool true)) := hs _ (List.getElem_mem hk)
    rw [rangeD_succ, forGo_cons]
    simp [hv, e1, e2, e]
theorem R_same_list (ds : List D) (h : ds.length < 1000000) (hs : ∀ d ∈ ds, Same1 call d) : outO (b_f_law_same call [some (.frz (.list ds)), some (.frz (.list ds)), none]) = some (.frz (.bool true)) := by
  obtain ⟨y', e⟩ := same_loop call (.list ds) ds (fun _ => rfl) hs ds.length 0 none (by omega)
  have rM : Rk (ds.length : Int) := Rk_of (by omega) (by omega)
  have h1 : isInst "int" (.list ds) = some false := by rfl
  have h2 : isInst "bool" (.list ds) = some false := by rfl
  have h3 : isInst "str" (.list ds) = some false := by rfl
  have h4 : isInst "tuple" (.list ds) = some false := by rfl
  have h5 : isInst "list" (.list ds) = some true := by rfl
  rw [show ((0 : Nat) : Int) = 0 from rfl] at e
  rw [ba_f_law_same]
  simp [h1, h2, h3, h4, h5, rM, e]
theorem R_same_tup (ds : List D) (h : ds.length < 1000000) (hs : ∀ d ∈ ds, Same1 call d) : outO (b_f_law_same call [some (.frz (.tuple ds)), some (.frz (.tuple ds)), none]) = some (.frz (.bool true)) := by
  obtain ⟨y', e⟩ := same_loop call (.tuple ds) ds (fun _ => rfl) hs ds.length 0 none (by omega)
  have rM : Rk (ds.length : Int) := Rk_of (by omega) (by omega)
  have h1 : isInst "int" (.tuple ds) = some false := by rfl
  have h2 : isInst "bool" (.tuple ds) = some false := by rfl
  have h3 : isInst "str" (.tuple ds) = some false := by rfl
  have h4 : isInst "tuple" (.tuple ds) = some true := by rfl
  have h5 : isInst "list" (.tuple ds) = some false := by rfl
  rw [show ((0 : Nat) : Int) = 0 from rfl] at e
  rw [ba_f_law_same]
  simp [h1, h2, h3, h4, h5, rM, e]
end
end PY
set_option maxHeartbeats 8000000
/-! LibF: some word. -/
namespace PY
open PySem L2
theorem fmod_rng (i : Int) {n : Int} (h : 0 < n) : 0 ≤ i.fmod n ∧ i.fmod n < n := ⟨Int.fmod_nonneg_of_pos i h, Int.fmod_lt_of_pos i h⟩
section
variable (call : Cal)
/-- what the calls of the law's helpers give -/
structure Helps (call : Cal) : Prop where
  word : ∀ (ds : List Int) (a l m : Int), 0 < ds.length → ds.length < 1000000 → 1 ≤ l → l ≤ 1000 → 0 ≤ m → m < 100000 → ∃ ws : List Int, ws.length = m.toNat ∧ Wd l ws ∧ call "_law_word" [L ds, .int a, .int l, .int m] = some (ow ws)
  red : ∀ ws : List Int, ws.length < 900000 → call "_law_reduced" [L ws] = some (ow (PY.red ws))
  back : ∀ ws : List Int, ws.length < 900000 → call "_law_back" [L ws] = some (ow (bck ws))
theorem R_some_word (hc : Helps call) (ds : List Int) (a l : Int) (ha : 0 ≤ a) (hd : a + 5 ≤ ds.length) (hd2 : ds.length < 1000000) (hl : 1 ≤ l) (hl2 : l ≤ 1000) :
    ∃ ws : List Int, ws.length ≤ 20 ∧ Wd l ws ∧ outO (b_f_law_some_word call [some (.frz (L ds)), some (.frz (.int a)), some (.frz (.int l)), none, none, none, none, none, none, none, none]) = some (ow ws) := by
  have ix : ∀ k : Nat, k < 5 → ∃ d, atI ds (a + k) = some d := fun k hk => by
    obtain ⟨j, hj⟩ := Int.eq_ofNat_of_zero_le ha
    have e : a + (k : Int) = ((j + k : Nat) : Int) := by omega
    rw [e, atI_nat']
    exact ⟨_, List.getElem?_eq_getElem (by omega)⟩
  obtain ⟨d0, e0⟩ := ix 0 (by omega)
  obtain ⟨d1, e1⟩ := ix 1 (by omega)
  obtain ⟨d2, e2⟩ := ix 2 (by omega)
  obtain ⟨d3, e3⟩ := ix 3 (by omega)
  obtain ⟨d4, e4⟩ := ix 4 (by omega)
  have e0 : atI ds a = some d0 := by rw [← e0]; congr 1; omega
  have e1 : atI ds (a + 1) = some d1 := e1
  have e2 : atI ds (a + 2) = some d2 := e2
  have e3 : atI ds (a + 3) = some d3 := e3
  have e4 : atI ds (a + 4) = some d4 := e4
  have hdp : 0 < ds.length := by omega
  obtain ⟨m1, m2⟩ := fmod_rng d1 (n := 13) (by omega)
  generalize hm : d1.fmod 13 = m at m1 m2
  obtain ⟨ws, hlen, hw, hcall⟩ := hc.word ds (a + 2) l m hdp hd2 hl hl2 m1 (by omega)
  obtain ⟨k1, k2⟩ := fmod_rng d0 (n := 8) (by omega)
  generalize hk : d0.fmod 8 = k at k1 k2
  have hlw : ws.length ≤ 12 := by omega
  rw [ba_f_law_some_word]
  have cases8 : k = 0 ∨ k = 1 ∨ k = 2 ∨ k = 3 ∨ k = 4 ∨ k = 5 ∨ k = 6 ∨ k = 7 := by omega
  have case23 : k = 2 ∨ k = 3 → ∃ ws : List Int, ws.length ≤ 20 ∧ Wd l ws ∧ outO ((b_f_law_some_word call) [some (.frz (L ds)), some (.frz (.int a)), some (.frz (.int l)), none, none, none, none, none, none, none, none]) = some (ow ws) := fun h => by
    obtain ⟨c1, c2⟩ := fmod_rng d2 (n := m + 1) (by omega)
    generalize hcut : d2.fmod (m + 1) = cut at c1 c2
    obtain ⟨x1, x2⟩ := fmod_rng d3 (n := 3) (by omega)
    generalize hx : d3.fmod 3 = x at x1 x2
    obtain ⟨mo, molen, mow, mocall⟩ := hc.word ds (a + 7) l (1 + x) hdp hd2 hl hl2 (by omega) (by omega)
    have hb := hc.back mo (by omega)
    have hm1 : ¬ (m + 1 = 0) := by omega
    have l1 : (ws.take cut.toNat).length + mo.length < 1000000 := by rw [List.length_take]; omega
    have l2 : (ws.take cut.toNat ++ mo).length + (bck mo).length < 1000000 := by rw [List.length_append, List.length_take, bck_len]; omega
    have l3 : (ws.take cut.toNat ++ mo ++ bck mo).length + (ws.drop cut.toNat).length < 1000000 := by rw [List.length_append, List.length_append, List.length_take, bck_len, List.length_drop]; omega
    refine ⟨ws.take cut.toNat ++ mo ++ bck mo ++ ws.drop cut.toNat, by rw [List.length_append, List.length_append, List.length_append, List.length_take, bck_len, List.length_drop]; omega, Wd_app (Wd_app (Wd_app (Wd_take _ hw) mow) (Wd_bck mow)) (Wd_drop _ hw), ?_⟩
    have ct : cutI ws none (some cut) = ws.take cut.toNat := cut_to c1
    have cf : cutI ws (some cut) none = ws.drop cut.toNat := cut_from c1
    rw [ba_f_law_some_word]
    rcases h with rfl | rfl
    · simp [e0, e1, hk, hm, hcall, e2, e3, hm1, hcut, hx, mocall, hb, ct, cf, add_l l1, add_l l2, add_l l3, -List.append_assoc]
    · simp [e0, e1, hk, hm, hcall, e2, e3, hm1, hcut, hx, mocall, hb, ct, cf, add_l l1, add_l l2, add_l l3, -List.append_assoc]
  rcases cases8 with rfl | rfl | rfl | rfl | rfl | rfl | rfl | rfl
  · exact ⟨ws, by omega, hw, by simp [e0, e1, hk, hm, hcall]⟩
  · refine ⟨PY.red ws, by have := red_len ws; omega, Wd_red hw, ?_⟩
    have hr := hc.red ws (by omega)
    simp [e0, e1, hk, hm, hcall, hr]
  · exact case23 (.inl rfl)
  · exact case23 (.inr rfl)
  · obtain ⟨x1, x2⟩ := fmod_rng d3 (n := 4) (by omega)
    generalize hx : d3.fmod 4 = x at x1 x2
    obtain ⟨mo, molen, mow, mocall⟩ := hc.word ds (a + 5) l (1 + x) hdp hd2 hl hl2 (by omega) (by omega)
    have hb := hc.back mo (by omega)
    have ct : cutI ws none (some 6) = ws.take 6 := cut_to (by omega)
    have l1 : mo.length + (ws.take 6).length < 1000000 := by rw [List.length_take]; omega
    have l2 : (mo ++ ws.take 6).length + (bck mo).length < 1000000 := by rw [List.length_append, List.length_take, bck_len]; omega
    refine ⟨mo ++ ws.take 6 ++ bck mo, by rw [List.length_append, List.length_append, List.length_take, bck_len]; omega, Wd_app (Wd_app mow (Wd_take _ hw)) (Wd_bck mow), ?_⟩
    simp [e0, e1, hk, hm, hcall, e3, hx, mocall, hb, ct, add_l l1, add_l l2, -List.append_assoc]
  · obtain ⟨x1, x2⟩ := fmod_rng d3 (n := 5) (by omega)
    generalize hx : d3.fmod 5 = x at x1 x2
    have ct : cutI ws none (some 4) = ws.take 4 := cut_to (by omega)
    have lr : (List.replicate (1 + x).toNat (ws.take 4)).flatten.length ≤ 20 := by
      rw [rep_len, List.length_take]
      have : (1 + x).toNat * min 4 ws.length ≤ 5 * 4 := Nat.mul_le_mul (by omega) (by omega)
      omega
    refine ⟨_, lr, Wd_rep _ (Wd_take _ hw), ?_⟩
    have r1 : binV .Mult (L (ws.take 4)) (.int (1 + x)) = _ := rep_li (by omega) (by omega) (by rw [List.length_take]; omega)
    simp [e0, e1, hk, hm, hcall, e3, hx, ct, r1, -List.length_take, -List.length_flatten]
  · obtain ⟨x1, x2⟩ := fmod_rng d3 (n := 4) (by omega)
    generalize hx : d3.fmod 4 = x at x1 x2
    obtain ⟨y1, y2⟩ := fmod_rng d4 (n := 4) (by omega)
    generalize hy : d4.fmod 4 = y at y1 y2
    obtain ⟨mo, molen, mow, mocall⟩ := hc.word ds (a + 5) l x hdp hd2 hl hl2 (by omega) (by omega)
    have hb := hc.back mo (by omega)
    have ct : cutI ws none (some 3) = ws.take 3 := cut_to (by omega)
    have r1 : binV .Mult (L (ws.take 3)) (.int (1 + y)) = _ := rep_li (by omega) (by omega) (by rw [List.length_take]; omega)
    have lr : (List.replicate (1 + y).toNat (ws.take 3)).flatten.length ≤ 12 := by
      rw [rep_len, List.length_take]
      have : (1 + y).toNat * min 3 ws.length ≤ 4 * 3 := Nat.mul_le_mul (by omega) (by omega)
      omega
    have hwr := Wd_rep (1 + y).toNat (Wd_take 3 hw)
    generalize (List.replicate (1 + y).toNat (ws.take 3)).flatten = rp at r1 lr hwr
    have l1 : mo.length + rp.length < 1000000 := by omega
    have l2 : (mo ++ rp).length + (bck mo).length < 1000000 := by rw [List.length_append, bck_len]; omega
    refine ⟨mo ++ rp ++ bck mo, by rw [List.length_append, List.length_append, bck_len]; omega, Wd_app (Wd_app mow hwr) (Wd_bck mow), ?_⟩
    simp [e0, e1, hk, hm, hcall, e3, e4, hx, hy, mocall, hb, ct, r1, add_l l1, add_l l2, -List.append_assoc]
  · obtain ⟨x1, x2⟩ := fmod_rng d3 (n := 5) (by omega)
    generalize hx : d3.fmod 5 = x at x1 x2
    obtain ⟨mo, molen, mow, mocall⟩ := hc.word ds (a + 4) l x hdp hd2 hl hl2 (by omega) (by omega)
    have ct : cutI ws none (some 4) = ws.take 4 := cut_to (by omega)
    have lo : (ws.take 4).length ≤ 4 := by rw [List.length_take]; omega
    have hwo := Wd_take 4 hw
    generalize hone : ws.take 4 = one at ct lo hwo
    have hb := hc.back mo (by omega)
    have hb1 := hc.back one (by omega)
    have l1 : one.length + mo.length < 1000000 := by omega
    have l2 : (one ++ mo).length + (bck one).length < 1000000 := by rw [List.length_append, bck_len]; omega
    have l3 : (one ++ mo ++ bck one).length + (bck mo).length < 1000000 := by rw [List.length_append, List.length_append, bck_len, bck_len]; omega
    refine ⟨one ++ mo ++ bck one ++ bck mo, by rw [List.length_append, List.length_append, List.length_append, bck_len, bck_len]; omega, Wd_app (Wd_app (Wd_app hwo mow) (Wd_bck hwo)) (Wd_bck mow), ?_⟩
    simp [e0, e1, hk, hm, hcall, e3, hx, mocall, hb, hb1, ct, add_l l1, add_l l2, add_l l3, -List.append_assoc]
end
end PY
set_option maxHeartbeats 4000000
/-! LibG: words, plainly. -/
namespace PY
open PySem L2
@[simp] theorem atI_c0 {α : Type} {x : α} {xs : List α} : atI (x :: xs) 0 = some x := by rw [atI_zero]; rfl
@[simp] theorem atI_c1 {α : Type} {x y : α} {xs : List α} : atI (x :: y :: xs) 1 = some y := by rw [show (1 : Int) = ((1 : Nat) : Int) from rfl, atI_nat']; rfl
@[simp] theorem atI_c2 {α : Type} {x y z : α} {xs : List α} : atI (x :: y :: z :: xs) 2 = some z := by rw [show (2 : Int) = ((2 : Nat) : Int) from rfl, atI_nat']; rfl
@[simp] theorem ixN_20 : ixN 2 0 = some 0 := Eq.trans rfl rfl
@[simp] theorem ixN_21 : ixN 2 1 = some 1 := Eq.trans rfl rfl
@[simp] theorem ixN_30 : ixN 3 0 = some 0 := Eq.trans rfl rfl
@[simp] theorem ixN_31 : ixN 3 1 = some 1 := Eq.trans rfl rfl
@[simp] theorem ixN_32 : ixN 3 2 = some 2 := Eq.trans rfl rfl
theorem isRed_iff : ∀ ws : List Int, isRed ws = true ↔ ∀ (i : Nat) (a b : Int), ws[i]? = some a → ws[i + 1]? = some b → b ≠ -a
  | [] => by simp [isRed]
  | [a] => by simp [isRed]
  | a :: b :: r => by
    have ih := isRed_iff (b :: r)
    show (decide (b ≠ -a) && isRed (b :: r)) = true ↔ _
    rw [Bool.and_eq_true, decide_eq_true_eq, ih]
    constructor
    · rintro ⟨h1, h2⟩ i x y hx hy
      cases i with
      | zero => simp at hx hy; subst hx; subst hy; exact h1
      | succ i => exact h2 i x y (by simpa using hx) (by simpa using hy)
    · intro h
      exact ⟨h 0 a b rfl rfl, fun i x y hx hy => h (i + 1) x y (by simpa using hx) (by simpa using hy)⟩
theorem isRed_take {ws : List Int} (n : Nat) (h : isRed ws = true) : isRed (ws.take n) = true := by
  rw [isRed_iff] at h ⊢
  intro i a b ha hb
  rw [List.getElem?_take] at ha hb
  split at ha
  · split at hb
    · exact h i a b ha hb
    · cases hb
  · cases ha
theorem isRed_drop' {ws : List Int} (n : Nat) (h : isRed ws = true) : isRed (ws.drop n) = true := by
  rw [isRed_iff] at h ⊢
  intro i a b ha hb
  rw [List.getElem?_drop] at ha hb
  exact h (n + i) a b ha (by rw [← Nat.add_assoc] at hb; exact hb)
theorem isRed_mid {ws : List Int} (k : Nat) (h : isRed ws = true) : isRed (midW ws k) = true := isRed_take _ (isRed_drop' _ h)
theorem isRed_snoc {ws : List Int} {n : Int} (h : isRed ws = true) (h2 : ws.getLast? ≠ some (-n)) : isRed (ws ++ [n]) = true := by
  rw [isRed_iff] at h ⊢
  intro i a b ha hb
  by_cases q : i + 1 < ws.length
  · rw [List.getElem?_append_left (by omega)] at ha
    rw [List.getElem?_append_left q] at hb
    exact h i a b ha hb
  · have hi : i + 1 = ws.length := by
      by_cases z : i + 1 = ws.length
      · exact z
      · rw [List.getElem?_eq_none (by simp; omega)] at hb
        cases hb
    rw [List.getElem?_append_left (by omega)] at ha
    rw [List.getElem?_append_right (by omega), hi, Nat.sub_self] at hb
    simp at hb
    subst hb
    rw [List.getLast?_eq_getElem?, ← hi, Nat.add_sub_cancel, ha] at h2
    intro z
    apply h2
    rw [z, Int.neg_neg]
theorem put_red {acc : List Int} {n : Int} (h : isRed acc = true) : isRed (put acc n) = true := by
  unfold put
  split
  · rw [List.dropLast_eq_take]; exact isRed_take _ h
  · rename_i q; exact isRed_snoc h q
theorem foldl_red : ∀ (ws acc : List Int), isRed acc = true → isRed (ws.foldl put acc) = true
  | [], _, h => h
  | w :: ws, acc, h => foldl_red ws (put acc w) (put_red h)
theorem red_isRed (ws : List Int) : isRed (red ws) = true := foldl_red ws [] rfl
theorem foldl_same : ∀ (ws acc : List Int), isRed (acc ++ ws) = true → ws.foldl put acc = acc ++ ws
  | [], acc, _ => by simp
  | w :: ws, acc, h => by
    have e : put acc w = acc ++ [w] := by
      unfold put
      rw [if_neg]
      intro q
      have h' := (isRed_iff _).mp h
      have hne : acc ≠ [] := by intro z; rw [z] at q; cases q
      have hl : 0 < acc.length := List.length_pos_iff.mpr hne
      rw [List.getLast?_eq_getElem?] at q
      have := h' (acc.length - 1) (-w) w (by rw [List.getElem?_append_left (by omega)]; exact q) (by rw [List.getElem?_append_right (by omega)]; rw [show acc.length - 1 + 1 - acc.length = 0 by omega]; rfl)
      omega
    rw [List.foldl_cons, e, foldl_same ws (acc ++ [w]) (by simpa using h)]
    simp
theorem red_of_isRed {ws : List Int} (h : isRed ws = true) : red ws = ws := foldl_same ws [] h
theorem red_red (ws : List Int) : red (red ws) = red ws := red_of_isRed (red_isRed ws)
theorem bck_get {ws : List Int} {i : Nat} (h : i < ws.length) : (bck ws)[i]? = ws[ws.length - 1 - i]?.map (-·) := by
  unfold bck
  rw [List.getElem?_map, List.getElem?_reverse h]
theorem flc_get {r : List Int} {j : Nat} (h : flc r j = true) : r[j]? = r[r.length - 1 - j]?.map (-·) := by
  unfold flc at h
  simp at h
  simpa using h.2
theorem fl_parts {r : List Int} : ∀ k : Nat, (∀ j < k, flc r j = true) → 2 * k ≤ r.length → r.take k ++ midW r k ++ bck (r.take k) = r := by
  intro k hk h2
  apply List.ext_getElem?
  intro i
  have lt : (r.take k).length = k := by rw [List.length_take]; omega
  have lm := midW_len r k
  by_cases q1 : i < k
  · rw [List.append_assoc, List.getElem?_append_left (by omega), List.getElem?_take, if_pos q1]
  · by_cases q2 : i < r.length - k
    · rw [List.getElem?_append_left (by rw [List.length_append]; omega), List.getElem?_append_right (by omega), lt, midW_get (by omega)]
      congr 1; omega
    · by_cases q3 : i < r.length
      · rw [List.getElem?_append_right (by rw [List.length_append]; omega), List.length_append, lt, lm, bck_get (by omega), lt, List.getElem?_take, if_pos (by omega)]
        have := flc_get (hk (k - 1 - (i - (k + (r.length - 2 * k)))) (by omega))
        rw [this, Option.map_map, show r.length - 1 - (k - 1 - (i - (k + (r.length - 2 * k)))) = i by omega]
        cases r[i]? with
        | none => rfl
        | some x => simp
      · rw [List.getElem?_eq_none (by rw [List.length_append, List.length_append, bck_len]; omega), List.getElem?_eq_none (by omega)]
def nz (ws : List Int) : Prop := ∀ w ∈ ws, w ≠ 0
theorem Wd.nz {l : Int} {ws : List Int} (h : Wd l ws) : nz ws := fun w m => (h w m).1
theorem nz_red {ws : List Int} (h : nz ws) : nz (red ws) := fun w m => h w (mem_red m)
theorem midW_head {r : List Int} {k : Nat} (h : 2 * k < r.length) : (midW r k).head? = r[k]? := by
  rw [List.head?_eq_getElem?, midW_get (by omega)]
  rfl
theorem mid_core {r : List Int} (hr : isRed r = true) (hz : nz r) (hl : r.length < 900000) : isCore (midW r (fl r)) = true := by
  obtain ⟨h1, h2⟩ := fl_spec hl
  have h3 := fl_le2 hl
  generalize fl r = k at h1 h2 h3
  unfold isCore
  rw [isRed_mid k hr, Bool.true_and]
  unfold headOk
  rw [Bool.or_eq_true, decide_eq_true_eq, midW_len]
  by_cases q : r.length - 2 * k = 0
  · exact .inl q
  · right
    rw [midW_last (by omega), midW_head (by omega)]
    have e1 : r[k]? = some r[k] := List.getElem?_eq_getElem (by omega)
    have e2 : r[r.length - 1 - k]? = some r[r.length - 1 - k] := List.getElem?_eq_getElem (by omega)
    unfold flc at h2
    rw [e1, e2] at h2 ⊢
    by_cases z : 2 * k + 1 < r.length
    · simp [z] at h2
      simp; omega
    · have e3 : r.length - 1 - k = k := by omega
      have e4 : r[r.length - 1 - k] = r[k] := by congr 1
      have := hz r[k] (List.getElem_mem _)
      rw [e4]
      simp; omega
end PY
set_option maxHeartbeats 4000000
/-! LibH: words that cancel to the same word. -/
namespace PY
open PySem L2
/-- numbers put behind a word, one by one -/
def act (ws acc : List Int) : List Int := ws.foldl put acc
theorem act_nil (acc : List Int) : act [] acc = acc := rfl
theorem act_cons (w : Int) (ws acc : List Int) : act (w :: ws) acc = act ws (put acc w) := rfl
theorem act_app (a b acc : List Int) : act (a ++ b) acc = act b (act a acc) := List.foldl_append
theorem act_red {ws acc : List Int} (h : isRed acc = true) : isRed (act ws acc) = true := foldl_red ws acc h
theorem red_act (ws : List Int) : red ws = act ws [] := rfl
theorem last_ne {acc : List Int} {n : Int} (h : isRed acc = true) (h2 : acc.getLast? = some (-n)) : acc.dropLast.getLast? ≠ some n := by
  intro q
  obtain ⟨d, rfl⟩ : ∃ d, acc = d ++ [-n] := by
    have hne : acc ≠ [] := by intro z; rw [z] at h2; cases h2
    rw [List.getLast?_eq_getLast hne] at h2
    exact ⟨acc.dropLast, by rw [← Option.some.inj h2]; exact (List.dropLast_concat_getLast hne).symm⟩
  rw [List.dropLast_concat] at q
  have hne : d ≠ [] := by intro z; rw [z] at q; cases q
  have hl : 0 < d.length := List.length_pos_iff.mpr hne
  rw [List.getLast?_eq_getElem?] at q
  have := (isRed_iff _).mp h (d.length - 1) n (-n) (by rw [List.getElem?_append_left (by omega)]; exact q) (by rw [List.getElem?_append_right (by omega), show d.length - 1 + 1 - d.length = 0 by omega]; rfl)
  exact this rfl
/-- a number and its opposite -/
theorem put_put {acc : List Int} (n : Int) (h : isRed acc = true) : put (put acc n) (-n) = acc := by
  by_cases q : acc.getLast? = some (-n)
  · have hne : acc ≠ [] := by intro z; rw [z] at q; cases q
    have e1 : put acc n = acc.dropLast := if_pos q
    have e2 := last_ne h q
    rw [e1]
    unfold put
    rw [Int.neg_neg, if_neg e2]
    rw [List.getLast?_eq_getLast hne] at q
    have := List.dropLast_concat_getLast hne
    rw [Option.some.inj q] at this
    exact this
  · have e1 : put acc n = acc ++ [n] := if_neg q
    rw [e1]
    unfold put
    rw [Int.neg_neg, if_pos (by simp), List.dropLast_concat]
theorem put_put' {acc : List Int} (n : Int) (h : isRed acc = true) : put (put acc (-n)) n = acc := by
  have := put_put (-n) h
  rwa [Int.neg_neg] at this
theorem act_bck : ∀ (ws acc : List Int), isRed acc = true → act (ws ++ bck ws) acc = acc
  | [], acc, h => rfl
  | w :: ws, acc, h => by
    have e : bck (w :: ws) = bck ws ++ [-w] := by simp [bck]
    rw [List.cons_append, act_cons, e, ← List.append_assoc, act_app, act_bck ws (put acc w) (put_red h)]
    exact put_put w h
/-- a word and its reduced word put the same behind a reduced word -/
theorem act_put {b acc : List Int} (n : Int) (h : isRed acc = true) : act (put b n) acc = put (act b acc) n := by
  by_cases q : b.getLast? = some (-n)
  · have hne : b ≠ [] := by intro z; rw [z] at q; cases q
    have e1 : put b n = b.dropLast := if_pos q
    rw [List.getLast?_eq_getLast hne] at q
    have e2 := List.dropLast_concat_getLast hne
    rw [Option.some.inj q] at e2
    rw [e1]
    conv => rhs; rw [← e2]
    rw [act_app, act_cons, act_nil]
    exact (put_put' n (act_red h)).symm
  · have e1 : put b n = b ++ [n] := if_neg q
    rw [e1, act_app]
    rfl
theorem act_foldl : ∀ (ws b acc : List Int), isRed acc = true → act (ws.foldl put b) acc = act ws (act b acc)
  | [], b, acc, h => rfl
  | w :: ws, b, acc, h => by
    rw [List.foldl_cons, act_foldl ws (put b w) acc h, act_put w h]
    rfl
theorem act_of_red (ws : List Int) {acc : List Int} (h : isRed acc = true) : act (red ws) acc = act ws acc := act_foldl ws [] acc h
/-- the same word but for pairs -/
def Eqv (a b : List Int) : Prop := red a = red b
theorem Eqv.act {a b : List Int} (h : Eqv a b) {acc : List Int} (hr : isRed acc = true) : act a acc = act b acc := by
  rw [← act_of_red a hr, ← act_of_red b hr, h]
theorem Eqv.refl (a : List Int) : Eqv a a := rfl
theorem Eqv.symm {a b : List Int} (h : Eqv a b) : Eqv b a := Eq.symm h
theorem Eqv.trans {a b c : List Int} (h : Eqv a b) (k : Eqv b c) : Eqv a c := Eq.trans h k
theorem Eqv.app {a b c d : List Int} (h : Eqv a b) (k : Eqv c d) : Eqv (a ++ c) (b ++ d) := by
  unfold Eqv
  rw [red_act, red_act, act_app, act_app]
  have e1 : PY.act a [] = PY.act b [] := h
  rw [e1]
  exact k.act (act_red rfl)
theorem Eqv.inv (a : List Int) : Eqv (a ++ bck a) [] := act_bck a [] rfl
theorem bck_bck (a : List Int) : bck (bck a) = a := by
  unfold bck
  rw [← List.map_reverse, List.reverse_reverse, List.map_map]
  conv => rhs; rw [← List.map_id a]
  exact List.map_congr_left fun x _ => by simp
theorem bck_app (a b : List Int) : bck (a ++ b) = bck b ++ bck a := by simp [bck]
theorem Eqv.inv' (a : List Int) : Eqv (bck a ++ a) [] := by
  have := Eqv.inv (bck a)
  rwa [bck_bck] at this
theorem Eqv.red (a : List Int) : Eqv (red a) a := red_red a
theorem Eqv.bck {a b : List Int} (h : Eqv a b) : Eqv (bck a) (bck b) := by
  have h1 : Eqv (PY.bck a ++ (b ++ PY.bck b)) (PY.bck a ++ []) := (Eqv.refl _).app (Eqv.inv b)
  have h2 : Eqv (PY.bck a ++ b ++ PY.bck b) (PY.bck a ++ a ++ PY.bck b) := ((Eqv.refl _).app h.symm).app (Eqv.refl _)
  have h3 : Eqv (PY.bck a ++ a ++ PY.bck b) ([] ++ PY.bck b) := (Eqv.inv' a).app (Eqv.refl _)
  rw [List.append_nil, ← List.append_assoc] at h1
  rw [List.nil_append] at h3
  exact h1.symm.trans (h2.trans h3)
theorem Eqv.mid (a c : List Int) {b : List Int} (h : Eqv b []) : Eqv (a ++ b ++ c) (a ++ c) := by
  have := ((Eqv.refl a).app h).app (Eqv.refl c)
  rwa [List.append_nil] at this
theorem Eqv.pair (n : Int) : Eqv [n, -n] [] := by
  have := Eqv.inv [n]
  exact this
/-- a pair is taken away -/
theorem red_cut {w : List Int} {at_ : Nat} {a : Int} (h1 : w[at_]? = some a) (h2 : w[at_ + 1]? = some (-a)) : red (w.take at_ ++ w.drop (at_ + 2)) = red w := by
  obtain ⟨l1, e1⟩ := List.getElem?_eq_some_iff.mp h1
  obtain ⟨l2, e2⟩ := List.getElem?_eq_some_iff.mp h2
  have e : w = w.take at_ ++ [a, -a] ++ w.drop (at_ + 2) := by
    conv => lhs; rw [← List.take_append_drop at_ w, List.drop_eq_getElem_cons l1, List.drop_eq_getElem_cons l2, e1, e2]
    simp
  conv => rhs; rw [e]
  exact (Eqv.mid _ _ (Eqv.pair a)).symm
theorem red_ins (w : List Int) (k : Nat) (n : Int) : red (w.take k ++ [n, -n] ++ w.drop k) = red w := by
  have := Eqv.mid (w.take k) (w.drop k) (Eqv.pair n)
  rwa [List.take_append_drop] at this
end PY
set_option maxHeartbeats 4000000
/-! LibI: lists of words. -/
namespace PY
open PySem L2
def dL (wss : List (List Int)) : List D := wss.map L
def mL (wss : List (List Int)) : List O := wss.map fun w => .frz (L w)
theorem dL_nil : dL [] = [] := rfl
theorem mL_nil : mL [] = [] := rfl
theorem dL_cons (w : List Int) (wss : List (List Int)) : dL (w :: wss) = L w :: dL wss := rfl
@[simp] theorem ds_mL : ∀ wss : List (List Int), O.ds (mL wss) = dL wss
  | [] => rfl
  | w :: ws => by show L w :: O.ds (mL ws) = _; rw [ds_mL ws]; rfl
@[simp] theorem mL_snoc (wss : List (List Int)) (a : List Int) : mL wss ++ [O.frz (.list (dI a))] = mL (wss ++ [a]) := by simp [mL]
@[simp] theorem mL_one (a : List Int) : [O.frz (.list (dI a))] = mL [a] := Eq.trans rfl rfl
@[simp] theorem mL_app (a b : List (List Int)) : mL a ++ mL b = mL (a ++ b) := by simp [mL]
@[simp] theorem dL_app (a b : List (List Int)) : dL a ++ dL b = dL (a ++ b) := by simp [dL]
@[simp] theorem dL_len (a : List (List Int)) : (dL a).length = a.length := by simp [dL]
@[simp] theorem mL_len (a : List (List Int)) : (mL a).length = a.length := by simp [mL]
@[simp] theorem map_frz_dL (a : List (List Int)) : (dL a).map O.frz = mL a := by simp [dL, mL, Function.comp_def]
@[simp] theorem mkL_dL (a : List (List Int)) : mkL (dL a) = .own (.own (mL a)) := by unfold mkL; rw [map_frz_dL]
@[simp] theorem all_mL : ∀ a : List (List Int), (mL a).all O.isFrz = true
  | [] => rfl
  | w :: ws => by show (true && (mL ws).all O.isFrz) = true; rw [all_mL ws]; rfl
@[simp] theorem atI_dL (a : List (List Int)) (i : Int) : atI (dL a) i = (atI a i).map L := atI_map _ _ _
theorem lay_dL : ∀ a : List (List Int), PyData.canLayAll0 (dL a) = true
  | [] => by simp [dL, PyData.canLayAll0]
  | w :: ws => by rw [dL_cons]; simp [PyData.canLayAll0, PyData.canLay0, lay_dL ws, lay_dI]
theorem dep_dL : ∀ a : List (List Int), PyData.depthAll (dL a) ≤ 1
  | [] => by simp [dL, PyData.depthAll]
  | w :: ws => by
    have := dep_dL ws
    rw [dL_cons]
    simp [PyData.depthAll, PyData.depth, dep_dI]
    omega
@[simp] theorem shaped_dL (a : List (List Int)) : SeqAt.shaped (.list (dL a)) = true := by
  have := dep_dL a
  simp [SeqAt.shaped, PyData.canLay0, PyData.depth, lay_dL]
  omega
theorem eqv_L (a b : List Int) : PyData.eqv (.list (dI a)) (.list (dI b)) = decide (a = b) := by simp only [PyData.eqv, eqvAll_dI]
theorem any_dL (a : List Int) : ∀ wss : List (List Int), ((dL wss).any fun y => PyData.eqv y (.list (dI a))) = wss.any fun y => decide (y = a)
  | [] => rfl
  | w :: ws => by
    rw [dL_cons, List.any_cons, List.any_cons, any_dL a ws]
    congr 1
    exact eqv_L w a
@[simp] theorem notin_dL (a : List Int) (wss : List (List Int)) : cmpV .NotIn (.list (dI a)) (.list (dL wss)) = some (!wss.any fun y => decide (y = a)) := by
  show (if SeqAt.shaped (.list (dI a)) = true ∧ SeqAt.shaped (.list (dL wss)) = true then some (!(dL wss).any fun y => PyData.eqv y (.list (dI a))) else none) = _
  rw [if_pos ⟨shaped_dI a, shaped_dL wss⟩, any_dL]
@[simp] theorem in_dL (a : List Int) (wss : List (List Int)) : cmpV .In (.list (dI a)) (.list (dL wss)) = some (wss.any fun y => decide (y = a)) := by
  show (if SeqAt.shaped (.list (dI a)) = true ∧ SeqAt.shaped (.list (dL wss)) = true then some ((dL wss).any fun y => PyData.eqv y (.list (dI a))) else none) = _
  rw [if_pos ⟨shaped_dI a, shaped_dL wss⟩, any_dL]
theorem eqvAll_dL : ∀ a b : List (List Int), PyData.eqvAll (dL a) (dL b) = decide (a = b)
  | [], [] => by simp [dL, PyData.eqvAll]
  | [], v :: vs => by simp [dL, PyData.eqvAll]
  | w :: ws, [] => by simp [dL, PyData.eqvAll]
  | w :: ws, v :: vs => by
    rw [dL_cons, dL_cons]
    simp only [PyData.eqvAll, eqv_L, eqvAll_dL ws vs, List.cons.injEq]
    by_cases h : w = v <;> simp [h]
@[simp] theorem eqD_dL (ws vs : List (List Int)) : eqD (.list (dL ws)) (.list (dL vs)) = some (decide (ws = vs)) := by
  show (if SeqAt.shaped (.list (dL ws)) = true ∧ SeqAt.shaped (.list (dL vs)) = true then some (PyData.eqv (.list (dL ws)) (.list (dL vs))) else none) = _
  rw [if_pos ⟨shaped_dL ws, shaped_dL vs⟩]
  simp only [PyData.eqv, eqvAll_dL]
@[simp] theorem eqD_dL0 (ws : List (List Int)) : eqD (.list (dL ws)) (.list []) = some (decide (ws = [])) := eqD_dL ws []
theorem add_L {xs ys : List (List Int)} (h : xs.length + ys.length < 1000000) : binV .Add (.list (dL xs)) (.list (dL ys)) = some (.own (.own (mL (xs ++ ys)))) := by
  rw [binV_addl, if_pos (by rw [dL_len, dL_len]; exact line_le h), dL_app, mkL_dL]
theorem add_L1 {x : List Int} {ys : List (List Int)} (h : 1 + ys.length < 1000000) : binV .Add (.list [L x]) (.list (dL ys)) = some (.own (.own (mL ([x] ++ ys)))) := add_L (xs := [x]) (by simpa using h)
theorem tm2_same {a : Ev} {env : Env} {r : R} {b : Bool} (h : a env = some (r, env)) : tm2 a env r b = some (r, env) := by
  cases b
  · exact h
  · rfl
/-! ### pairs -/
def prsGo (w : List Int) : Nat → Nat → List Int
  | _, 0 => []
  | k, m + 1 => if w[k]? = w[k + 1]?.map (-·) then (k : Int) :: prsGo w (k + 1) m else prsGo w (k + 1) m
def prs (w : List Int) : List Int := prsGo w 0 (w.length - 1)
theorem prsGo_len (w : List Int) : ∀ m k, (prsGo w k m).length ≤ m
  | 0, k => by simp [prsGo]
  | m + 1, k => by
    have := prsGo_len w m (k + 1)
    unfold prsGo
    split
    · simp; omega
    · omega
theorem prs_len (w : List Int) : (prs w).length ≤ w.length - 1 := prsGo_len w _ _
theorem prsGo_mem (w : List Int) : ∀ m k, k + m < w.length → ∀ p ∈ prsGo w k m, ∃ (j : Nat) (a : Int), p = j ∧ w[j]? = some a ∧ w[j + 1]? = some (-a)
  | 0, k, h, p, hp => by cases hp
  | m + 1, k, h, p, hp => by
    unfold prsGo at hp
    split at hp
    · rename_i q
      rcases List.mem_cons.mp hp with rfl | hp
      · have e1 : w[k + 1]? = some w[k + 1] := List.getElem?_eq_getElem (by omega)
        rw [e1] at q
        exact ⟨k, -w[k + 1], rfl, q, by rw [e1, Int.neg_neg]⟩
      · exact prsGo_mem w m (k + 1) (by omega) p hp
    · exact prsGo_mem w m (k + 1) (by omega) p hp
theorem prs_mem {w : List Int} {p : Int} (h : p ∈ prs w) : ∃ (j : Nat) (a : Int), p = j ∧ w[j]? = some a ∧ w[j + 1]? = some (-a) := by
  by_cases q : w.length = 0
  · unfold prs at h; rw [q] at h; cases h
  · exact prsGo_mem w _ 0 (by omega) p h
theorem prsGo_nil (w : List Int) : ∀ m k, prsGo w k m = [] → ∀ j, k ≤ j → j < k + m → w[j]? ≠ w[j + 1]?.map (-·)
  | 0, k, h, j, h1, h2 => by omega
  | m + 1, k, h, j, h1, h2 => by
    unfold prsGo at h
    split at h
    · cases h
    · rename_i q
      by_cases z : j = k
      · rw [z]; exact q
      · exact prsGo_nil w m (k + 1) h j (by omega) (by omega)
theorem prs_nil (w : List Int) : prs w = [] ↔ isRed w = true := by
  rw [isRed_iff]
  constructor
  · intro h i a b ha hb q
    have hi : i + 1 < w.length := (List.getElem?_eq_some_iff.mp hb).1
    apply prsGo_nil w _ 0 h i (by omega) (by omega)
    rw [ha, hb, q]
    simp
  · intro h
    cases e : prs w with
    | nil => rfl
    | cons p ps =>
      obtain ⟨j, a, _, h1, h2⟩ := prs_mem (w := w) (p := p) (by rw [e]; exact List.mem_cons_self)
      exact absurd rfl (h j a (-a) h1 h2)
end PY
set_option maxHeartbeats 4000000
/-! LibJ: cores of conjugates. -/
namespace PY
open PySem L2
/-! ### hidden cores, plainly -/
section
variable {front core : List Int}
theorem hid_len : (front ++ core ++ bck front).length = 2 * front.length + core.length := by
  rw [List.length_append, List.length_append, bck_len]; omega
theorem hid_left {j : Nat} (h : j < front.length) : (front ++ core ++ bck front)[j]? = front[j]? := by
  rw [List.append_assoc, List.getElem?_append_left h]
theorem hid_mid {j : Nat} (h : j < core.length) : (front ++ core ++ bck front)[front.length + j]? = core[j]? := by
  rw [List.append_assoc, List.getElem?_append_right (by omega), List.getElem?_append_left (by omega)]
  congr 1; omega
theorem hid_right {j : Nat} (h : j < front.length) : (front ++ core ++ bck front)[2 * front.length + core.length - 1 - j]? = front[j]?.map (-·) := by
  rw [List.getElem?_append_right (by rw [List.length_append]; omega), List.length_append, bck_get (by omega)]
  congr 2
  omega
theorem hid_flc {j : Nat} (h : j < front.length) (hc : core ≠ []) : flc (front ++ core ++ bck front) j = true := by
  have hl : 0 < core.length := List.length_pos_iff.mpr hc
  unfold flc
  rw [hid_len, hid_left h, hid_right h]
  have e1 : front[j]? = some front[j] := List.getElem?_eq_getElem h
  simp [e1]
  omega
theorem hid_flc2 (hc : core ≠ []) (h : core.head? ≠ core.getLast?.map (-·)) : flc (front ++ core ++ bck front) front.length = false := by
  have hl : 0 < core.length := List.length_pos_iff.mpr hc
  have e1 : (front ++ core ++ bck front)[front.length]? = core.head? := by
    have := hid_mid (front := front) (core := core) (j := 0) hl
    rw [List.head?_eq_getElem?]
    exact this
  have e2 : (front ++ core ++ bck front)[2 * front.length + core.length - 1 - front.length]? = core.getLast? := by
    have := hid_mid (front := front) (core := core) (j := core.length - 1) (by omega)
    rw [List.getLast?_eq_getElem?, ← this]
    congr 1; omega
  unfold flc
  rw [hid_len, e1, e2]
  simp [h]
theorem hid_fl (hl : (front ++ core ++ bck front).length < 900000) (hc : core ≠ []) (h : core.head? ≠ core.getLast?.map (-·)) : fl (front ++ core ++ bck front) = front.length :=
  fl_unique hl (fun j hj => hid_flc hj hc) (hid_flc2 hc h)
theorem hid_take : (front ++ core ++ bck front).take front.length = front := by
  rw [List.append_assoc, List.take_append_of_le_length (Nat.le_refl _), List.take_length]
theorem hid_midW : midW (front ++ core ++ bck front) front.length = core := by
  unfold midW
  rw [hid_len, List.append_assoc, List.drop_left, show 2 * front.length + core.length - 2 * front.length = core.length by omega, List.take_left]
theorem hid_core (hr : isRed (front ++ core ++ bck front) = true) (hc : core ≠ []) (h : core.head? ≠ core.getLast?.map (-·)) : isCore (front ++ core ++ bck front) = decide (front = []) := by
  unfold isCore
  rw [hr, Bool.true_and]
  have hl : 0 < core.length := List.length_pos_iff.mpr hc
  cases front with
  | nil =>
    have : headOk core = true := by
      unfold headOk
      have : ¬ core.getLast? = core.head?.map (-·) := fun z => by
        apply h
        rw [z, Option.map_map]
        cases core.head? with
        | none => rfl
        | some x => simp
      simp [this]
    simpa [bck] using this
  | cons a r =>
    have e1 : ((a :: r) ++ core ++ bck (a :: r)).getLast? = some (-a) := by
      have : bck (a :: r) = bck r ++ [-a] := by simp [bck]
      rw [this, ← List.append_assoc, List.getLast?_append]
      rfl
    unfold headOk
    rw [e1]
    simp
end

def core (w : List Int) : List Int := midW (red w) (fl (red w))
def front (w : List Int) : List Int := (red w).take (fl (red w))
theorem core_len (w : List Int) : (core w).length ≤ w.length := by
  unfold core; rw [midW_len]; have := red_len w; omega
theorem front_len (w : List Int) : (front w).length ≤ w.length := by
  unfold front; rw [List.length_take]; have := red_len w; omega
theorem parts {w : List Int} (h : w.length < 900000) : front w ++ core w ++ bck (front w) = red w :=
  fl_parts _ (fl_spec (by have := red_len w; omega)).1 (fl_le2 (by have := red_len w; omega))
theorem core_isCore {w : List Int} (hz : nz w) (h : w.length < 900000) : isCore (core w) = true := mid_core (red_isRed w) (nz_red hz) (by have := red_len w; omega)
theorem Wd_core {l : Int} {w : List Int} (h : Wd l w) : Wd l (core w) := Wd_take _ (Wd_drop _ (Wd_red h))
theorem Wd_front {l : Int} {w : List Int} (h : Wd l w) : Wd l (front w) := Wd_take _ (Wd_red h)
theorem core_of_parts {w f c : List Int} (hl : w.length < 900000) (h : red w = f ++ c ++ bck f) (hc : c ≠ []) (hne : c.head? ≠ c.getLast?.map (-·)) : front w = f ∧ core w = c := by
  have hlen := red_len w
  have e := hid_fl (front := f) (core := c) (by rw [← h]; omega) hc hne
  unfold front core
  rw [h, e]
  exact ⟨hid_take, hid_midW⟩
theorem ne_of_isCore {c : List Int} (h : isCore c = true) (hc : c ≠ []) : c.head? ≠ c.getLast?.map (-·) := by
  unfold isCore headOk at h
  rw [Bool.and_eq_true, Bool.or_eq_true, decide_eq_true_eq] at h
  rcases h.2 with q | q
  · exact absurd (List.length_eq_zero_iff.mp q) hc
  · intro z
    rw [Bool.not_eq_true', decide_eq_false_iff_not] at q
    apply q
    rw [z, Option.map_map]
    cases c.getLast? with
    | none => rfl
    | some x => simp
theorem core_of_core {w c : List Int} (hl : w.length < 900000) (h : red w = c) (hc : isCore c = true) : core w = c := by
  by_cases q : c = []
  · subst q
    unfold core
    rw [h]
    rfl
  · exact (core_of_parts (f := []) hl (by simpa [bck] using h) q (ne_of_isCore hc q)).2
/-! ### turned words -/
def IsRot (a b : List Int) : Prop := ∃ u v, a = u ++ v ∧ b = v ++ u
theorem IsRot.refl (a : List Int) : IsRot a a := ⟨[], a, rfl, by simp⟩
theorem IsRot.trans {a b c : List Int} (h : IsRot a b) (k : IsRot b c) : IsRot a c := by
  obtain ⟨u, v, rfl, rfl⟩ := h
  obtain ⟨p, q, e, rfl⟩ := k
  rcases List.append_eq_append_iff.mp e with ⟨s, rfl, rfl⟩ | ⟨s, rfl, rfl⟩
  · exact ⟨s, q ++ v, by simp, by simp⟩
  · exact ⟨u ++ p, s, by simp, by simp⟩
theorem isRed_tail {a : Int} {r : List Int} (h : isRed (a :: r) = true) : isRed r = true := isRed_drop' 1 h
theorem isRed_cons {a : Int} {r : List Int} (h : isRed r = true) (h2 : r.head? ≠ some (-a)) : isRed (a :: r) = true := by
  cases r with
  | nil => rfl
  | cons b r =>
    show (decide (b ≠ -a) && isRed (b :: r)) = true
    rw [h, Bool.and_true, decide_eq_true_eq]
    intro q
    apply h2
    rw [q]
    rfl
theorem isRed_head {a b : Int} {r : List Int} (h : isRed (a :: b :: r) = true) : b ≠ -a := by
  have : (decide (b ≠ -a) && isRed (b :: r)) = true := h
  rw [Bool.and_eq_true, decide_eq_true_eq] at this
  exact this.1
theorem front_nil {w : List Int} (hl : w.length < 900000) (h : core w = []) : front w = [] := by
  have e := parts hl
  rw [h, List.append_nil] at e
  cases q : front w with
  | nil => rfl
  | cons a r =>
    exfalso
    have hr := red_isRed w
    rw [← e] at hr
    have hl2 : 0 < (front w).length := by rw [q]; simp
    have e1 : (front w)[(front w).length - 1]? = some (front w)[(front w).length - 1] := List.getElem?_eq_getElem (by omega)
    have := (isRed_iff _).mp hr ((front w).length - 1) (front w)[(front w).length - 1] (-(front w)[(front w).length - 1]) (by rw [List.getElem?_append_left (by omega)]; exact e1) (by
      rw [List.getElem?_append_right (by omega), show (front w).length - 1 + 1 - (front w).length = 0 by omega, bck_get (by omega), show (front w).length - 1 - 0 = (front w).length - 1 by omega, e1]
      rfl)
    exact this rfl
theorem head_app {a : Int} {r c : List Int} : (a :: r ++ c).head? = some a := rfl
/-- one number in front, its opposite behind -/
theorem core_conj1 (x : Int) (w : List Int) (hx : x ≠ 0) (hz : nz w) (hl : w.length < 800000) : IsRot (core w) (core (x :: w ++ [-x])) := by
  have hlen : (x :: w ++ [-x]).length < 900000 := by simp; omega
  have hp := parts (w := w) (by omega)
  have hic := core_isCore hz (by omega)
  have hrw := red_isRed w
  have E : Eqv (x :: w ++ [-x]) ([x] ++ (front w ++ core w ++ bck (front w)) ++ [-x]) := by
    have h1 : Eqv w (front w ++ core w ++ bck (front w)) := by rw [hp]; exact (Eqv.red w).symm
    exact ((Eqv.refl [x]).app h1).app (Eqv.refl [-x])
  by_cases hc0 : core w = []
  · have hf0 := front_nil (by omega) hc0
    rw [hc0, hf0] at E
    have : core (x :: w ++ [-x]) = [] := core_of_core hlen (E.trans (Eqv.pair x)) rfl
    rw [hc0, this]
    exact .refl _
  · have hne := ne_of_isCore hic hc0
    cases hf : front w with
    | cons a f =>
      rw [hf] at hp E
      have eb : bck (a :: f) = bck f ++ [-a] := by simp [bck]
      by_cases hax : a = -x
      · subst hax
        have hr : isRed (f ++ core w ++ bck f) = true := by
          have h1 : isRed (-x :: (f ++ core w ++ bck f ++ [x])) = true := by
            have := hrw
            rw [← hp, eb] at this
            simpa using this
          have h2 := isRed_take (f ++ core w ++ bck f).length (isRed_tail h1)
          rwa [List.take_left] at h2
        have E2 : red (x :: w ++ [-x]) = f ++ core w ++ bck f := by
          have h1 : Eqv ([x, -x] ++ (f ++ core w ++ bck f) ++ [x, -x]) ([] ++ (f ++ core w ++ bck f) ++ []) := ((Eqv.pair x).app (Eqv.refl _)).app (Eqv.pair x)
          have h2 : Eqv ([x] ++ (-x :: f ++ core w ++ bck (-x :: f)) ++ [-x]) (f ++ core w ++ bck f) := by
            rw [eb]
            simpa using h1
          exact Eq.trans (E.trans h2) (red_of_isRed hr)
        rw [(core_of_parts hlen E2 hc0 hne).2]
        exact .refl _
      · have hr : isRed ((x :: a :: f) ++ core w ++ bck (x :: a :: f)) = true := by
          have h1 : isRed (x :: (red w)) = true := isRed_cons hrw (by rw [← hp]; simpa using fun q => hax q)
          have h2 : isRed (x :: (red w) ++ [-x]) = true := isRed_snoc h1 (by
            rw [← hp, eb]
            have : (x :: (a :: f ++ core w ++ (bck f ++ [-a]))).getLast? = some (-a) := by
              rw [← List.append_assoc, ← List.cons_append, List.getLast?_append]
              rfl
            rw [this]
            simp; omega)
          have e3 : bck (x :: a :: f) = bck (a :: f) ++ [-x] := by simp [bck]
          rw [e3, ← hp] at *
          simpa using h2
        have E2 : red (x :: w ++ [-x]) = (x :: a :: f) ++ core w ++ bck (x :: a :: f) := by
          rw [E]
          have e3 : bck (x :: a :: f) = bck (a :: f) ++ [-x] := by simp [bck]
          rw [e3] at hr ⊢
          have := red_of_isRed hr
          simpa using this
        rw [(core_of_parts hlen E2 hc0 hne).2]
        exact .refl _
    | nil =>
      rw [hf] at hp E
      have hcr : isRed (core w) = true := by
        unfold isCore at hic
        rw [Bool.and_eq_true] at hic
        exact hic.1
      have E : Eqv (x :: w ++ [-x]) ([x] ++ core w ++ [-x]) := by simpa [bck] using E
      generalize core w = c at *
      by_cases h1 : c.head? = some (-x)
      · obtain ⟨r, rfl⟩ : ∃ r, c = -x :: r := by
          cases c with
          | nil => cases h1
          | cons a r => cases h1; exact ⟨r, rfl⟩
        have hlast : r.getLast? ≠ some x := fun q => by
          apply hne
          rw [List.getLast?_cons, q]
          simp
        have hr : isRed (r ++ [-x]) = true := isRed_snoc (isRed_tail hcr) (by rw [Int.neg_neg]; exact hlast)
        have hco : isCore (r ++ [-x]) = true := by
          unfold isCore headOk
          rw [hr, Bool.true_and]
          cases r with
          | nil => simp; omega
          | cons b r =>
            have h4 := isRed_head hcr
            have e4 : (b :: r ++ [-x]).getLast? = some (-x) := by rw [List.getLast?_append]; rfl
            rw [e4]
            show (_ || !decide (some (-x) = some (-b))) = true
            have h5 : ¬ (-x = -b) := by omega
            simp [h5]
        have E2 : red (x :: w ++ [-x]) = r ++ [-x] := by
          have h3 : Eqv ([x] ++ -x :: r ++ [-x]) (r ++ [-x]) := by
            have := (Eqv.pair x).app (Eqv.refl (r ++ [-x]))
            simpa using this
          exact Eq.trans (E.trans h3) (red_of_isRed hr)
        rw [core_of_core hlen E2 hco]
        exact ⟨[-x], r, rfl, rfl⟩
      · by_cases h2 : c.getLast? = some x
        · obtain ⟨r, rfl⟩ : ∃ r, c = r ++ [x] := by
            have hne' : c ≠ [] := hc0
            rw [List.getLast?_eq_getLast hne'] at h2
            exact ⟨c.dropLast, by rw [← Option.some.inj h2]; exact (List.dropLast_concat_getLast hne').symm⟩
          have hrr : isRed r = true := by
            have := isRed_take r.length hcr
            simpa using this
          have hhead : r.head? ≠ some (-x) := fun q => by
            apply h1
            cases r with
            | nil => cases q
            | cons b r => exact q
          have hr : isRed (x :: r) = true := isRed_cons hrr hhead
          have hco : isCore (x :: r) = true := by
            unfold isCore headOk
            rw [hr, Bool.true_and]
            have hl3 : (x :: r).getLast? ≠ some (-x) := fun q => by
              cases r with
              | nil => simp at q; omega
              | cons b r =>
                have hne3 : b :: r ≠ [] := by simp
                rw [List.getLast?_cons_cons] at q
                have h3 := last_ne (acc := b :: r ++ [x]) (n := -x) hcr (by rw [Int.neg_neg]; exact h2)
                rw [List.dropLast_concat] at h3
                exact h3 q
            simp only [List.head?_cons, Option.map_some]
            simp [hl3]
          have E2 : red (x :: w ++ [-x]) = x :: r := by
            have h3 : Eqv ([x] ++ (r ++ [x]) ++ [-x]) (x :: r) := by
              have := (Eqv.refl (x :: r)).app (Eqv.pair x)
              simpa using this
            exact Eq.trans (E.trans h3) (red_of_isRed hr)
          rw [core_of_core hlen E2 hco]
          exact ⟨r, [x], rfl, rfl⟩
        · have hr1 : isRed (x :: c) = true := isRed_cons hcr h1
          have hr : isRed ([x] ++ c ++ [-x]) = true := isRed_snoc hr1 (by
            rw [Int.neg_neg]
            cases c with
            | nil => exact absurd rfl hc0
            | cons b r => rw [show [x] ++ b :: r = x :: b :: r from rfl, List.getLast?_cons_cons]; exact h2)
          have E2 : red (x :: w ++ [-x]) = [x] ++ c ++ bck [x] := Eq.trans E (red_of_isRed hr)
          rw [(core_of_parts hlen E2 hc0 hne).2]
          exact .refl _
theorem core_conj : ∀ (t w : List Int), nz t → nz w → w.length + 2 * t.length < 700000 → IsRot (core w) (core (t ++ w ++ bck t))
  | [], w, _, _, _ => by simpa [bck] using IsRot.refl _
  | x :: t, w, ht, hw, hl => by
    have ih := core_conj t w (fun v m => ht v (List.mem_cons_of_mem _ m)) hw (by simp at hl ⊢; omega)
    have hb : nz (bck t) := fun v m => by
      unfold bck at m
      obtain ⟨u, mu, rfl⟩ := List.mem_map.mp m
      have := ht u (List.mem_cons_of_mem _ (List.mem_reverse.mp mu))
      omega
    have hz : nz (t ++ w ++ bck t) := fun v m => by
      rcases List.mem_append.mp m with m | m
      · rcases List.mem_append.mp m with m | m
        · exact ht v (List.mem_cons_of_mem _ m)
        · exact hw v m
      · exact hb v m
    have h1 := core_conj1 x (t ++ w ++ bck t) (ht x List.mem_cons_self) hz (by simp at hl ⊢; omega)
    have e : x :: t ++ w ++ bck (x :: t) = x :: (t ++ w ++ bck t) ++ [-x] := by simp [bck]
    rw [e]
    exact ih.trans h1
end PY
set_option maxHeartbeats 4000000
/-! LibK: products, turns, words looked at, fresh copies. -/
namespace PY
open PySem L2
theorem add_lA {xs ys : List Int} (h : xs.length ≤ 100000) (k : ys.length ≤ 100000) : binV .Add (.list (dI xs)) (.list (dI ys)) = some (.own (ow (xs ++ ys))) := add_l (by omega)
def rot (c : List Int) (k : Nat) : List Int := c.drop k ++ c.take k
theorem rot_len (c : List Int) (k : Nat) : (rot c k).length = c.length := by unfold rot; simp; omega
def rotsGo (c : List Int) : Nat → Nat → List (List Int)
  | _, 0 => []
  | k, m + 1 => rot c k :: rotsGo c (k + 1) m
def rots (c : List Int) : List (List Int) := rotsGo c 0 (max 1 c.length)
theorem mem_rotsGo {c x : List Int} : ∀ {m k : Nat}, x ∈ rotsGo c k m ↔ ∃ j, k ≤ j ∧ j < k + m ∧ x = rot c j
  | 0, k => by
    constructor
    · intro h; cases h
    · rintro ⟨j, h1, h2, _⟩; omega
  | m + 1, k => by
    show x ∈ rot c k :: rotsGo c (k + 1) m ↔ _
    rw [List.mem_cons, mem_rotsGo]
    constructor
    · rintro (h | ⟨j, h1, h2, h3⟩)
      · exact ⟨k, by omega, by omega, h⟩
      · exact ⟨j, by omega, by omega, h3⟩
    · rintro ⟨j, h1, h2, h3⟩
      by_cases q : j = k
      · rw [q] at h3; exact .inl h3
      · exact .inr ⟨j, by omega, by omega, h3⟩
theorem mem_rots {c x : List Int} : x ∈ rots c ↔ ∃ j, j < max 1 c.length ∧ x = rot c j := by
  unfold rots
  rw [mem_rotsGo]
  constructor
  · rintro ⟨j, _, h, e⟩; exact ⟨j, by omega, e⟩
  · rintro ⟨j, h, e⟩; exact ⟨j, by omega, by omega, e⟩
theorem isRot_rots {c x : List Int} (h : IsRot c x) : x ∈ rots c := by
  obtain ⟨u, v, rfl, rfl⟩ := h
  rw [mem_rots]
  by_cases q : v = []
  · subst q
    exact ⟨0, by omega, by simp [rot]⟩
  · have : 0 < v.length := List.length_pos_iff.mpr q
    exact ⟨u.length, by rw [List.length_append]; omega, by unfold rot; rw [List.drop_left, List.take_left]⟩
theorem rots_isRot {c x : List Int} (h : x ∈ rots c) : IsRot c x := by
  obtain ⟨j, _, rfl⟩ := mem_rots.mp h
  exact ⟨c.take j, c.drop j, (List.take_append_drop j c).symm, rfl⟩
/-- a fresh list of fresh words -/
def mO (wss : List (List Int)) : List O := wss.map fun w => ow w
theorem mO_nil : mO [] = [] := rfl
@[simp] theorem ds_mO : ∀ wss : List (List Int), O.ds (mO wss) = dL wss
  | [] => rfl
  | w :: ws => by
    show (ow w).d :: O.ds (mO ws) = _
    rw [ds_mO ws, Od_own, ds_mI]
    rfl
theorem mO_snoc (wss : List (List Int)) (a : List Int) : mO wss ++ [ow a] = mO (wss ++ [a]) := by simp [mO]
@[simp] theorem mO_len (a : List (List Int)) : (mO a).length = a.length := by simp [mO]
@[simp] theorem selfs_mO : ∀ a : List (List Int), O.selfs (mO a) = true
  | [] => rfl
  | w :: ws => by
    show ((ow w).self && O.selfs (mO ws)) = true
    rw [selfs_mO ws, self_own, selfs_mI]
    rfl
section
variable (call : Cal)
theorem R_product (a b : List Int) (ha : a.length ≤ 100000) (hb : b.length ≤ 100000) (h : call "reduced" [L (a ++ b)] = some (ow (red (a ++ b)))) : outO (b_product call [some (.frz (L a)), some (.frz (L b))]) = some (ow (red (a ++ b))) := by
  rw [ba_product]
  simp [add_lA ha hb, h]
theorem round_loop (W : PyData) : ∀ (ws acc : List Int), acc.length + ws.length < 1000000 → lcGo [1] (.one 1) tTrue (l_turned_round_1 call) (dI ws) [some (.frz W), none] (mI acc) = some (mI (acc ++ ws.map (-·)), [some (.frz W), none])
  | [], acc, h => by simp [dI_nil, lcGo_nil]
  | w :: ws, acc, h => by
    have hz : acc.length < sizeLine := line_lt (by omega)
    have := round_loop W ws (acc ++ [-w]) (by simp at h ⊢; omega)
    rw [dI_cons, lcGo_cons]
    simp [hz, this]
theorem R_turned_round (ws : List Int) (h : ws.length < 1000000) : outO (b_turned_round call [some (.frz (L ws)), none]) = some (ow (bck ws)) := by
  have e := round_loop call (L ws) ws.reverse [] (by simpa using h)
  rw [ba_turned_round]
  simp [← mI_nil, e, bck]
theorem R_opposite (ws : List Int) (h : call "turned_round" [L ws] = some (ow (bck ws))) (h2 : call "reduced" [L (bck ws)] = some (ow (red (bck ws)))) : outO (b_opposite call [some (.frz (L ws))]) = some (ow (red (bck ws))) := by
  rw [ba_opposite]
  simp [h, h2]
theorem R_put_back (ws : List Int) (k : Nat) (h : ws.length ≤ 100000) : outO (b_put_back call [some (.frz (L ws)), some (.frz (.int (k : Nat)))]) = some (ow (rot ws k)) := by
  have ct : cutI ws none (some (k : Int)) = ws.take k := by rw [cut_to (by omega), Int.toNat_natCast]
  have cf : cutI ws (some (k : Int)) none = ws.drop k := by rw [cut_from (by omega), Int.toNat_natCast]
  rw [ba_put_back]
  simp [ct, cf, add_lA (xs := ws.drop k) (ys := ws.take k) (by simp; omega) (by simp; omega), rot]
theorem turns_loop (c : List Int) (hc : c.length ≤ 100000) : ∀ (m k : Nat) (acc : List (List Int)), k + m ≤ 200000 → acc.length ≤ k → lcGo [1] (.one 1) tTrue (l_f_law_turns_1 call) (rangeD (k : Int) m) [some (.frz (L c)), none] (mO acc) = some (mO (acc ++ rotsGo c k m), [some (.frz (L c)), none])
  | 0, k, acc, h, ha => by simp [rangeD_zero, lcGo_nil, rotsGo]
  | m + 1, k, acc, h, ha => by
    have hz : acc.length < sizeLine := line_lt (by omega)
    have e := turns_loop c hc m (k + 1) (acc ++ [rot c k]) (by omega) (by simp; omega)
    have ct : cutI c none (some (k : Int)) = c.take k := by rw [cut_to (by omega), Int.toNat_natCast]
    have cf : cutI c (some (k : Int)) none = c.drop k := by rw [cut_from (by omega), Int.toNat_natCast]
    have er : rotsGo c k (m + 1) = rot c k :: rotsGo c (k + 1) m := rfl
    rw [show ((k + 1 : Nat) : Int) = (k : Int) + 1 by omega, ← mO_snoc] at e
    unfold rot at e
    rw [rangeD_succ, lcGo_cons]
    simp [ct, cf, add_lA (xs := c.drop k) (ys := c.take k) (by simp; omega) (by simp; omega), hz, e, er, rot]
theorem R_turns (c : List Int) (hc : c.length ≤ 100000) : outO (b_f_law_turns call [some (.frz (L c)), none]) = some (.own (mO (rots c))) := by
  have e := turns_loop call c hc (max 1 c.length) 0 [] (by omega) (by simp)
  rw [show ((0 : Nat) : Int) = 0 from rfl, mO_nil] at e
  have em : (if (c.length : Int) > 1 then (c.length : Int) else 1) = ((max 1 c.length : Nat) : Int) := by split <;> omega
  have rk : Rk ((max 1 c.length : Nat) : Int) := Rk_of (by omega) (by omega)
  have et : (((max 1 c.length : Nat) : Int)).toNat = max 1 c.length := Int.toNat_natCast _
  rw [ba_f_law_turns]
  unfold rots
  generalize max 1 c.length = n at *
  have em' : (if 1 < c.length then (c.length : Int) else 1) = (n : Int) := by
    rw [← em]
    by_cases q : 1 < c.length
    · rw [if_pos q, if_pos (by omega)]
    · rw [if_neg q, if_neg (by omega)]
  have em2 : (if (1 : Int) < (c.length : Int) then (c.length : Int) else 1) = (n : Int) := em
  simp [em', em2, rk, e]
/-! ### words looked at -/
theorem word_look (l : Int) {V : PyData} (hn : ∀ i : Int, call "_law_is_number" [.int i] = some (.frz (.bool true))) : ∀ (ws : List Int) (y : Option O), Wd l ws → ∃ y', forGo (.one 2) (l_f_law_is_word_1 call) (dI ws) [some (.frz (.int l)), some (.frz V), y] = some (.next [some (.frz (.int l)), some (.frz V), y'])
  | [], y, h => ⟨y, rfl⟩
  | w :: ws, y, h => by
    obtain ⟨y', e⟩ := word_look l (V := V) hn ws (some (.frz (.int w))) fun u m => h u (List.mem_cons_of_mem _ m)
    obtain ⟨h1, h2, h3⟩ := h w List.mem_cons_self
    have h4 : ¬ (l < w) := by omega
    have h5 : ¬ (w < -l) := by omega
    refine ⟨y', ?_⟩
    rw [dI_cons, forGo_cons]
    simp [hn, h1, h4, h5, e]
theorem R_is_word (l : Int) (ws : List Int) (h : Wd l ws) (hn : ∀ i : Int, call "_law_is_number" [.int i] = some (.frz (.bool true))) : outO (b_f_law_is_word call [some (.frz (.int l)), some (.frz (L ws)), none]) = some (.frz (.bool true)) := by
  obtain ⟨y', e⟩ := word_look call l (V := L ws) hn ws none h
  have h1 : isInst "list" (L ws) = some true := rfl
  rw [ba_f_law_is_word]
  simp [h1, e]
/-! ### fresh copies -/
theorem R_fresh_int (i : Int) : outO (b_f_law_fresh call [some (.frz (.int i)), none]) = some (.frz (.int i)) := by
  have h1 : isInst "list" (.int i) = some false := rfl
  have h2 : isInst "tuple" (.int i) = some false := rfl
  rw [ba_f_law_fresh]
  simp [h1, h2]
theorem R_fresh_str (i : Str) : outO (b_f_law_fresh call [some (.frz (.str i)), none]) = some (.frz (.str i)) := by
  have h1 : isInst "list" (.str i) = some false := rfl
  have h2 : isInst "tuple" (.str i) = some false := rfl
  rw [ba_f_law_fresh]
  simp [h1, h2]
theorem fresh_loop (W : PyData) (hi : ∀ i : Int, call "_law_fresh" [.int i] = some (.frz (.int i))) : ∀ (ws acc : List Int), acc.length + ws.length < 1000000 → lcGo [1] (.one 1) tTrue (l_f_law_fresh_1 call) (dI ws) [some (.frz W), none] (mI acc) = some (mI (acc ++ ws), [some (.frz W), none])
  | [], acc, h => by simp [dI_nil, lcGo_nil]
  | w :: ws, acc, h => by
    have hz : acc.length < sizeLine := line_lt (by omega)
    have := fresh_loop W hi ws (acc ++ [w]) (by simp at h ⊢; omega)
    rw [dI_cons, lcGo_cons]
    simp [hz, hi, this]
theorem R_fresh_L (ws : List Int) (h : ws.length < 1000000) (hi : ∀ i : Int, call "_law_fresh" [.int i] = some (.frz (.int i))) : outO (b_f_law_fresh call [some (.frz (L ws)), none]) = some (ow ws) := by
  have e := fresh_loop call (L ws) hi ws [] (by simpa using h)
  have h1 : isInst "list" (L ws) = some true := rfl
  rw [mI_nil] at e
  rw [ba_f_law_fresh]
  simp [h1, e]
theorem R_fresh_2 (s : Str) (a : List Int) (hs : call "_law_fresh" [.str s] = some (.frz (.str s))) (ha : call "_law_fresh" [L a] = some (ow a)) : outO (b_f_law_fresh call [some (.frz (.tuple [.str s, L a])), none]) = some (.otup [.frz (.str s), ow a]) := by
  have h1 : isInst "list" (.tuple [.str s, L a]) = some false := rfl
  have h2 : isInst "tuple" (.tuple [.str s, L a]) = some true := rfl
  have z1 : (1 : Nat) < sizeLine := line_lt (by decide)
  rw [ba_f_law_fresh]
  simp [h1, h2, hs, ha, z1, lcGo_cons, lcGo_nil]
theorem R_fresh_3 (s : Str) (a b : List Int) (hs : call "_law_fresh" [.str s] = some (.frz (.str s))) (ha : call "_law_fresh" [L a] = some (ow a)) (hb : call "_law_fresh" [L b] = some (ow b)) : outO (b_f_law_fresh call [some (.frz (.tuple [.str s, L a, L b])), none]) = some (.otup [.frz (.str s), ow a, ow b]) := by
  have h1 : isInst "list" (.tuple [.str s, L a, L b]) = some false := rfl
  have h2 : isInst "tuple" (.tuple [.str s, L a, L b]) = some true := rfl
  have z1 : (1 : Nat) < sizeLine := line_lt (by decide)
  have z2 : (2 : Nat) < sizeLine := line_lt (by decide)
  rw [ba_f_law_fresh]
  simp [h1, h2, hs, ha, hb, z1, z2, lcGo_cons, lcGo_nil]
end
end PY
set_option maxHeartbeats 4000000
/-! LibL: products of many words, powers, turned words, commutators. -/
namespace PY
open PySem L2
def b_power (call : Str → List PyData → Option O) : Stm :=
  (sSeq (sIf (tV (eCmp .Lt (eName 1) (eD (.int 0))))
    (sRet (eCall (call "reduced") [(eBin .Mult (eCall (call "turned_round") [(eName 0)]) (eNeg (eName 1)))]))
    sNext)
    (sRet (eCall (call "reduced") [(eBin .Mult (eName 0) (eName 1))])))
theorem ba_power (call : Str → List PyData → Option O) (e : Env) : b_power call e = (sSeq (sIf (tV (eCmp .Lt (eName 1) (eD (.int 0))))
    (sRet (eCall (call "reduced") [(eBin .Mult (eCall (call "turned_round") [(eName 0)]) (eNeg (eName 1)))]))
    sNext)
    (sRet (eCall (call "reduced") [(eBin .Mult (eName 0) (eName 1))]))) e := rfl
def l_product_of_1 (call : Str → List PyData → Option O) : Itw :=
  (iV (eName 1))
@[simp] theorem la_product_of_1 (call : Str → List PyData → Option O) (e : Env) : l_product_of_1 call e = (iV (eName 1)) e := Eq.trans rfl rfl
def l_product_of_2 (call : Str → List PyData → Option O) : Ev :=
  (eName 2)
@[simp] theorem la_product_of_2 (call : Str → List PyData → Option O) (e : Env) : l_product_of_2 call e = (eName 2) e := Eq.trans rfl rfl
def b_product_of (call : Str → List PyData → Option O) : Stm :=
  (sRet (eCall (call "reduced") [(eLC2 [1, 2] (.one 1) (iV (eName 0)) tTrue (l_product_of_1 call) [2] (.one 2) tTrue (l_product_of_2 call))]))
theorem ba_product_of (call : Str → List PyData → Option O) (e : Env) : b_product_of call e = (sRet (eCall (call "reduced") [(eLC2 [1, 2] (.one 1) (iV (eName 0)) tTrue (l_product_of_1 call) [2] (.one 2) tTrue (l_product_of_2 call))])) e := rfl
def b_turned_by (call : Str → List PyData → Option O) : Stm :=
  (sRet (eCall (call "reduced") [(eBin .Add (eBin .Add (eName 1) (eName 0)) (eCall (call "turned_round") [(eName 1)]))]))
theorem ba_turned_by (call : Str → List PyData → Option O) (e : Env) : b_turned_by call e = (sRet (eCall (call "reduced") [(eBin .Add (eBin .Add (eName 1) (eName 0)) (eCall (call "turned_round") [(eName 1)]))])) e := rfl
def b_commutator (call : Str → List PyData → Option O) : Stm :=
  (sRet (eCall (call "reduced") [(eBin .Add (eBin .Add (eBin .Add (eName 0) (eName 1)) (eCall (call "turned_round") [(eName 0)])) (eCall (call "turned_round") [(eName 1)]))]))
theorem ba_commutator (call : Str → List PyData → Option O) (e : Env) : b_commutator call e = (sRet (eCall (call "reduced") [(eBin .Add (eBin .Add (eBin .Add (eName 0) (eName 1)) (eCall (call "turned_round") [(eName 0)])) (eCall (call "turned_round") [(eName 1)]))])) e := rfl
/-! ### words act on reduced words -/
abbrev RW := {w : List Int // isRed w = true}
def Ac (a : List Int) (x : RW) : RW := ⟨act a x.1, act_red x.2⟩
@[simp] theorem Ac_nil (x : RW) : Ac [] x = x := rfl
@[simp] theorem Ac_app (a b : List Int) (x : RW) : Ac (a ++ b) x = Ac b (Ac a x) := Subtype.ext (act_app a b x.1)
@[simp] theorem Ac_red (a : List Int) (x : RW) : Ac (red a) x = Ac a x := Subtype.ext (act_of_red a x.2)
@[simp] theorem Ac_bck1 (a : List Int) (x : RW) : Ac (bck a) (Ac a x) = x := by
  rw [← Ac_app]
  exact Subtype.ext (act_bck a x.1 x.2)
@[simp] theorem Ac_bck2 (a : List Int) (x : RW) : Ac a (Ac (bck a) x) = x := by
  have := Ac_bck1 (bck a) x
  rwa [bck_bck] at this
theorem Ac_of {a b : List Int} (h : red a = red b) (x : RW) : Ac a x = Ac b x := by rw [← Ac_red a, ← Ac_red b, h]
@[simp] theorem Ac_bckred (a : List Int) (x : RW) : Ac (bck (red a)) x = Ac (bck a) x := Ac_of (Eqv.bck (Eqv.red a)) x
theorem red_ext {a b : List Int} (h : ∀ x, Ac a x = Ac b x) : red a = red b := congrArg Subtype.val (h ⟨[], rfl⟩)
theorem red_nil_of {a : List Int} (h : ∀ x, Ac a x = x) : red a = [] := red_ext (b := []) h
theorem isRed_bck {a : List Int} (h : isRed a = true) : isRed (bck a) = true := by
  rw [isRed_iff] at h ⊢
  intro i x y hx hy
  have hi : i + 1 < (bck a).length := (List.getElem?_eq_some_iff.mp hy).1
  rw [bck_len] at hi
  unfold bck at hx hy
  rw [List.getElem?_map, List.getElem?_reverse (by omega)] at hx hy
  obtain ⟨p, h1, rfl⟩ := Option.map_eq_some_iff.mp hx
  obtain ⟨q, h2, rfl⟩ := Option.map_eq_some_iff.mp hy
  have := h (a.length - 1 - (i + 1)) q p h2 (by rw [show a.length - 1 - (i + 1) + 1 = a.length - 1 - i by omega]; exact h1)
  omega
theorem red_bck (a : List Int) : red (bck a) = bck (red a) := by
  have h : red (bck (red a)) = bck (red a) := red_of_isRed (isRed_bck (red_isRed a))
  rw [← h]
  exact red_ext fun x => by simp
theorem comm_nil (w h : List Int) : red (w ++ h ++ bck w ++ bck h) = [] ↔ red (w ++ h) = red (h ++ w) := by
  constructor
  · intro e
    refine red_ext fun x => ?_
    have := Ac_of (b := []) e x
    simp only [Ac_app, Ac_nil] at this ⊢
    rw [← congrArg (fun z => Ac w (Ac h z)) this]
    simp
  · intro e
    refine red_nil_of fun x => ?_
    have := Ac_of e x
    simp only [Ac_app] at this ⊢
    rw [this]
    simp
/-- a word so often, its opposite for numbers below 0 -/
def pw (w : List Int) (t : Int) : List Int := if t < 0 then (List.replicate (-t).toNat (bck w)).flatten else (List.replicate t.toNat w).flatten
theorem repf_succ' (w : List Int) (n : Nat) : (List.replicate (n + 1) w).flatten = (List.replicate n w).flatten ++ w := by
  rw [List.replicate_succ', List.flatten_append]
  simp
theorem repf_len (w : List Int) (n : Nat) : (List.replicate n w).flatten.length = n * w.length := by simp
theorem pw_len (w : List Int) (t : Int) : (pw w t).length = t.natAbs * w.length := by
  unfold pw
  split
  · rw [repf_len, bck_len]
    congr 1
    omega
  · rw [repf_len]
    congr 1
    omega
theorem rep_succ (w : List Int) (n : Nat) : (List.replicate (n + 1) w).flatten = (List.replicate n w).flatten ++ w := by
  rw [List.replicate_succ', List.flatten_append]
  simp
theorem pw_succ (w : List Int) (t : Int) : Eqv (pw w t ++ w) (pw w (t + 1)) := by
  unfold pw
  by_cases h : t < 0
  · rw [if_pos h]
    obtain ⟨n, hn⟩ : ∃ n : Nat, (-t).toNat = n + 1 := ⟨(-t).toNat - 1, by omega⟩
    rw [hn, rep_succ, List.append_assoc]
    have e : Eqv ((List.replicate n (bck w)).flatten ++ (bck w ++ w)) ((List.replicate n (bck w)).flatten ++ []) := (Eqv.refl _).app (Eqv.inv' w)
    rw [List.append_nil] at e
    refine e.trans ?_
    by_cases h2 : t + 1 < 0
    · rw [if_pos h2, show (-(t + 1)).toNat = n by omega]
      exact .refl _
    · rw [if_neg h2, show n = 0 by omega, show (t + 1).toNat = 0 by omega]
      exact .refl _
  · rw [if_neg h, if_neg (by omega), show (t + 1).toNat = t.toNat + 1 by omega, rep_succ]
    exact .refl _
theorem pw_two (w : List Int) : pw w 2 = w ++ w := by
  unfold pw
  rw [if_neg (by omega)]
  simp
theorem pw_add2 (w : List Int) (t : Int) : red (red (pw w t) ++ red (pw w 2)) = red (pw w (t + 2)) := by
  have e1 : Eqv (red (pw w t) ++ red (pw w 2)) (pw w t ++ (w ++ w)) := by
    rw [pw_two]
    exact (Eqv.red _).app (Eqv.red _)
  have e2 : Eqv (pw w t ++ w ++ w) (pw w (t + 1) ++ w) := (pw_succ w t).app (.refl _)
  rw [List.append_assoc] at e2
  have e3 := pw_succ w (t + 1)
  rw [show t + 1 + 1 = t + 2 by omega] at e3
  exact e1.trans (e2.trans e3)
section
variable (call : Cal)
theorem po_in (W W1 : PyData) : ∀ (ws acc : List Int), acc.length + ws.length < 1000000 → lcGo [2] (.one 2) tTrue (l_product_of_2 call) (dI ws) [some (.frz W), some (.frz W1), none] (mI acc) = some (mI (acc ++ ws), [some (.frz W), some (.frz W1), none])
  | [], acc, h => by simp [dI_nil, lcGo_nil]
  | w :: ws, acc, h => by
    have hz : acc.length < sizeLine := line_lt (by omega)
    have := po_in W W1 ws (acc ++ [w]) (by simp at h ⊢; omega)
    rw [dI_cons, lcGo_cons]
    simp [hz, this]
theorem po_out (W : PyData) : ∀ (wss : List (List Int)) (acc : List Int), acc.length + wss.flatten.length < 1000000 →
    lc2Go [1, 2] (.one 1) tTrue (l_product_of_1 call) [2] (.one 2) tTrue (l_product_of_2 call) (dL wss) [some (.frz W), none, none] (mI acc) = some (mI (acc ++ wss.flatten), [some (.frz W), none, none])
  | [], acc, h => by simp [dL_nil, lc2Go_nil]
  | w :: wss, acc, h => by
    have h1 := po_in call W (L w) w acc (by simp at h; omega)
    have h2 := po_out W wss (acc ++ w) (by simp at h ⊢; omega)
    rw [dL_cons, lc2Go_cons]
    simp [h1, h2]
theorem R_product_of (wss : List (List Int)) (h : wss.flatten.length < 1000000) (hr : call "reduced" [L wss.flatten] = some (ow (red wss.flatten))) :
    outO (b_product_of call [some (.frz (.list (dL wss))), none, none]) = some (ow (red wss.flatten)) := by
  have e := po_out call (.list (dL wss)) wss [] (by simpa using h)
  rw [mI_nil] at e
  rw [ba_product_of]
  generalize wss.flatten = v at *
  simp [e, hr]
theorem R_power (w : List Int) (t : Int) (h1 : -1000 ≤ t) (h2 : t ≤ 1000) (h3 : w.length ≤ 10000) (ht : call "turned_round" [L w] = some (ow (bck w))) (hr : call "reduced" [L (pw w t)] = some (ow (red (pw w t)))) :
    outO (b_power call [some (.frz (L w)), some (.frz (.int t))]) = some (ow (red (pw w t))) := by
  rw [ba_power]
  by_cases q : t < 0
  · have e : pw w t = (List.replicate (-t).toNat (bck w)).flatten := if_pos q
    have r1 := rep_li (xs := bck w) (i := -t) (by omega) (by omega) (by rw [bck_len]; exact h3)
    rw [← e] at r1
    simp [q, ht, r1, hr]
  · have e : pw w t = (List.replicate t.toNat w).flatten := if_neg q
    have r1 := rep_li (xs := w) (i := t) (by omega) (by omega) h3
    rw [← e] at r1
    simp [q, r1, hr]
theorem R_turned_by (w h : List Int) (hw : w.length ≤ 50000) (hh : h.length ≤ 50000) (ht : call "turned_round" [L h] = some (ow (bck h))) (hr : call "reduced" [L (h ++ w ++ bck h)] = some (ow (red (h ++ w ++ bck h)))) :
    outO (b_turned_by call [some (.frz (L w)), some (.frz (L h))]) = some (ow (red (h ++ w ++ bck h))) := by
  have a1 := add_lA (xs := h) (ys := w) (by omega) (by omega)
  have a2 := add_lA (xs := h ++ w) (ys := bck h) (by simp; omega) (by simp; omega)
  rw [ba_turned_by]
  simp [ht, a1, a2, hr, -List.append_assoc]
theorem R_commutator (a b : List Int) (ha : a.length ≤ 20000) (hb : b.length ≤ 20000) (h1 : call "turned_round" [L a] = some (ow (bck a))) (h2 : call "turned_round" [L b] = some (ow (bck b)))
    (hr : call "reduced" [L (a ++ b ++ bck a ++ bck b)] = some (ow (red (a ++ b ++ bck a ++ bck b)))) :
    outO (b_commutator call [some (.frz (L a)), some (.frz (L b))]) = some (ow (red (a ++ b ++ bck a ++ bck b))) := by
  have a1 := add_lA (xs := a) (ys := b) (by omega) (by omega)
  have a2 := add_lA (xs := a ++ b) (ys := bck a) (by simp; omega) (by simp; omega)
  have a3 := add_lA (xs := a ++ b ++ bck a) (ys := bck b) (by simp; omega) (by simp; omega)
  rw [ba_commutator]
  simp [h1, h2, a1, a2, a3, hr, -List.append_assoc]
theorem freshL_loop (W : PyData) (hf : ∀ w : List Int, w.length < 1000000 → call "_law_fresh" [L w] = some (ow w)) : ∀ (wss acc : List (List Int)), (∀ w ∈ wss, w.length < 1000000) → acc.length + wss.length < 1000000 → lcGo [1] (.one 1) tTrue (l_f_law_fresh_1 call) (dL wss) [some (.frz W), none] (mO acc) = some (mO (acc ++ wss), [some (.frz W), none])
  | [], acc, h1, h => by simp [dL_nil, lcGo_nil]
  | w :: wss, acc, h1, h => by
    have hz : acc.length < sizeLine := line_lt (by omega)
    have := freshL_loop W hf wss (acc ++ [w]) (fun v m => h1 v (List.mem_cons_of_mem _ m)) (by simp at h ⊢; omega)
    have f := hf w (h1 w List.mem_cons_self)
    rw [← mO_snoc] at this
    rw [dL_cons, lcGo_cons]
    simp [hz, f, this]
theorem R_fresh_dL (wss : List (List Int)) (h1 : ∀ w ∈ wss, w.length < 1000000) (h : wss.length < 1000000) (hf : ∀ w : List Int, w.length < 1000000 → call "_law_fresh" [L w] = some (ow w)) :
    outO (b_f_law_fresh call [some (.frz (.list (dL wss))), none]) = some (.own (mO wss)) := by
  have e := freshL_loop call (.list (dL wss)) hf wss [] h1 (by simpa using h)
  have i1 : isInst "list" (.list (dL wss)) = some true := rfl
  rw [mO_nil] at e
  rw [ba_f_law_fresh]
  simp [i1, e]
end
/-! ### what the calls of the program give -/
structure Progs (call : Cal) : Prop where
  prod : ∀ a b : List Int, a.length ≤ 50000 → b.length ≤ 50000 → call "product" [L a, L b] = some (ow (red (a ++ b)))
  opp : ∀ a : List Int, a.length ≤ 50000 → call "opposite" [L a] = some (ow (red (bck a)))
  pow : ∀ (a : List Int) (t : Int), a.length ≤ 300 → -1000 ≤ t → t ≤ 1000 → call "power" [L a, .int t] = some (ow (red (pw a t)))
  pof : ∀ wss : List (List Int), wss.flatten.length < 500000 → call "product_of" [.list (dL wss)] = some (ow (red wss.flatten))
  tby : ∀ a h : List Int, a.length ≤ 20000 → h.length ≤ 20000 → call "turned_by" [L a, L h] = some (ow (red (h ++ a ++ bck h)))
  com : ∀ a b : List Int, a.length ≤ 20000 → b.length ≤ 20000 → call "commutator" [L a, L b] = some (ow (red (a ++ b ++ bck a ++ bck b)))
def SameL (call : Cal) : Prop := ∀ a : List Int, a.length < 1000000 → Same1 call (L a)
def SameP (call : Cal) : Prop := ∀ a b : List Int, a.length < 1000000 → b.length < 1000000 → Same1 call (.list [L a, L b])
@[simp] theorem isFrz_own {os : List O} : O.isFrz (.own os) = false := Eq.trans rfl rfl
@[simp] theorem isFrz_otup {os : List O} : O.isFrz (.otup os) = false := Eq.trans rfl rfl
theorem eqD_two2 (a b : List Int) : eqD (.list [.list (dI a), .list (dI b)]) (.list [.list (dI a), .list (dI b)]) = some true := by
  have := eqD_dL [a, b] [a, b]
  simpa [dL] using this
end PY
set_option maxHeartbeats 4000000
/-! LibM: product papers. -/
namespace PY
open PySem L2
def l_product_by_1 (call : Str → List PyData → Option O) : Stm :=
  (sIf (tV (eCmp .Eq (eName 4) (eD (.int 1))))
    (sAppend 2 (eIx (eName 0) (eName 3)))
    (sAppend 2 (eCall (call "opposite") [(eIx (eName 0) (eName 3))])))
@[simp] theorem la_product_by_1 (call : Str → List PyData → Option O) (e : Env) : l_product_by_1 call e = (sIf (tV (eCmp .Eq (eName 4) (eD (.int 1))))
    (sAppend 2 (eIx (eName 0) (eName 3)))
    (sAppend 2 (eCall (call "opposite") [(eIx (eName 0) (eName 3))]))) e := Eq.trans rfl rfl
def b_product_by (call : Str → List PyData → Option O) : Stm :=
  (sSeq (sSet 2 (eTm (eList [])))
    (sSeq (sFor (.many [3, 4]) (iV (eName 1)) (l_product_by_1 call))
    (sRet (eCall (call "product_of") [(eName 2)]))))
theorem ba_product_by (call : Str → List PyData → Option O) (e : Env) : b_product_by call e = (sSeq (sSet 2 (eTm (eList [])))
    (sSeq (sFor (.many [3, 4]) (iV (eName 1)) (l_product_by_1 call))
    (sRet (eCall (call "product_of") [(eName 2)])))) e := rfl
/-! ### papers: pairs of numbers -/
def dP (ps : List (Int × Int)) : List D := ps.map fun p => .tuple [.int p.1, .int p.2]
/-- a fresh list of fresh pairs -/
def mT (ps : List (Int × Int)) : List O := ps.map fun p => .otup (mI [p.1, p.2])
/-- a fresh list of frozen pairs -/
def pF (ps : List (Int × Int)) : List O := (dP ps).map .frz
theorem dP_nil : dP [] = [] := rfl
theorem mT_nil : mT [] = [] := rfl
theorem dP_cons (p : Int × Int) (ps : List (Int × Int)) : dP (p :: ps) = .tuple [.int p.1, .int p.2] :: dP ps := rfl
theorem ds_app : ∀ a b : List O, O.ds (a ++ b) = O.ds a ++ O.ds b
  | [], b => rfl
  | o :: a, b => by
    show o.d :: O.ds (a ++ b) = _
    rw [ds_app a b]
    rfl
@[simp] theorem ds_pF (ps : List (Int × Int)) : O.ds (pF ps) = dP ps := ds_frz _
@[simp] theorem ds_mT : ∀ ps : List (Int × Int), O.ds (mT ps) = dP ps
  | [] => rfl
  | p :: ps => by
    show _ :: O.ds (mT ps) = _
    rw [ds_mT ps]
    rfl
theorem mT_snoc (ps : List (Int × Int)) (a b : Int) : mT ps ++ [.otup (mI [a, b])] = mT (ps ++ [(a, b)]) := by simp [mT]
@[simp] theorem mT_len (ps : List (Int × Int)) : (mT ps).length = ps.length := by simp [mT]
@[simp] theorem dP_len (ps : List (Int × Int)) : (dP ps).length = ps.length := by simp [dP]
@[simp] theorem pF_len (ps : List (Int × Int)) : (pF ps).length = ps.length := by simp [pF]
@[simp] theorem dP_app (a b : List (Int × Int)) : dP a ++ dP b = dP (a ++ b) := by simp [dP]
@[simp] theorem dP_rev (a : List (Int × Int)) : (dP a).reverse = dP a.reverse := by simp [dP]
@[simp] theorem mkL_dP (ps : List (Int × Int)) : mkL (dP ps) = .own (.own (pF ps)) := rfl
@[simp] theorem selfs_mT : ∀ ps : List (Int × Int), O.selfs (mT ps) = true
  | [] => rfl
  | p :: ps => by
    show ((O.otup (mI [p.1, p.2])).self && O.selfs (mT ps)) = true
    rw [selfs_mT ps]
    rfl
@[simp] theorem all_pF : ∀ ps : List (Int × Int), (pF ps).all O.isFrz = true
  | [] => rfl
  | p :: ps => by
    show (true && (pF ps).all O.isFrz) = true
    rw [all_pF ps]
    rfl
theorem add_P {xs ys : List (Int × Int)} (h : xs.length + ys.length < 1000000) : binV .Add (.list (dP xs)) (.list (dP ys)) = some (.own (.own (pF (xs ++ ys)))) := by
  rw [binV_addl, if_pos (by rw [dP_len, dP_len]; exact line_le h), dP_app, mkL_dP]
theorem lay_dP : ∀ a : List (Int × Int), PyData.canLayAll0 (dP a) = true
  | [] => by simp [dP, PyData.canLayAll0]
  | p :: ps => by rw [dP_cons]; simp [PyData.canLayAll0, PyData.canLay0, lay_dP ps]
theorem dep_dP : ∀ a : List (Int × Int), PyData.depthAll (dP a) ≤ 1
  | [] => by simp [dP, PyData.depthAll]
  | p :: ps => by
    have := dep_dP ps
    rw [dP_cons]
    simp [PyData.depthAll, PyData.depth]
    omega
/-- data is equal to itself -/
theorem eqD_refl {d : D} (h1 : d.canLay0 = true) (h2 : d.depth ≤ 64) : eqD d d = some true := by
  have hs : SeqAt.shaped d = true := by simp [SeqAt.shaped, h1, h2]
  cases d with
  | str x => simp
  | int i => simp
  | bool b => simp
  | none => rfl
  | dict _ => cases h1
  | list xs =>
    show (if SeqAt.shaped (.list xs) = true ∧ SeqAt.shaped (.list xs) = true then some (PyData.eqv (.list xs) (.list xs)) else none) = _
    rw [if_pos ⟨hs, hs⟩, PySem.SeqAt.eqv_refl _ h1]
  | tuple xs =>
    show (if SeqAt.shaped (.tuple xs) = true ∧ SeqAt.shaped (.tuple xs) = true then some (PyData.eqv (.tuple xs) (.tuple xs)) else none) = _
    rw [if_pos ⟨hs, hs⟩, PySem.SeqAt.eqv_refl _ h1]
theorem eqD_wp (wss : List (List Int)) (ps : List (Int × Int)) : eqD (.list [.list (dL wss), .list (dP ps)]) (.list [.list (dL wss), .list (dP ps)]) = some true :=
  eqD_refl (by simp [PyData.canLay0, PyData.canLayAll0, lay_dL, lay_dP]) (by
    have h1 := dep_dL wss
    have h2 := dep_dP ps
    simp [PyData.depth, PyData.depthAll]
    omega)
/-! ### what a paper stands for -/
def pwd (wss : List (List Int)) (p : Int × Int) : List Int := if p.2 = 1 then wss[p.1.toNat]?.getD [] else bck (wss[p.1.toNat]?.getD [])
def pcat (wss : List (List Int)) (ps : List (Int × Int)) : List Int := (ps.map (pwd wss)).flatten
/-- .. with the opposites reduced -/
def qwd (wss : List (List Int)) (p : Int × Int) : List Int := if p.2 = 1 then wss[p.1.toNat]?.getD [] else red (bck (wss[p.1.toNat]?.getD []))
theorem pcat_nil (wss : List (List Int)) : pcat wss [] = [] := rfl
theorem pcat_app (wss : List (List Int)) (a b : List (Int × Int)) : pcat wss (a ++ b) = pcat wss a ++ pcat wss b := by simp [pcat]
theorem pcat_cons (wss : List (List Int)) (p : Int × Int) (b : List (Int × Int)) : pcat wss (p :: b) = pwd wss p ++ pcat wss b := by simp [pcat]
theorem qcat_red (wss : List (List Int)) (ps : List (Int × Int)) : red (ps.map (qwd wss)).flatten = red (pcat wss ps) := by
  refine red_ext fun x => ?_
  induction ps generalizing x with
  | nil => rfl
  | cons p ps ih =>
    rw [List.map_cons, List.flatten_cons, pcat_cons, Ac_app, Ac_app, ih]
    congr 1
    unfold qwd pwd
    split
    · rfl
    · simp
def PokP (n : Nat) (ps : List (Int × Int)) : Prop := ∀ p ∈ ps, 0 ≤ p.1 ∧ p.1 < n ∧ (p.2 = 1 ∨ p.2 = -1)
theorem PokP.app {n : Nat} {a b : List (Int × Int)} (h : PokP n a) (k : PokP n b) : PokP n (a ++ b) := fun p m => (List.mem_append.mp m).elim (h p) (k p)
theorem wat_le {wss : List (List Int)} {B : Nat} (hB : ∀ w ∈ wss, w.length ≤ B) (i : Nat) : (wss[i]?.getD []).length ≤ B := by
  cases h : wss[i]? with
  | none => simp
  | some w => exact hB w (List.mem_of_getElem? h)
theorem pwd_le {wss : List (List Int)} {B : Nat} (hB : ∀ w ∈ wss, w.length ≤ B) (p : Int × Int) : (pwd wss p).length ≤ B := by
  have := wat_le hB p.1.toNat
  unfold pwd
  split
  · exact this
  · rw [bck_len]; exact this
theorem qwd_le {wss : List (List Int)} {B : Nat} (hB : ∀ w ∈ wss, w.length ≤ B) (p : Int × Int) : (qwd wss p).length ≤ B := by
  have := wat_le hB p.1.toNat
  unfold qwd
  split
  · exact this
  · have h2 := red_len (bck (wss[p.1.toNat]?.getD []))
    rw [bck_len] at h2
    omega
theorem flat_le {f : Int × Int → List Int} {B : Nat} (h : ∀ p, (f p).length ≤ B) (ps : List (Int × Int)) : (ps.map f).flatten.length ≤ ps.length * B := by
  induction ps with
  | nil => simp
  | cons p ps ih =>
    rw [List.map_cons, List.flatten_cons, List.length_append, List.length_cons, Nat.succ_mul]
    have := h p
    omega
/-- the paper the other way round -/
def ptn (ps : List (Int × Int)) : List (Int × Int) := ps.reverse.map fun p => (p.1, -p.2)
theorem PokP.ptn {n : Nat} {a : List (Int × Int)} (h : PokP n a) : PokP n (ptn a) := fun p m => by
  obtain ⟨q, hq, rfl⟩ := List.mem_map.mp m
  obtain ⟨h1, h2, h3⟩ := h q (List.mem_reverse.mp hq)
  exact ⟨h1, h2, by show -q.2 = 1 ∨ -q.2 = -1; omega⟩
theorem pcat_ptn {n : Nat} (wss : List (List Int)) : ∀ ps : List (Int × Int), PokP n ps → pcat wss (ptn ps) = bck (pcat wss ps)
  | [], _ => rfl
  | p :: ps, h => by
    have ih := pcat_ptn wss ps fun q m => h q (List.mem_cons_of_mem _ m)
    obtain ⟨_, _, h3⟩ := h p List.mem_cons_self
    have e : ptn (p :: ps) = ptn ps ++ [(p.1, -p.2)] := by simp [ptn]
    rw [e, pcat_app, ih, pcat_cons wss p ps, bck_app]
    congr 1
    rw [pcat_cons, pcat_nil, List.append_nil]
    unfold pwd
    rcases h3 with q | q
    · simp [q]
    · simp [q, bck_bck]
section
variable (call : Cal)
theorem pby_loop {e1 : Option O} (wss : List (List Int)) (hw : ∀ w ∈ wss, w.length ≤ 20000) (ho : ∀ w : List Int, w.length ≤ 20000 → call "opposite" [L w] = some (ow (red (bck w)))) :
    ∀ (ps : List (Int × Int)) (os : List O) (vs : List (List Int)) (y z : Option O), PokP wss.length ps → O.ds os = dL vs → os.length + ps.length < 1000000 →
    ∃ os' y' z', O.ds os' = dL (vs ++ ps.map (qwd wss)) ∧ forGo (.many [3, 4]) (l_product_by_1 call) (dP ps) [some (.frz (.list (dL wss))), e1, some (.own os), y, z] = some (.next [some (.frz (.list (dL wss))), e1, some (.own os'), y', z'])
  | [], os, vs, y, z, _, h, _ => ⟨os, y, z, by simpa using h, rfl⟩
  | p :: ps, os, vs, y, z, hp, h, hl => by
    obtain ⟨h1, h2, h3⟩ := hp p List.mem_cons_self
    have hz : os.length < sizeLine := line_lt (by simp at hl; omega)
    obtain ⟨j, hj⟩ := Int.eq_ofNat_of_zero_le h1
    have hjl : j < wss.length := by omega
    have ix : atI wss p.1 = some wss[j] := by rw [hj, atI_nat']; exact List.getElem?_eq_getElem hjl
    have hwj : wss[p.1.toNat]?.getD [] = wss[j] := by rw [hj, Int.toNat_natCast, List.getElem?_eq_getElem hjl]; rfl
    have hwl := hw wss[j] (List.getElem_mem hjl)
    generalize wss[j] = w at *
    rw [dP_cons, forGo_cons]
    rcases h3 with q | q
    · obtain ⟨os', y', z', e1', e⟩ := pby_loop (e1 := e1) wss hw ho ps (os ++ [.frz (L w)]) (vs ++ [w]) (some (.frz (.int p.1))) (some (.frz (.int p.2))) (fun q m => hp q (List.mem_cons_of_mem _ m)) (by rw [ds_app, h, ← dL_app]; rfl) (by simp at hl ⊢; omega)
      have qw : qwd wss p = w := by unfold qwd; rw [if_pos q, hwj]
      refine ⟨os', y', z', by rw [e1', List.map_cons, qw]; simp, ?_⟩
      rw [q] at e ⊢
      simp [ix, hz, e, -mL_snoc, -mL_one]
    · have o := ho w hwl
      obtain ⟨os', y', z', e1', e⟩ := pby_loop (e1 := e1) wss hw ho ps (os ++ [ow (red (bck w))]) (vs ++ [red (bck w)]) (some (.frz (.int p.1))) (some (.frz (.int p.2))) (fun q m => hp q (List.mem_cons_of_mem _ m)) (by rw [ds_app, h, ← dL_app]; show _ ++ [O.d (ow _)] = _; rw [Od_own, ds_mI]; rfl) (by simp at hl ⊢; omega)
      have qw : qwd wss p = red (bck w) := by unfold qwd; rw [if_neg (by omega), hwj]
      refine ⟨os', y', z', by rw [e1', List.map_cons, qw]; simp, ?_⟩
      rw [q] at e ⊢
      simp [ix, hz, o, e, -mL_snoc, -mL_one]
theorem R_product_by (wss : List (List Int)) (ps : List (Int × Int)) {B : Nat} (hB : B ≤ 20000) (hw : ∀ w ∈ wss, w.length ≤ B) (hp : PokP wss.length ps) (hl : ps.length * B < 400000) (hl2 : ps.length < 900000) (ho : ∀ w : List Int, w.length ≤ 20000 → call "opposite" [L w] = some (ow (red (bck w))))
    (hpo : ∀ vs : List (List Int), vs.flatten.length < 500000 → call "product_of" [.list (dL vs)] = some (ow (red vs.flatten))) :
    outO (b_product_by call [some (.frz (.list (dL wss))), some (.frz (.list (dP ps))), none, none, none]) = some (ow (red (pcat wss ps))) := by
  obtain ⟨os', y', z', e1, e⟩ := pby_loop call (e1 := some (.frz (.list (dP ps)))) wss (fun w m => Nat.le_trans (hw w m) hB) ho ps [] [] none none hp rfl (by simp; omega)
  have f := flat_le (qwd_le hw) ps
  have c := hpo _ (Nat.lt_of_le_of_lt f (by omega))
  rw [qcat_red] at c
  rw [List.nil_append] at e1
  rw [← e1] at c
  rw [ba_product_by]
  simp [e, c]
end
end PY
set_option maxHeartbeats 4000000
/-! LibN: axes of words, plainly. -/
namespace PY
open PySem L2
theorem isRed_app : ∀ {a b : List Int}, isRed (a ++ b) = true ↔ isRed a = true ∧ isRed b = true ∧ ∀ x y, a.getLast? = some x → b.head? = some y → y ≠ -x
  | [], b => by simp [isRed]
  | [z], [] => by simp [isRed]
  | [z], y :: r => by
    show (decide (y ≠ -z) && isRed (y :: r)) = true ↔ _
    rw [Bool.and_eq_true, decide_eq_true_eq]
    constructor
    · rintro ⟨h1, h2⟩
      refine ⟨rfl, h2, fun u v e1 e2 => ?_⟩
      cases e1
      cases e2
      exact h1
    · rintro ⟨_, h2, h3⟩
      exact ⟨h3 z y rfl rfl, h2⟩
  | z :: w :: r, b => by
    have ih := isRed_app (a := w :: r) (b := b)
    show (decide (w ≠ -z) && isRed (w :: r ++ b)) = true ↔ (decide (w ≠ -z) && isRed (w :: r)) = true ∧ _
    rw [Bool.and_eq_true, Bool.and_eq_true, ih, List.getLast?_cons_cons]
    constructor
    · rintro ⟨h1, h2, h3, h4⟩; exact ⟨⟨h1, h2⟩, h3, h4⟩
    · rintro ⟨⟨h1, h2⟩, h3, h4⟩; exact ⟨h1, h2, h3, h4⟩
theorem isRed_cons_iff {x : Int} {b : List Int} : isRed (x :: b) = true ↔ isRed b = true ∧ ∀ y, b.head? = some y → y ≠ -x := by
  have := isRed_app (a := [x]) (b := b)
  rw [show [x] ++ b = x :: b from rfl] at this
  rw [this]
  constructor
  · rintro ⟨_, h2, h3⟩; exact ⟨h2, fun y e => h3 x y rfl e⟩
  · rintro ⟨h2, h3⟩; exact ⟨rfl, h2, fun u y e1 e2 => by cases e1; exact h3 y e2⟩
theorem bck_cons (x : Int) (q : List Int) : bck (x :: q) = bck q ++ [-x] := by simp [bck]
theorem bck_snoc (q : List Int) (x : Int) : bck (q ++ [x]) = -x :: bck q := by simp [bck]
theorem bck_head (c : List Int) : (bck c).head? = c.getLast?.map (-·) := by
  unfold bck
  rw [List.head?_map, List.head?_reverse]
theorem bck_last (c : List Int) : (bck c).getLast? = c.head?.map (-·) := by
  unfold bck
  rw [List.getLast?_map, List.getLast?_reverse]
/-! ### shared beginnings -/
def lcp : List Int → List Int → Nat
  | x :: a, y :: b => if x = y then lcp a b + 1 else 0
  | _, _ => 0
theorem lcp_le : ∀ a b : List Int, lcp a b ≤ a.length ∧ lcp a b ≤ b.length
  | [], b => by simp [lcp]
  | x :: a, [] => by simp [lcp]
  | x :: a, y :: b => by
    have := lcp_le a b
    unfold lcp
    split <;> simp <;> omega
theorem lcp_nil (a : List Int) : lcp a [] = 0 := by cases a <;> rfl
/-- the way from one reduced word to another one -/
theorem dist_red : ∀ a b : List Int, isRed a = true → isRed b = true → (red (bck a ++ b)).length + 2 * lcp a b = a.length + b.length
  | [], b, _, hb => by
    rw [show bck [] ++ b = b from rfl, red_of_isRed hb]
    simp [lcp]
  | x :: a, [], ha, _ => by
    rw [List.append_nil, red_of_isRed (isRed_bck ha)]
    simp [lcp]
  | x :: a, y :: b, ha, hb => by
    by_cases q : x = y
    · subst q
      have ih := dist_red a b (isRed_tail ha) (isRed_tail hb)
      have e : red (bck (x :: a) ++ x :: b) = red (bck a ++ b) := by
        rw [bck_cons]
        have h : Eqv [-x, x] [] := by
          have := Eqv.pair (-x)
          rwa [Int.neg_neg] at this
        have h2 := Eqv.mid (bck a) b h
        rw [show bck a ++ [-x] ++ x :: b = bck a ++ [-x, x] ++ b by simp]
        exact h2
      rw [e]
      unfold lcp
      rw [if_pos rfl]
      simp only [List.length_cons]
      omega
    · have hr : isRed (bck (x :: a) ++ y :: b) = true := by
        refine isRed_app.mpr ⟨isRed_bck ha, hb, fun u v e1 e2 => ?_⟩
        rw [bck_last] at e1
        cases e1
        cases e2
        show y ≠ - -x
        omega
      rw [red_of_isRed hr]
      unfold lcp
      rw [if_neg q]
      simp
/-! ### lines -/
/-- the beginning of c c c .. -/
def pre : Nat → List Int → List Int
  | 0, _ => []
  | _ + 1, [] => []
  | k + 1, x :: d => x :: pre k (d ++ [x])
/-- how far a word goes along c c c .. -/
def ml : List Int → List Int → Nat
  | [], _ => 0
  | _ :: _, [] => 0
  | y :: q, x :: d => if y = x then ml q (d ++ [x]) + 1 else 0
theorem pre_len : ∀ (k : Nat) (c : List Int), c ≠ [] → (pre k c).length = k
  | 0, c, _ => rfl
  | k + 1, [], h => absurd rfl h
  | k + 1, x :: d, _ => by
    show (pre k (d ++ [x])).length + 1 = _
    rw [pre_len k _ (by simp)]
theorem ml_le : ∀ q c : List Int, ml q c ≤ q.length
  | [], c => by simp [ml]
  | y :: q, [] => by simp [ml]
  | y :: q, x :: d => by
    have := ml_le q (d ++ [x])
    unfold ml
    split <;> simp
    omega
theorem ml_zero {q c : List Int} (h : ∀ x y, q.head? = some x → c.head? = some y → x ≠ y) : ml q c = 0 := by
  cases q with
  | nil => rfl
  | cons y q =>
    cases c with
    | nil => rfl
    | cons x d =>
      unfold ml
      exact if_neg (h y x rfl rfl)
theorem ml_pre : ∀ (q c : List Int), c ≠ [] → (ml q c = q.length ↔ q = pre q.length c)
  | [], c, _ => by simp [ml, pre]
  | y :: q, [], h => absurd rfl h
  | y :: q, x :: d, _ => by
    have ih := ml_pre q (d ++ [x]) (by simp)
    show _ ↔ y :: q = x :: pre q.length (d ++ [x])
    unfold ml
    by_cases e : y = x
    · rw [if_pos e, List.length_cons, Nat.add_right_cancel_iff, ih]
      constructor
      · intro z; rw [e, ← z]
      · intro z; exact (List.cons.inj z).2
    · rw [if_neg e]
      constructor
      · intro z; simp at z
      · intro z; exact absurd (List.cons.inj z).1 e
theorem lcp_pre : ∀ (k : Nat) (q c : List Int), c ≠ [] → lcp q (pre k c) = min k (ml q c)
  | 0, q, c, _ => by show lcp q [] = _; rw [lcp_nil]; omega
  | k + 1, [], c, _ => by simp [lcp, ml]
  | k + 1, y :: q, [], h => absurd rfl h
  | k + 1, y :: q, x :: d, _ => by
    have ih := lcp_pre k q (d ++ [x]) (by simp)
    show lcp (y :: q) (x :: pre k (d ++ [x])) = _
    unfold lcp ml
    by_cases e : y = x
    · rw [if_pos e, if_pos e, ih]; omega
    · rw [if_neg e, if_neg e]; omega
def cyc (c : List Int) : Prop := isRed (c ++ c) = true
theorem cyc_of {c : List Int} (h : isCore c = true) : cyc c := by
  by_cases q : c = []
  · subst q; rfl
  have hne := ne_of_isCore h q
  unfold isCore at h
  rw [Bool.and_eq_true] at h
  refine isRed_app.mpr ⟨h.1, h.1, fun x y e1 e2 e3 => hne ?_⟩
  rw [e2, e1, e3]
  rfl
theorem cyc_bck {c : List Int} (h : cyc c) : cyc (bck c) := by
  unfold cyc
  rw [← bck_app]
  exact isRed_bck h
theorem cyc_rot {x : Int} {d : List Int} (h : cyc (x :: d)) : cyc (d ++ [x]) := by
  unfold cyc at h
  rw [show x :: d ++ x :: d = x :: ((d ++ [x]) ++ d) by simp] at h
  obtain ⟨h1, h2⟩ := isRed_cons_iff.mp h
  obtain ⟨h3, h4, h5⟩ := isRed_app.mp h1
  refine isRed_app.mpr ⟨h3, h3, fun u v e1 e2 => ?_⟩
  rw [List.getLast?_append] at e1
  cases e1
  refine h2 v ?_
  cases d with
  | nil => exact e2
  | cons a r => exact e2
theorem cyc_red {c : List Int} (h : cyc c) : isRed c = true := (isRed_app.mp h).1
theorem cyc_ends {c : List Int} (h : cyc c) {x y : Int} (hx : c.getLast? = some x) (hy : c.head? = some y) : y ≠ -x := (isRed_app.mp h).2.2 x y hx hy
theorem isRed_pre : ∀ (k : Nat) (f c : List Int), cyc c → isRed (f ++ c) = true → isRed (f ++ pre k c) = true
  | 0, f, c, _, h => by show isRed (f ++ []) = true; rw [List.append_nil]; exact (isRed_app.mp h).1
  | k + 1, f, [], _, h => h
  | k + 1, f, x :: d, hc, h => by
    show isRed (f ++ x :: pre k (d ++ [x])) = true
    rw [show f ++ x :: pre k (d ++ [x]) = (f ++ [x]) ++ pre k (d ++ [x]) by simp]
    refine isRed_pre k (f ++ [x]) (d ++ [x]) (cyc_rot hc) ?_
    have hc' : isRed (x :: d ++ x :: d) = true := hc
    rw [show f ++ [x] ++ (d ++ [x]) = (f ++ x :: d) ++ [x] by simp]
    refine isRed_app.mpr ⟨h, rfl, fun u v e1 e2 => ?_⟩
    cases e2
    rw [List.getLast?_append] at e1
    cases hl : (x :: d).getLast? with
    | none => simp at hl
    | some z =>
      rw [hl] at e1
      cases e1
      exact cyc_ends hc hl rfl
theorem isRed_pre' (k : Nat) {c : List Int} (h : cyc c) : isRed (pre k c) = true := isRed_pre k [] c h (cyc_red h)
/-! ### turned by a word -/
def DispT (q c : List Int) : Prop := (red (bck q ++ c ++ q)).length + 2 * max (ml q c) (ml q (bck c)) = c.length + 2 * q.length
theorem disp_bck {q c : List Int} : (red (bck q ++ bck c ++ q)).length = (red (bck q ++ c ++ q)).length := by
  have : bck q ++ bck c ++ q = bck (bck q ++ c ++ q) := by rw [bck_app, bck_app, bck_bck, List.append_assoc]
  rw [this, red_bck, bck_len]
theorem disp_flip {q c : List Int} (h : DispT q (bck c)) : DispT q c := by
  unfold DispT at *
  rw [disp_bck, bck_bck, bck_len] at h
  omega
theorem disp_head {x : Int} {q d : List Int} (hq : isRed (x :: q) = true) (hc : cyc (x :: d)) (ih : DispT q (d ++ [x])) : DispT (x :: q) (x :: d) := by
  have e : red (bck (x :: q) ++ (x :: d) ++ (x :: q)) = red (bck q ++ (d ++ [x]) ++ q) := by
    have e1 : bck (x :: q) = bck q ++ bck [x] := bck_app [x] q
    rw [e1, show x :: d = [x] ++ d from rfl, show x :: q = [x] ++ q from rfl]
    exact red_ext fun y => by simp only [Ac_app, Ac_bck1, Ac_bck2]
  have z1 : ml (x :: q) (bck (x :: d)) = 0 := ml_zero fun u v e1 e2 => by
    cases e1
    rw [bck_head] at e2
    obtain ⟨w, hw, rfl⟩ := Option.map_eq_some_iff.mp e2
    exact cyc_ends hc hw rfl
  have z2 : ml q (bck (d ++ [x])) = 0 := ml_zero fun u v e1 e2 => by
    rw [bck_snoc] at e2
    cases e2
    exact (isRed_cons_iff.mp hq).2 u e1
  have z3 : ml (x :: q) (x :: d) = ml q (d ++ [x]) + 1 := by
    show (if x = x then _ else _) = _
    rw [if_pos rfl]
  unfold DispT at *
  rw [e, z1, z3]
  rw [z2] at ih
  simp only [List.length_cons, List.length_append, List.length_nil] at ih ⊢
  omega
theorem disp : ∀ (q c : List Int), isRed q = true → cyc c → c ≠ [] → DispT q c
  | [], c, _, hc, _ => by
    unfold DispT
    rw [show bck [] ++ c ++ [] = c by simp [bck], red_of_isRed (cyc_red hc)]
    simp [ml]
  | x :: q, c, hq, hc, hn => by
    by_cases h1 : c.head? = some x
    · obtain ⟨d, rfl⟩ : ∃ d, c = x :: d := by
        cases c with
        | nil => cases h1
        | cons a d => cases h1; exact ⟨d, rfl⟩
      exact disp_head hq hc (disp q (d ++ [x]) (isRed_tail hq) (cyc_rot hc) (by simp))
    · by_cases h2 : (bck c).head? = some x
      · have hcb := cyc_bck hc
        obtain ⟨d, hd⟩ : ∃ d, bck c = x :: d := by
          cases hb : bck c with
          | nil => rw [hb] at h2; cases h2
          | cons a d => rw [hb] at h2; cases h2; exact ⟨d, rfl⟩
        refine disp_flip ?_
        rw [hd] at hcb ⊢
        exact disp_head hq hcb (disp q (d ++ [x]) (isRed_tail hq) (cyc_rot hcb) (by simp))
      · have hr : isRed (bck (x :: q) ++ c ++ (x :: q)) = true := by
          refine isRed_app.mpr ⟨isRed_app.mpr ⟨isRed_bck hq, cyc_red hc, fun u v e1 e2 e3 => ?_⟩, hq, fun u v e1 e2 e3 => ?_⟩
          · rw [bck_last] at e1
            cases e1
            apply h1
            rw [e2, e3, Int.neg_neg]
          · cases e2
            rw [List.getLast?_append] at e1
            cases hl : c.getLast? with
            | none => exact hn (List.getLast?_eq_none_iff.mp hl)
            | some z =>
              rw [hl] at e1
              cases e1
              apply h2
              rw [bck_head, hl, e3]
              rfl
        have z1 : ml (x :: q) c = 0 := ml_zero fun u v e1 e2 e3 => by
          cases e1
          apply h1
          rw [e2, e3]
        have z2 : ml (x :: q) (bck c) = 0 := ml_zero fun u v e1 e2 e3 => by
          cases e1
          apply h2
          rw [e2, e3]
        unfold DispT
        rw [red_of_isRed hr, z1, z2]
        simp
        omega
/-! ### powers as lines -/
theorem rot_pow (x : Int) (d : List Int) : ∀ n : Nat, d ++ (List.replicate n (x :: d)).flatten = (List.replicate n (d ++ [x])).flatten ++ d
  | 0 => by simp
  | n + 1 => by
    rw [List.replicate_succ, List.flatten_cons, List.replicate_succ, List.flatten_cons, List.append_assoc, ← rot_pow x d n]
    simp
theorem take_pow : ∀ (k : Nat) (c : List Int) (m : Nat), k ≤ m * c.length → (List.replicate m c).flatten.take k = pre k c
  | 0, c, m, _ => by rw [List.take_zero]; rfl
  | k + 1, [], m, h => by simp at h
  | k + 1, x :: d, m, h => by
    obtain ⟨m, rfl⟩ : ∃ m', m = m' + 1 := ⟨m - 1, by
      cases m with
      | zero => simp at h
      | succ m => simp⟩
    show _ = x :: pre k (d ++ [x])
    have hk : k ≤ (List.replicate m (d ++ [x])).flatten.length + d.length := by
      rw [repf_len, List.length_append, List.length_singleton]
      rw [List.length_cons, Nat.succ_mul] at h
      omega
    rw [List.replicate_succ, List.flatten_cons, List.cons_append, List.take_succ_cons, rot_pow, ← take_pow k (d ++ [x]) (m + 1) (by
      rw [repf_len, List.length_append, List.length_singleton] at hk
      rw [List.length_append, List.length_singleton, Nat.succ_mul]
      omega), repf_succ', ← List.append_assoc, List.take_append_of_le_length (l₂ := [x]) (by rw [List.length_append]; exact hk)]
end PY
set_option maxHeartbeats 8000000
/-! LibO: shifts and axes. -/
namespace PY
open PySem L2
def b_shift_length (call : Str → List PyData → Option O) : Stm :=
  (sRet (eBi "len" [(eIx (eCall (call "core_of") [(eName 0)]) (eD (.int 1)))]))
theorem ba_shift_length (call : Str → List PyData → Option O) (e : Env) : b_shift_length call e = (sRet (eBi "len" [(eIx (eCall (call "core_of") [(eName 0)]) (eD (.int 1)))])) e := rfl
def b_axis_front (call : Str → List PyData → Option O) : Stm :=
  (sRet (eIx (eCall (call "core_of") [(eName 0)]) (eD (.int 0))))
theorem ba_axis_front (call : Str → List PyData → Option O) (e : Env) : b_axis_front call e = (sRet (eIx (eCall (call "core_of") [(eName 0)]) (eD (.int 0)))) e := rfl
def b_is_on_axis (call : Str → List PyData → Option O) : Stm :=
  (sRet (eCmp .Eq (eBi "len" [(eCall (call "reduced") [(eBin .Add (eBin .Add (eCall (call "turned_round") [(eName 1)]) (eName 0)) (eName 1))])]) (eCall (call "shift_length") [(eName 0)])))
theorem ba_is_on_axis (call : Str → List PyData → Option O) (e : Env) : b_is_on_axis call e = (sRet (eCmp .Eq (eBi "len" [(eCall (call "reduced") [(eBin .Add (eBin .Add (eCall (call "turned_round") [(eName 1)]) (eName 0)) (eName 1))])]) (eCall (call "shift_length") [(eName 0)]))) e := rfl
def l_f_law_axis_1 (call : Str → List PyData → Option O) : Ev :=
  (eBin .Add (eName 2) (eSl (eName 5) none (some (eName 6))))
@[simp] theorem la_f_law_axis_1 (call : Str → List PyData → Option O) (e : Env) : l_f_law_axis_1 call e = (eBin .Add (eName 2) (eSl (eName 5) none (some (eName 6)))) e := Eq.trans rfl rfl
def l_f_law_axis_2 (call : Str → List PyData → Option O) : Stm :=
  (sSet 4 (eTm (eBin .Add (eName 4) (eLC [6] (.one 6) (iR1 (eBin .Add (eName 1) (eD (.int 1)))) tTrue (l_f_law_axis_1 call)))))
@[simp] theorem la_f_law_axis_2 (call : Str → List PyData → Option O) (e : Env) : l_f_law_axis_2 call e = (sSet 4 (eTm (eBin .Add (eName 4) (eLC [6] (.one 6) (iR1 (eBin .Add (eName 1) (eD (.int 1)))) tTrue (l_f_law_axis_1 call))))) e := Eq.trans rfl rfl
def b_f_law_axis (call : Str → List PyData → Option O) : Stm :=
  (sSeq (sSets [2, 3] (eTm (eCall (call "_law_core") [(eName 0)])))
    (sSeq (sSet 4 (eTm (eList [])))
    (sSeq (sFor (.one 5) (iV (eList [(eBin .Mult (eName 3) (eName 1)), (eBin .Mult (eCall (call "_law_back") [(eName 3)]) (eName 1))])) (l_f_law_axis_2 call))
    (sRet (eName 4)))))
theorem ba_f_law_axis (call : Str → List PyData → Option O) (e : Env) : b_f_law_axis call e = (sSeq (sSets [2, 3] (eTm (eCall (call "_law_core") [(eName 0)])))
    (sSeq (sSet 4 (eTm (eList [])))
    (sSeq (sFor (.one 5) (iV (eList [(eBin .Mult (eName 3) (eName 1)), (eBin .Mult (eCall (call "_law_back") [(eName 3)]) (eName 1))])) (l_f_law_axis_2 call))
    (sRet (eName 4))))) e := rfl
/-! ### how far a place is moved -/
def mv (h p : List Int) : Nat := (red (bck p ++ h ++ p)).length
theorem mv_q {h p : List Int} (hl : h.length < 900000) : red (bck p ++ h ++ p) = red (bck (red (bck (front h) ++ p)) ++ core h ++ red (bck (front h) ++ p)) := by
  have e := parts hl
  refine red_ext fun x => ?_
  have key : ∀ y, Ac h y = Ac (front h ++ core h ++ bck (front h)) y := fun y => by rw [e, Ac_red]
  simp only [Ac_app, Ac_red, Ac_bckred, bck_app, bck_bck, key]
theorem mv_disp {h p : List Int} (hz : nz h) (hl : h.length < 900000) (hc : core h ≠ []) : mv h p + 2 * max (ml (red (bck (front h) ++ p)) (core h)) (ml (red (bck (front h) ++ p)) (bck (core h))) = (core h).length + 2 * (red (bck (front h) ++ p)).length := by
  unfold mv
  rw [mv_q hl]
  exact disp _ _ (red_isRed _) (cyc_of (core_isCore hz hl)) hc
theorem mv_ge {h p : List Int} (hz : nz h) (hl : h.length < 900000) : (core h).length ≤ mv h p := by
  by_cases hc : core h = []
  · rw [hc]; simp
  · have h1 := mv_disp (p := p) hz hl hc
    have h2 := ml_le (red (bck (front h) ++ p)) (core h)
    have h3 := ml_le (red (bck (front h) ++ p)) (bck (core h))
    omega
theorem mv_front {h : List Int} (hz : nz h) (hl : h.length < 900000) (hc : core h ≠ []) : mv h (front h) = (core h).length := by
  have h1 := mv_disp (p := front h) hz hl hc
  rw [Eqv.inv' (front h)] at h1
  have e : red ([] : List Int) = [] := rfl
  rw [e] at h1
  simp only [ml, List.length_nil] at h1
  omega
theorem mv_nil {h p : List Int} (hl : h.length < 900000) (hc : core h = []) : mv h p = 0 := by
  unfold mv
  rw [mv_q hl, hc, List.append_nil, Eqv.inv']
  rfl
theorem front_pre {h : List Int} (hz : nz h) (hl : h.length < 900000) (k : Nat) : isRed (front h ++ pre k (core h)) = true ∧ isRed (front h ++ pre k (bck (core h))) = true := by
  have hcy := cyc_of (core_isCore hz hl)
  have hr := red_isRed h
  rw [← parts hl] at hr
  refine ⟨isRed_pre k _ _ hcy (isRed_app.mp hr).1, isRed_pre k _ _ (cyc_bck hcy) ?_⟩
  have h2 : isRed (core h ++ bck (front h)) = true := by
    rw [List.append_assoc] at hr
    exact (isRed_app.mp hr).2.1
  have h3 := isRed_bck h2
  rwa [bck_app, bck_bck] at h3
/-- the places that are moved so little -/
theorem axis_iff {h p : List Int} (hz : nz h) (hl : h.length < 900000) (hc : core h ≠ []) (hp : isRed p = true) :
    mv h p = (core h).length ↔ ∃ k, p = front h ++ pre k (core h) ∨ p = front h ++ pre k (bck (core h)) := by
  have h1 := mv_disp (p := p) hz hl hc
  have hcb : bck (core h) ≠ [] := fun z => hc (by have := congrArg bck z; rwa [bck_bck] at this)
  have l1 := ml_le (red (bck (front h) ++ p)) (core h)
  have l2 := ml_le (red (bck (front h) ++ p)) (bck (core h))
  have hpq : p = red (front h ++ red (bck (front h) ++ p)) := by
    rw [← red_of_isRed hp]
    exact red_ext fun x => by rw [red_of_isRed hp]; simp
  constructor
  · intro e
    have hq : ml (red (bck (front h) ++ p)) (core h) = (red (bck (front h) ++ p)).length ∨ ml (red (bck (front h) ++ p)) (bck (core h)) = (red (bck (front h) ++ p)).length := by omega
    refine ⟨(red (bck (front h) ++ p)).length, ?_⟩
    rcases hq with q | q
    · left
      have q2 := (ml_pre _ _ hc).mp q
      rw [← q2]
      rw [q2] at hpq
      rw [red_of_isRed (front_pre hz hl _).1, ← q2] at hpq
      exact hpq
    · right
      have q2 := (ml_pre _ _ hcb).mp q
      rw [← q2]
      rw [q2] at hpq
      rw [red_of_isRed (front_pre hz hl _).2, ← q2] at hpq
      exact hpq
  · rintro ⟨k, q | q⟩
    · have e : red (bck (front h) ++ p) = pre k (core h) := by
        rw [q, ← red_of_isRed (isRed_pre' k (cyc_of (core_isCore hz hl)))]
        exact red_ext fun x => by rw [red_of_isRed (isRed_pre' k (cyc_of (core_isCore hz hl)))]; simp
      rw [e] at h1 l1 l2
      have := (ml_pre (pre k (core h)) (core h) hc).mpr (by rw [pre_len _ _ hc])
      omega
    · have e : red (bck (front h) ++ p) = pre k (bck (core h)) := by
        rw [q, ← red_of_isRed (isRed_pre' k (cyc_bck (cyc_of (core_isCore hz hl))))]
        exact red_ext fun x => by rw [red_of_isRed (isRed_pre' k (cyc_bck (cyc_of (core_isCore hz hl))))]; simp
      rw [e] at h1 l1 l2
      have := (ml_pre (pre k (bck (core h))) (bck (core h)) hcb).mpr (by rw [pre_len _ _ hcb])
      omega
/-! ### the axis as the law lists it -/
def axl (f line : List Int) : Nat → Nat → List (List Int)
  | _, 0 => []
  | k, m + 1 => (f ++ line.take k) :: axl f line (k + 1) m
theorem mem_axl {f line p : List Int} : ∀ {m k : Nat}, p ∈ axl f line k m ↔ ∃ j, k ≤ j ∧ j < k + m ∧ p = f ++ line.take j
  | 0, k => by simp [axl]; omega
  | m + 1, k => by
    show p ∈ _ :: axl f line (k + 1) m ↔ _
    rw [List.mem_cons, mem_axl]
    constructor
    · rintro (h | ⟨j, h1, h2, h3⟩)
      · exact ⟨k, by omega, by omega, h⟩
      · exact ⟨j, by omega, by omega, h3⟩
    · rintro ⟨j, h1, h2, h3⟩
      by_cases q : j = k
      · rw [q] at h3; exact .inl h3
      · exact .inr ⟨j, by omega, by omega, h3⟩
theorem axl_len (f line : List Int) : ∀ m k : Nat, (axl f line k m).length = m
  | 0, k => rfl
  | m + 1, k => by show (axl f line (k + 1) m).length + 1 = _; rw [axl_len f line m]
def axis (h : List Int) (most : Nat) : List (List Int) := axl (front h) (List.replicate most (core h)).flatten 0 (most + 1) ++ axl (front h) (List.replicate most (bck (core h))).flatten 0 (most + 1)
theorem axis_length (h : List Int) (most : Nat) : (axis h most).length = 2 * most + 2 := by
  unfold axis
  rw [List.length_append, axl_len, axl_len]
  omega
theorem axis_le {h : List Int} {most : Nat} {p : List Int} (hp : p ∈ axis h most) : p.length ≤ h.length + most := by
  have := front_len h
  unfold axis at hp
  rcases List.mem_append.mp hp with m | m
  · obtain ⟨j, _, h2, rfl⟩ := mem_axl.mp m
    rw [List.length_append, List.length_take]
    omega
  · obtain ⟨j, _, h2, rfl⟩ := mem_axl.mp m
    rw [List.length_append, List.length_take]
    omega
theorem mem_axis {h p : List Int} {most : Nat} (hc : core h ≠ []) : p ∈ axis h most ↔ ∃ k, k ≤ most ∧ (p = front h ++ pre k (core h) ∨ p = front h ++ pre k (bck (core h))) := by
  have cl : 0 < (core h).length := List.length_pos_iff.mpr hc
  have tk : ∀ k, k ≤ most → (List.replicate most (core h)).flatten.take k = pre k (core h) := fun k hk => take_pow k _ _ (Nat.le_trans hk (Nat.le_mul_of_pos_right _ cl))
  have tk2 : ∀ k, k ≤ most → (List.replicate most (bck (core h))).flatten.take k = pre k (bck (core h)) := fun k hk => take_pow k _ _ (by rw [bck_len]; exact Nat.le_trans hk (Nat.le_mul_of_pos_right _ cl))
  unfold axis
  rw [List.mem_append, mem_axl, mem_axl]
  constructor
  · rintro (⟨j, _, h2, rfl⟩ | ⟨j, _, h2, rfl⟩)
    · exact ⟨j, by omega, .inl (by rw [tk j (by omega)])⟩
    · exact ⟨j, by omega, .inr (by rw [tk2 j (by omega)])⟩
  · rintro ⟨k, hk, rfl | rfl⟩
    · exact .inl ⟨k, by omega, by omega, by rw [tk k hk]⟩
    · exact .inr ⟨k, by omega, by omega, by rw [tk2 k hk]⟩
/-! ### cuts of lists of words -/
def cutA {α : Type} (xs : List α) (lo hi : Option Int) : List α := (xs.drop (HT.sIx xs.length 0 lo)).take (HT.sIx xs.length xs.length hi - HT.sIx xs.length 0 lo)
@[simp] theorem cutD_dL (ws : List (List Int)) (lo hi : Option Int) : cutD (dL ws) lo hi = dL (cutA ws lo hi) := by
  unfold cutD cutA dL
  rw [List.length_map, List.map_take, List.map_drop]
theorem cutA_to {α : Type} {ws : List α} {i : Int} (h : 0 ≤ i) : cutA ws none (some i) = ws.take i.toNat := by
  unfold cutA
  rw [HT.sIx_none, sIx_pos h, List.drop_zero, Nat.sub_zero, ← List.take_take, List.take_length]
theorem pick_dL (ws : List (List Int)) (lo hi : Option Int) (k : Int) : pickL (dL ws) lo hi k = dL (pickL ws lo hi k) := by
  unfold pickL dL
  rw [List.length_map]
  induction (sliceRange (sliceBounds lo hi (some k) ws.length).1 (sliceBounds lo hi (some k) ws.length).2.1 (sliceBounds lo hi (some k) ws.length).2.2) with
  | nil => rfl
  | cons i is ih =>
    rw [List.filterMap_cons, List.filterMap_cons, List.getElem?_map, ih]
    cases ws[i]? <;> rfl
theorem cut_dl (ws : List Int) : cutI ws none (some (-1)) = ws.dropLast := by
  unfold cutI
  rw [HT.sIx_none, sIx_neg (by decide), List.drop_zero, Nat.sub_zero, List.dropLast_eq_take]
  congr 1
  omega
theorem intsOf_dI : ∀ ws : List Int, intsOf (dI ws) = some ws
  | [] => rfl
  | w :: ws => by
    show (intsOf (dI ws)).map (w :: ·) = _
    rw [intsOf_dI ws]
    rfl
theorem minL_le : ∀ (ws : List Int) (m : Int), minL m ws ≤ m ∧ (∀ w ∈ ws, minL m ws ≤ w) ∧ (minL m ws = m ∨ minL m ws ∈ ws)
  | [], m => ⟨Int.le_refl _, (fun w h => nomatch h), .inl rfl⟩
  | w :: ws, m => by
    show minL (if w < m then w else m) ws ≤ m ∧ (∀ v ∈ w :: ws, minL (if w < m then w else m) ws ≤ v) ∧ (minL (if w < m then w else m) ws = m ∨ minL (if w < m then w else m) ws ∈ w :: ws)
    by_cases q : w < m
    · rw [if_pos q]
      obtain ⟨h1, h2, h3⟩ := minL_le ws w
      refine ⟨by omega, fun v hv => ?_, ?_⟩
      · rcases List.mem_cons.mp hv with rfl | hv
        · exact h1
        · exact h2 v hv
      · rcases h3 with h3 | h3
        · rw [h3]; exact .inr List.mem_cons_self
        · exact .inr (List.mem_cons_of_mem _ h3)
    · rw [if_neg q]
      obtain ⟨h1, h2, h3⟩ := minL_le ws m
      refine ⟨h1, fun v hv => ?_, ?_⟩
      · rcases List.mem_cons.mp hv with rfl | hv
        · omega
        · exact h2 v hv
      · rcases h3 with h3 | h3
        · exact .inl h3
        · exact .inr (List.mem_cons_of_mem _ h3)
theorem minI_eq {ws : List Int} {m : Int} (h1 : m ∈ ws) (h2 : ∀ w ∈ ws, m ≤ w) : minI ws = some m := by
  cases ws with
  | nil => cases h1
  | cons w ws =>
    obtain ⟨a, b, c⟩ := minL_le ws w
    show some (minL w ws) = some m
    congr 1
    have h3 : minL w ws ≤ m := by
      rcases List.mem_cons.mp h1 with rfl | h1
      · exact a
      · exact b m h1
    have h4 : m ≤ minL w ws := by
      rcases c with c | c
      · rw [c]; exact h2 w List.mem_cons_self
      · exact h2 _ (List.mem_cons_of_mem _ c)
    omega
theorem biV_minI {ws : List Int} {m : Int} (h : minI ws = some m) : biV "min" [.list (dI ws)] = some (.int m) := by
  show (intsOf (dI ws)).bind (fun ns => (minI ns).map PyData.int) = _
  rw [intsOf_dI]
  show (minI ws).map PyData.int = _
  rw [h]
  rfl
section
variable (call : Cal)
theorem R_shift_length (h : List Int) (hc : call "core_of" [L h] = some (.otup [ow (front h), ow (core h)])) : outO (b_shift_length call [some (.frz (L h))]) = some (.frz (.int (core h).length)) := by
  rw [ba_shift_length]
  simp [hc]
theorem R_axis_front (h : List Int) (hc : call "core_of" [L h] = some (.otup [ow (front h), ow (core h)])) : outO (b_axis_front call [some (.frz (L h))]) = some (ow (front h)) := by
  rw [ba_axis_front]
  simp [hc]
theorem R_is_on_axis (h p : List Int) (hh : h.length ≤ 20000) (hp : p.length ≤ 20000) (ht : call "turned_round" [L p] = some (ow (bck p))) (hr : call "reduced" [L (bck p ++ h ++ p)] = some (ow (red (bck p ++ h ++ p))))
    (hs : call "shift_length" [L h] = some (.frz (.int (core h).length))) : outO (b_is_on_axis call [some (.frz (L h)), some (.frz (L p))]) = some (.frz (.bool (decide (mv h p = (core h).length)))) := by
  have a1 := add_lA (xs := bck p) (ys := h) (by simp; omega) (by omega)
  have a2 := add_lA (xs := bck p ++ h) (ys := p) (by simp; omega) (by omega)
  have e : ((mv h p : Nat) : Int) = ((red (bck p ++ h ++ p)).length : Int) := rfl
  rw [ba_is_on_axis]
  unfold mv at *
  generalize red (bck p ++ h ++ p) = u at *
  simp [ht, a1, a2, hr, hs, -List.append_assoc]
  omega
theorem axis_in {e0 e1 e3 e4 : Option O} {x2 : O} (f line : List Int) (hf : f.length ≤ 50000) (hl : line.length ≤ 50000) (hx : x2 = ow f ∨ x2 = .frz (L f)) : ∀ (m k : Nat) (acc : List (List Int)), k + m ≤ 10000 → acc.length ≤ k →
    lcGo [6] (.one 6) tTrue (l_f_law_axis_1 call) (rangeD (k : Int) m) [e0, e1, some x2, e3, e4, some (.frz (L line)), none] (mO acc) = some (mO (acc ++ axl f line k m), [e0, e1, some x2, e3, e4, some (.frz (L line)), none])
  | 0, k, acc, h, ha => by simp [rangeD_zero, lcGo_nil, axl]
  | m + 1, k, acc, h, ha => by
    have hz : acc.length < sizeLine := line_lt (by omega)
    have e := axis_in (e0 := e0) (e1 := e1) (e3 := e3) (e4 := e4) f line hf hl hx m (k + 1) (acc ++ [f ++ line.take k]) (by omega) (by simp; omega)
    have ct : cutI line none (some (k : Int)) = line.take k := by rw [cut_to (by omega), Int.toNat_natCast]
    have a1 := add_lA (xs := f) (ys := line.take k) (by omega) (by simp; omega)
    have er : axl f line k (m + 1) = (f ++ line.take k) :: axl f line (k + 1) m := rfl
    rw [show ((k + 1 : Nat) : Int) = (k : Int) + 1 by omega, ← mO_snoc] at e
    rw [rangeD_succ, lcGo_cons]
    rcases hx with rfl | rfl <;> simp [ct, a1, hz, e, er]
theorem R_axis (h : List Int) (most : Nat) (hh : h.length ≤ 400) (hm : most ≤ 500) (hl : (core h).length * most ≤ 30000)
    (hc : call "_law_core" [L h] = some (.otup [ow (front h), ow (core h)])) (hb : call "_law_back" [L (core h)] = some (ow (bck (core h)))) :
    outO (b_f_law_axis call [some (.frz (L h)), some (.frz (.int most)), none, none, none, none, none]) = some (.own (mL (axis h most))) := by
  have fl1 := front_len h
  have cl1 := core_len h
  have r1 := rep_li (xs := core h) (i := (most : Int)) (by omega) (by omega) (by omega)
  have r2 := rep_li (xs := bck (core h)) (i := (most : Int)) (by omega) (by omega) (by simp; omega)
  rw [Int.toNat_natCast] at r1 r2
  have g1 : (List.replicate most (core h)).flatten.length ≤ 50000 := by rw [repf_len, Nat.mul_comm]; omega
  have g2 : (List.replicate most (bck (core h))).flatten.length ≤ 50000 := by rw [repf_len, bck_len, Nat.mul_comm]; omega
  have e1 := axis_in call (e0 := some (.frz (L h))) (e1 := some (.frz (.int most))) (e3 := some (ow (core h))) (e4 := some (.own [])) (front h) _ (by omega) g1 (.inl rfl) (most + 1) 0 [] (by omega) (by simp)
  have l1 := axl_len (front h) (List.replicate most (core h)).flatten (most + 1) 0
  have e1f := axis_in call (e0 := some (.frz (L h))) (e1 := some (.frz (.int most))) (e3 := some (.frz (L (core h)))) (e4 := some (.frz (.list []))) (front h) _ (by omega) g1 (.inr rfl) (most + 1) 0 [] (by omega) (by simp)
  have l2 := axl_len (front h) (List.replicate most (bck (core h))).flatten (most + 1) 0
  have e2 := axis_in call (e0 := some (.frz (L h))) (e1 := some (.frz (.int most))) (e3 := some (ow (core h))) (e4 := some (.own (mL (axl (front h) (List.replicate most (core h)).flatten 0 (most + 1))))) (front h) _ (by omega) g2 (.inl rfl) (most + 1) 0 [] (by omega) (by simp)
  have e2f := axis_in call (e0 := some (.frz (L h))) (e1 := some (.frz (.int most))) (e3 := some (.frz (L (core h)))) (e4 := some (.frz (.list (dL (axl (front h) (List.replicate most (core h)).flatten 0 (most + 1)))))) (front h) _ (by omega) g2 (.inr rfl) (most + 1) 0 [] (by omega) (by simp)
  have rk : Rk ((most : Int) + 1) := Rk_of (by omega) (by omega)
  have tn : ((most : Int) + 1).toNat = most + 1 := by omega
  have z2 : (2 : Nat) ≤ sizeLine := line_le (by decide)
  rw [show ((0 : Nat) : Int) = 0 from rfl, mO_nil, List.nil_append] at e1 e2 e1f e2f
  have a1 : binV .Add (.list []) (.list (dL (axl (front h) (List.replicate most (core h)).flatten 0 (most + 1)))) = some (.own (.own (mL (axl (front h) (List.replicate most (core h)).flatten 0 (most + 1))))) := add_L (xs := []) (by rw [l1, List.length_nil]; omega)
  have a2 := add_L (xs := axl (front h) (List.replicate most (core h)).flatten 0 (most + 1)) (ys := axl (front h) (List.replicate most (bck (core h))).flatten 0 (most + 1)) (by rw [l1, l2]; omega)
  rw [ba_f_law_axis]
  unfold axis
  generalize axl (front h) (List.replicate most (core h)).flatten 0 (most + 1) = x1 at *
  generalize axl (front h) (List.replicate most (bck (core h))).flatten 0 (most + 1) = x2 at *
  generalize (List.replicate most (core h)).flatten = y1 at *
  generalize (List.replicate most (bck (core h))).flatten = y2 at *
  simp [hc, hb, r1, r2, z2, forGo_cons, forGo_nil, rk, tn, e1, e2, e1f, e2f, a1, a2, tm2_same, -mL_one]
end
end PY
set_option maxHeartbeats 8000000
/-! LibP: distances; powers and their cores. -/
namespace PY
open PySem L2
def l_shared_length_1 (call : Str → List PyData → Option O) : Tst :=
  (tAnd' (tV (eCmp .Lt (eName 2) (eBi "min" [(eBi "len" [(eName 0)]), (eBi "len" [(eName 1)])]))) (tV (eCmp .Eq (eIx (eName 0) (eName 2)) (eIx (eName 1) (eName 2)))))
@[simp] theorem la_shared_length_1 (call : Str → List PyData → Option O) (e : Env) : l_shared_length_1 call e = (tAnd' (tV (eCmp .Lt (eName 2) (eBi "min" [(eBi "len" [(eName 0)]), (eBi "len" [(eName 1)])]))) (tV (eCmp .Eq (eIx (eName 0) (eName 2)) (eIx (eName 1) (eName 2))))) e := Eq.trans rfl rfl
def l_shared_length_2 (call : Str → List PyData → Option O) : Stm :=
  (sSet 2 (eTm (eBin .Add (eName 2) (eD (.int 1)))))
@[simp] theorem la_shared_length_2 (call : Str → List PyData → Option O) (e : Env) : l_shared_length_2 call e = (sSet 2 (eTm (eBin .Add (eName 2) (eD (.int 1))))) e := Eq.trans rfl rfl
def b_shared_length (call : Str → List PyData → Option O) : Stm :=
  (sSeq (sSet 2 (eTm (eD (.int 0))))
    (sSeq (sWhile (l_shared_length_1 call) (l_shared_length_2 call))
    (sRet (eName 2))))
theorem ba_shared_length (call : Str → List PyData → Option O) (e : Env) : b_shared_length call e = (sSeq (sSet 2 (eTm (eD (.int 0))))
    (sSeq (sWhile (l_shared_length_1 call) (l_shared_length_2 call))
    (sRet (eName 2)))) e := rfl
def b_distance (call : Str → List PyData → Option O) : Stm :=
  (sSeq (sSet 2 (eTm (eCall (call "reduced") [(eName 0)])))
    (sSeq (sSet 3 (eTm (eCall (call "reduced") [(eName 1)])))
    (sRet (eBin .Sub (eBin .Add (eBi "len" [(eName 2)]) (eBi "len" [(eName 3)])) (eBin .Mult (eD (.int 2)) (eCall (call "shared_length") [(eName 2), (eName 3)]))))))
theorem ba_distance (call : Str → List PyData → Option O) (e : Env) : b_distance call e = (sSeq (sSet 2 (eTm (eCall (call "reduced") [(eName 0)])))
    (sSeq (sSet 3 (eTm (eCall (call "reduced") [(eName 1)])))
    (sRet (eBin .Sub (eBin .Add (eBi "len" [(eName 2)]) (eBi "len" [(eName 3)])) (eBin .Mult (eD (.int 2)) (eCall (call "shared_length") [(eName 2), (eName 3)])))))) e := rfl
/-! ### distances -/
def dst (a b : List Int) : Int := (red a).length + (red b).length - 2 * (lcp (red a) (red b) : Nat)
theorem dst_eq (a b : List Int) : dst a b = ((red (bck a ++ b)).length : Int) := by
  have h := dist_red (red a) (red b) (red_isRed a) (red_isRed b)
  have e : red (bck (red a) ++ red b) = red (bck a ++ b) := red_ext fun x => by simp
  rw [e] at h
  unfold dst
  omega
section
variable (call : Cal)
theorem sl_loop (a b : List Int) (ha : a.length < 900000) (hb : b.length < 900000) : ∀ (f k : Nat), min a.length b.length ≤ f + k → k ≤ min a.length b.length →
    whileGo (l_shared_length_1 call) (l_shared_length_2 call) (f + 1) [some (.frz (L a)), some (.frz (L b)), some (.frz (.int (k : Nat)))] = some (.next [some (.frz (L a)), some (.frz (L b)), some (.frz (.int ((k + lcp (a.drop k) (b.drop k) : Nat) : Int)))])
  | f, k, hf, hk => by
    have em : (if (b.length : Int) < (a.length : Int) then (b.length : Int) else (a.length : Int)) = ((min a.length b.length : Nat) : Int) := by split <;> omega
    have em' : (if b.length < a.length then (b.length : Int) else (a.length : Int)) = ((min a.length b.length : Nat) : Int) := by split <;> omega
    rw [whileGo_succ]
    by_cases q : k < min a.length b.length
    · have ea : a.drop k = a[k]'(by omega) :: a.drop (k + 1) := List.drop_eq_getElem_cons (by omega)
      have eb : b.drop k = b[k]'(by omega) :: b.drop (k + 1) := List.drop_eq_getElem_cons (by omega)
      have xa : atI a (k : Int) = some (a[k]'(by omega)) := by rw [atI_nat']; exact List.getElem?_eq_getElem (by omega)
      have xb : atI b (k : Int) = some (b[k]'(by omega)) := by rw [atI_nat']; exact List.getElem?_eq_getElem (by omega)
      generalize a[k]'(by omega) = u at *
      generalize b[k]'(by omega) = v at *
      rw [ea, eb]
      have qi : (k : Int) < ((min a.length b.length : Nat) : Int) := by omega
      by_cases e : u = v
      · obtain ⟨f, rfl⟩ : ∃ f', f = f' + 1 := ⟨f - 1, by omega⟩
        have ih := sl_loop a b ha hb f (k + 1) (by omega) (by omega)
        have el : lcp (u :: a.drop (k + 1)) (v :: b.drop (k + 1)) = lcp (a.drop (k + 1)) (b.drop (k + 1)) + 1 := by
          conv => lhs; unfold lcp
          rw [if_pos e]
        rw [el, show k + (lcp (a.drop (k + 1)) (b.drop (k + 1)) + 1) = k + 1 + lcp (a.drop (k + 1)) (b.drop (k + 1)) by omega]
        rw [show ((k + 1 : Nat) : Int) = (k : Int) + 1 by omega] at ih
        generalize min a.length b.length = M at *
        generalize k + 1 + lcp (a.drop (k + 1)) (b.drop (k + 1)) = R at *
        simp [em, em', qi, q, xa, xb, e, ih]
      · have el : lcp (u :: a.drop (k + 1)) (v :: b.drop (k + 1)) = 0 := by
          conv => lhs; unfold lcp
          rw [if_neg e]
        rw [el, Nat.add_zero]
        generalize min a.length b.length = M at *
        simp [em, em', qi, q, xa, xb, e]
    · have ez : lcp (a.drop k) (b.drop k) = 0 := by
        have := lcp_le (a.drop k) (b.drop k)
        rw [List.length_drop, List.length_drop] at this
        omega
      have qi : ¬ ((k : Int) < ((min a.length b.length : Nat) : Int)) := by omega
      rw [ez, Nat.add_zero]
      generalize min a.length b.length = M at *
      simp [em, em', qi, q]
theorem R_shared_length (a b : List Int) (ha : a.length < 900000) (hb : b.length < 900000) : outO (b_shared_length call [some (.frz (L a)), some (.frz (L b)), none]) = some (.frz (.int (lcp a b : Nat))) := by
  have e := sl_loop call a b ha hb 999999 0 (by omega) (by omega)
  rw [show ((0 : Nat) : Int) = 0 from rfl, List.drop_zero, List.drop_zero, Nat.zero_add] at e
  rw [ba_shared_length]
  simp [e]
theorem R_distance (a b : List Int) (h1 : call "reduced" [L a] = some (ow (red a))) (h2 : call "reduced" [L b] = some (ow (red b))) (h3 : call "shared_length" [L (red a), L (red b)] = some (.frz (.int (lcp (red a) (red b) : Nat)))) :
    outO (b_distance call [some (.frz (L a)), some (.frz (L b)), none, none]) = some (.frz (.int (dst a b))) := by
  have s2 : Sm 2 := Sm_of (by omega) (by omega)
  rw [ba_distance]
  unfold dst
  generalize red a = u at *
  generalize red b = v at *
  simp [h1, h2, h3, mul_l s2]
end
/-! ### cores of powers -/
theorem core_red (w : List Int) : core (red w) = core w ∧ front (red w) = front w := by
  unfold core front
  rw [red_red]
  exact ⟨rfl, rfl⟩
theorem red_nil_core {w : List Int} (h : red w = []) : core w = [] := by
  unfold core
  rw [h]
  rfl
theorem core_nil_red {w : List Int} (hl : w.length < 900000) (h : core w = []) : red w = [] := by
  have e := parts hl
  rw [h, front_nil hl h] at e
  exact e.symm
theorem Ac_rep {w f d : List Int} (hw : ∀ y, Ac w y = Ac (f ++ d ++ bck f) y) : ∀ (n : Nat) (x : RW), Ac (List.replicate n w).flatten x = Ac (f ++ (List.replicate n d).flatten ++ bck f) x
  | 0, x => by simp
  | n + 1, x => by
    rw [List.replicate_succ, List.flatten_cons, Ac_app, Ac_rep hw n, hw, List.replicate_succ, List.flatten_cons]
    simp
theorem rep_last {d : List Int} (hd : d ≠ []) (n : Nat) : (List.replicate (n + 1) d).flatten.getLast? = d.getLast? := by
  rw [repf_succ', List.getLast?_append]
  cases h : d.getLast? with
  | none => exact absurd (List.getLast?_eq_none_iff.mp h) hd
  | some x => rfl
theorem rep_head {d : List Int} (hd : d ≠ []) (n : Nat) : (List.replicate (n + 1) d).flatten.head? = d.head? := by
  rw [List.replicate_succ, List.flatten_cons]
  cases d with
  | nil => exact absurd rfl hd
  | cons a r => rfl
/-- the reduced word of a power -/
theorem red_rep {w f d : List Int} (hw : ∀ y, Ac w y = Ac (f ++ d ++ bck f) y) (hc : cyc d) (hd : d ≠ []) (h1 : isRed (f ++ d) = true) (h2 : isRed (d ++ bck f) = true) (n : Nat) :
    red (List.replicate (n + 1) w).flatten = f ++ (List.replicate (n + 1) d).flatten ++ bck f := by
  have hr : isRed (f ++ (List.replicate (n + 1) d).flatten ++ bck f) = true := by
    have e : (List.replicate (n + 1) d).flatten = pre ((n + 1) * d.length) d := by
      rw [← take_pow ((n + 1) * d.length) d (n + 1) (Nat.le_refl _), ← repf_len, List.take_length]
    refine isRed_app.mpr ⟨by rw [e]; exact isRed_pre _ _ _ hc h1, (isRed_app.mp h2).2.1, fun x y e1 e2 => ?_⟩
    rw [List.getLast?_append, rep_last hd] at e1
    cases hl : d.getLast? with
    | none => exact absurd (List.getLast?_eq_none_iff.mp hl) hd
    | some z =>
      rw [hl] at e1
      cases e1
      exact (isRed_app.mp h2).2.2 x y hl e2
  rw [← red_of_isRed hr]
  exact red_ext fun x => Ac_rep hw (n + 1) x
theorem core_rep {w f d : List Int} (hw : ∀ y, Ac w y = Ac (f ++ d ++ bck f) y) (hc : cyc d) (hd : d ≠ []) (h1 : isRed (f ++ d) = true) (h2 : isRed (d ++ bck f) = true) (n : Nat) (hl : (List.replicate (n + 1) w).flatten.length < 900000) :
    core (List.replicate (n + 1) w).flatten = (List.replicate (n + 1) d).flatten := by
  have e := red_rep hw hc hd h1 h2 n
  refine (core_of_parts hl e (fun z => ?_) fun z => ?_).2
  · have := congrArg List.length z
    rw [repf_len, List.length_nil] at this
    have h0 := Nat.mul_eq_zero.mp this
    have := List.length_pos_iff.mpr hd
    omega
  · rw [rep_head hd, rep_last hd] at z
    cases hh : d.head? with
    | none => cases d with
      | nil => exact hd rfl
      | cons a r => cases hh
    | some y =>
      cases hl : d.getLast? with
      | none => exact hd (List.getLast?_eq_none_iff.mp hl)
      | some x =>
        rw [hh, hl] at z
        cases z
        exact cyc_ends hc hl hh rfl
theorem core_parts {h : List Int} (hz : nz h) (hl : h.length < 900000) : cyc (core h) ∧ isRed (front h ++ core h) = true ∧ isRed (core h ++ bck (front h)) = true ∧ ∀ y, Ac h y = Ac (front h ++ core h ++ bck (front h)) y := by
  have hr := red_isRed h
  have e := parts hl
  rw [← e] at hr
  refine ⟨cyc_of (core_isCore hz hl), (isRed_app.mp hr).1, ?_, fun y => by rw [e, Ac_red]⟩
  rw [List.append_assoc] at hr
  exact (isRed_app.mp hr).2.1
theorem core_pw {h : List Int} (hz : nz h) {t : Int} (hl : t.natAbs * h.length < 900000) (hl2 : h.length < 900000) : (core (pw h t)).length = t.natAbs * (core h).length := by
  have hpl := pw_len h t
  obtain ⟨hcy, h1, h2, hA⟩ := core_parts hz hl2
  by_cases hc : core h = []
  · have hr := core_nil_red hl2 hc
    have : red (pw h t) = [] := by
      refine red_nil_of fun x => ?_
      have e1 : ∀ y, Ac h y = Ac ([] ++ [] ++ bck []) y := fun y => by rw [← Ac_red, hr]; simp [bck]
      have e2 : ∀ y, Ac (bck h) y = Ac ([] ++ [] ++ bck []) y := fun y => by rw [← Ac_bckred, hr]; simp [bck]
      unfold pw
      split
      · rw [Ac_rep e2]; simp [bck]
      · rw [Ac_rep e1]; simp [bck]
    rw [red_nil_core this, hc]
    simp
  · by_cases t0 : t = 0
    · subst t0
      have : core (pw h 0) = [] := red_nil_core (by unfold pw; simp; rfl)
      rw [this]
      simp
    · unfold pw at hpl ⊢
      by_cases q : t < 0
      · rw [if_pos q] at hpl ⊢
        obtain ⟨n, hn⟩ : ∃ n, (-t).toNat = n + 1 := ⟨(-t).toNat - 1, by omega⟩
        rw [hn] at hpl ⊢
        have hcb : bck (core h) ≠ [] := fun z => hc (by have := congrArg bck z; rwa [bck_bck] at this)
        have g1 : isRed (front h ++ bck (core h)) = true := by
          have := isRed_bck h2
          rwa [bck_app, bck_bck] at this
        have g2 : isRed (bck (core h) ++ bck (front h)) = true := by
          have := isRed_bck h1
          rwa [bck_app] at this
        have gA : ∀ y, Ac (bck h) y = Ac (front h ++ bck (core h) ++ bck (front h)) y := fun y => by
          rw [← Ac_bckred, ← parts hl2]
          simp [bck_app, bck_bck]
        rw [core_rep gA (cyc_bck hcy) hcb g1 g2 n (by omega), repf_len, bck_len]
        congr 1
        omega
      · rw [if_neg q] at hpl ⊢
        obtain ⟨n, hn⟩ : ∃ n, t.toNat = n + 1 := ⟨t.toNat - 1, by omega⟩
        rw [hn] at hpl ⊢
        rw [core_rep hA hcy hc h1 h2 n (by omega), repf_len]
        congr 1
        omega
theorem core_bck {h : List Int} (hz : nz h) (hl2 : h.length < 900000) : (core (bck h)).length = (core h).length := by
  have := core_pw hz (t := -1) (by show 1 * h.length < 900000; omega) hl2
  have e : pw h (-1) = bck h := by
    unfold pw
    rw [if_pos (by omega)]
    simp
  rw [e, show (-1 : Int).natAbs = 1 from rfl, Nat.one_mul] at this
  exact this
theorem red_sq {h : List Int} (hz : nz h) (hl2 : h.length < 400000) (hc : core h ≠ []) : (red (h ++ h)).length = (red h).length + (core h).length := by
  obtain ⟨hcy, h1, h2, hA⟩ := core_parts hz (by omega)
  have e := red_rep hA hcy hc h1 h2 1
  have e2 : (List.replicate (1 + 1) h).flatten = h ++ h := by simp
  rw [e2] at e
  rw [e, ← parts (w := h) (by omega)]
  simp only [List.length_append, bck_len, repf_len]
  omega
theorem IsRot.len {a b : List Int} (h : IsRot a b) : b.length = a.length := by
  obtain ⟨u, v, rfl, rfl⟩ := h
  simp only [List.length_append]
  omega
/-! ### the nearest place of the axis -/
def near (h p : List Int) : Nat := (red (bck (front h) ++ p)).length - max (ml (red (bck (front h) ++ p)) (core h)) (ml (red (bck (front h) ++ p)) (bck (core h)))
theorem mv_near {h p : List Int} (hz : nz h) (hl : h.length < 900000) (hc : core h ≠ []) : mv h p = (core h).length + 2 * near h p := by
  have h1 := mv_disp (p := p) hz hl hc
  have h2 := ml_le (red (bck (front h) ++ p)) (core h)
  have h3 := ml_le (red (bck (front h) ++ p)) (bck (core h))
  unfold near
  omega
theorem dst_pre {h p : List Int} {d : List Int} (hd : d ≠ []) (hcy : cyc d) (k : Nat) : dst p (front h ++ pre k d) + 2 * (min k (ml (red (bck (front h) ++ p)) d) : Nat) = ((red (bck (front h) ++ p)).length : Int) + k := by
  have h1 := dist_red (red (bck (front h) ++ p)) (pre k d) (red_isRed _) (isRed_pre' k hcy)
  have e : red (bck (red (bck (front h) ++ p)) ++ pre k d) = red (bck p ++ (front h ++ pre k d)) := red_ext fun x => by simp [bck_app, bck_bck]
  rw [e, lcp_pre k _ d hd, pre_len k d hd] at h1
  rw [dst_eq]
  omega
theorem near_min {h p : List Int} (hz : nz h) (hl : h.length < 900000) (hc : core h ≠ []) {most : Nat} (hm : p.length + (front h).length ≤ most) :
    minI ((axis h most).map fun o => dst p o) = some (near h p : Int) := by
  obtain ⟨hcy, _, _, _⟩ := core_parts hz hl
  have hcb : bck (core h) ≠ [] := fun z => hc (by have := congrArg bck z; rwa [bck_bck] at this)
  have ql := red_len (bck (front h) ++ p)
  rw [List.length_append, bck_len] at ql
  have m1 := ml_le (red (bck (front h) ++ p)) (core h)
  have m2 := ml_le (red (bck (front h) ++ p)) (bck (core h))
  refine minI_eq ?_ fun w mw => ?_
  · by_cases q : ml (red (bck (front h) ++ p)) (bck (core h)) ≤ ml (red (bck (front h) ++ p)) (core h)
    · refine List.mem_map.mpr ⟨front h ++ pre (ml (red (bck (front h) ++ p)) (core h)) (core h), (mem_axis hc).mpr ⟨_, by omega, .inl rfl⟩, ?_⟩
      have := dst_pre (h := h) (p := p) hc hcy (ml (red (bck (front h) ++ p)) (core h))
      unfold near
      omega
    · refine List.mem_map.mpr ⟨front h ++ pre (ml (red (bck (front h) ++ p)) (bck (core h))) (bck (core h)), (mem_axis hc).mpr ⟨_, by omega, .inr rfl⟩, ?_⟩
      have := dst_pre (h := h) (p := p) hcb (cyc_bck hcy) (ml (red (bck (front h) ++ p)) (bck (core h)))
      unfold near
      omega
  · obtain ⟨o, mo, rfl⟩ := List.mem_map.mp mw
    obtain ⟨k, _, rfl | rfl⟩ := (mem_axis hc).mp mo
    · have := dst_pre (h := h) (p := p) hc hcy k
      unfold near
      omega
    · have := dst_pre (h := h) (p := p) hcb (cyc_bck hcy) k
      unfold near
      omega
end PY
set_option maxHeartbeats 8000000
/-! LibQ: any data: how long it is shown, fresh copies, looked at as a word. -/
namespace PY
open PySem L2
mutual
/-- at least as much as the data is long when shown -/
def sz : D → Nat
  | .none => 4
  | .bool _ => 5
  | .int i => (PyData.shown (.int i)).length
  | .str x => (reprText x).length
  | .list xs => szA xs + 2
  | .tuple xs => szA xs + 3
  | .dict _ => 0
def szA : List D → Nat
  | [] => 0
  | x :: xs => sz x + 2 + szA xs
end
theorem piled_szA : ∀ ts : List Str, ∀ xs : List D, ts.length = xs.length → (∀ (i : Nat) (t : Str) (x : D), ts[i]? = some t → xs[i]? = some x → t.length ≤ sz x) → piled ts ≤ szA xs
  | [], [], _, _ => Nat.le_refl _
  | t :: ts, x :: xs, h, k => by
    have h1 := k 0 t x rfl rfl
    have h2 := piled_szA ts xs (by simpa using h) fun i t x a b => k (i + 1) t x (by simpa using a) (by simpa using b)
    rw [piled_cons]
    show _ ≤ sz x + 2 + szA xs
    omega
  | [], _ :: _, h, _ => by simp at h
  | _ :: _, [], h, _ => by simp at h
theorem listText_le (ts : List Str) : (listText ts).length ≤ piled ts + 2 := by
  cases ts with
  | nil => decide +kernel
  | cons t r =>
    have h := textFrom_length_pos r 1 (("[" : Str) ++ (if (0 : Nat) > 0 then ", " else "" : String) ++ t) (Nat.succ_pos 0)
    have e : ((("[" : Str) ++ (if (0 : Nat) > 0 then ", " else "" : String) ++ t)).length = 1 + t.length := by
      rw [strLen_append, strLen_append]; rfl
    have hX : (listText (t :: r)).length = (textFrom 0 "[" (t :: r)).length + 1 := by
      show (textFrom 0 "[" (t :: r) ++ "]").length = _
      rw [strLen_append]; rfl
    have hY : (textFrom 0 "[" (t :: r)).length = (textFrom 1 (("[" : Str) ++ (if (0 : Nat) > 0 then ", " else "" : String) ++ t) r).length := rfl
    rw [hX, hY, h, e, piled_cons]; omega
theorem tupleText_le (ts : List Str) : (tupleText ts).length ≤ piled ts + 3 := by
  unfold tupleText
  rw [strLen_append, strLen_append]
  have e1 : ((("(" : String) : Str)).length = 1 := rfl
  have e3 : (((if ts.length == 1 then ",)" else ")" : String) : Str)).length ≤ 2 := by split <;> decide
  rw [e1]
  by_cases h : ts = []
  · subst h
    have : (Str.join ", " ([] : List Str)).length = 0 := rfl
    omega
  · have := join_length_add ts h
    omega
mutual
theorem shown_sz : ∀ d : D, d.canLay0 = true → d.shown.length ≤ sz d
  | .none, _ => by decide +kernel
  | .bool b, _ => by cases b <;> decide +kernel
  | .int i, _ => Nat.le_refl _
  | .str x, _ => Nat.le_refl _
  | .list xs, h => by
    have h1 := shownAll_sz xs (by simpa [PyData.canLay0] using h)
    have h2 := listText_le (PyData.shownAll xs)
    show (listText (PyData.shownAll xs)).length ≤ szA xs + 2
    omega
  | .tuple xs, h => by
    have h1 := shownAll_sz xs (by simpa [PyData.canLay0] using h)
    have h2 := tupleText_le (PyData.shownAll xs)
    show (tupleText (PyData.shownAll xs)).length ≤ szA xs + 3
    omega
  | .dict _, h => by cases h
theorem shownAll_sz : ∀ xs : List D, PyData.canLayAll0 xs = true → piled (PyData.shownAll xs) ≤ szA xs
  | [], _ => Nat.le_refl _
  | x :: xs, h => by
    have h' : x.canLay0 = true ∧ PyData.canLayAll0 xs = true := by simpa [PyData.canLayAll0] using h
    have h1 := shown_sz x h'.1
    have h2 := shownAll_sz xs h'.2
    show piled (x.shown :: PyData.shownAll xs) ≤ sz x + 2 + szA xs
    rw [piled_cons]
    omega
end
/-- data that may be shown and copied -/
structure Gd (d : D) : Prop where
  lay : d.canLay0 = true
  shw : d.showable = true
  dep : d.depth ≤ 10
  sz : PY.sz d ≤ 900000
theorem Gd.repr {d : D} (h : Gd d) : biV "repr" [d] = some (.str d.shown) := by
  have h1 := shown_sz d h.lay
  have h2 := h.sz
  have hz : d.shown.length ≤ sizeLine := line_le (by omega)
  rw [biV_repr, if_pos ⟨h.lay, h.shw, by have := h.dep; omega, hz⟩]
theorem szA_len : ∀ xs : List D, xs.length ≤ szA xs
  | [] => Nat.le_refl _
  | x :: xs => by
    have := szA_len xs
    show xs.length + 1 ≤ sz x + 2 + szA xs
    omega
theorem szA_app : ∀ xs ys : List D, szA (xs ++ ys) = szA xs + szA ys
  | [], ys => by simp [szA]
  | x :: xs, ys => by
    show sz x + 2 + szA (xs ++ ys) = sz x + 2 + szA xs + szA ys
    rw [szA_app xs ys]
    omega
theorem layA_app : ∀ xs ys : List D, PyData.canLayAll0 (xs ++ ys) = (PyData.canLayAll0 xs && PyData.canLayAll0 ys)
  | [], ys => by simp [PyData.canLayAll0]
  | x :: xs, ys => by simp [PyData.canLayAll0, layA_app xs ys, Bool.and_assoc]
theorem shwA_app : ∀ xs ys : List D, PyData.showableAll (xs ++ ys) = (PyData.showableAll xs && PyData.showableAll ys)
  | [], ys => by simp [PyData.showableAll]
  | x :: xs, ys => by simp [PyData.showableAll, shwA_app xs ys, Bool.and_assoc]
theorem depA_app : ∀ xs ys : List D, PyData.depthAll (xs ++ ys) = max (PyData.depthAll xs) (PyData.depthAll ys)
  | [], ys => by simp [PyData.depthAll]
  | x :: xs, ys => by simp [PyData.depthAll, depA_app xs ys, Nat.max_assoc]
/-- lists of such data, by their parts -/
structure GdA (xs : List D) (n k : Nat) : Prop where
  lay : PyData.canLayAll0 xs = true
  shw : PyData.showableAll xs = true
  dep : PyData.depthAll xs ≤ n
  sz : szA xs ≤ k
theorem GdA.app {xs ys : List D} {n k l : Nat} (h : GdA xs n k) (g : GdA ys n l) : GdA (xs ++ ys) n (k + l) where
  lay := by rw [layA_app, h.lay, g.lay]; rfl
  shw := by rw [shwA_app, h.shw, g.shw]; rfl
  dep := by rw [depA_app]; have := h.dep; have := g.dep; omega
  sz := by rw [szA_app]; have := h.sz; have := g.sz; omega
theorem GdA.nil {n : Nat} : GdA [] n 0 := ⟨rfl, rfl, Nat.zero_le _, Nat.le_refl _⟩
theorem GdA.one {d : D} {n k : Nat} (h1 : d.canLay0 = true) (h2 : d.showable = true) (h3 : d.depth ≤ n) (h4 : PY.sz d + 2 ≤ k) : GdA [d] n k := ⟨by simp [PyData.canLayAll0, h1], by simp [PyData.showableAll, h2], by simp [PyData.depthAll, h3], h4⟩
theorem GdA.list {xs : List D} {n k : Nat} (h : GdA xs n k) (h1 : n ≤ 9) (h2 : k ≤ 800000) : Gd (.list xs) where
  lay := by simpa [PyData.canLay0] using h.lay
  shw := by simpa [PyData.showable] using h.shw
  dep := by have := h.dep; simp only [PyData.depth]; omega
  sz := by have := h.sz; show szA xs + 2 ≤ _; omega
theorem GdA.tup {xs : List D} {n k : Nat} (h : GdA xs n k) (h1 : n ≤ 9) (h2 : k ≤ 800000) : Gd (.tuple xs) where
  lay := by simpa [PyData.canLay0] using h.lay
  shw := by simpa [PyData.showable] using h.shw
  dep := by have := h.dep; simp only [PyData.depth]; omega
  sz := by have := h.sz; show szA xs + 3 ≤ _; omega
theorem sz_small {i : Int} (h1 : -9 ≤ i) (h2 : i ≤ 9) : sz (.int i) ≤ 2 ∧ PyData.showable (.int i) = true := by
  have : i = -9 ∨ i = -8 ∨ i = -7 ∨ i = -6 ∨ i = -5 ∨ i = -4 ∨ i = -3 ∨ i = -2 ∨ i = -1 ∨ i = 0 ∨ i = 1 ∨ i = 2 ∨ i = 3 ∨ i = 4 ∨ i = 5 ∨ i = 6 ∨ i = 7 ∨ i = 8 ∨ i = 9 := by omega
  rcases this with rfl | rfl | rfl | rfl | rfl | rfl | rfl | rfl | rfl | rfl | rfl | rfl | rfl | rfl | rfl | rfl | rfl | rfl | rfl <;> decide +kernel
theorem GdA.ints {n : Nat} : ∀ {ws : List Int}, (∀ w ∈ ws, -9 ≤ w ∧ w ≤ 9) → GdA (dI ws) n (4 * ws.length)
  | [], _ => GdA.nil
  | w :: ws, h => by
    have h1 := sz_small (h w List.mem_cons_self).1 (h w List.mem_cons_self).2
    have ih := GdA.ints (n := n) (ws := ws) fun v m => h v (List.mem_cons_of_mem _ m)
    have := (GdA.one (d := .int w) (n := n) (k := 4) rfl h1.2 (Nat.zero_le _) (by omega)).app ih
    rw [dI_cons]
    refine ⟨this.lay, this.shw, this.dep, ?_⟩
    have := this.sz
    simp only [List.length_cons]
    exact Nat.le_trans this (by omega)
/-! ### fresh copies of any data -/
def FreshAt (call : Cal) (x : D) : Prop := ∃ o : O, call "_law_fresh" [x] = some o ∧ o.d = x ∧ o.self = true
section
variable (call : Cal)
theorem selfs_app : ∀ a b : List O, O.selfs (a ++ b) = (O.selfs a && O.selfs b)
  | [], b => rfl
  | o :: a, b => by
    show (o.self && O.selfs (a ++ b)) = ((o.self && O.selfs a) && O.selfs b)
    rw [selfs_app a b, Bool.and_assoc]
theorem tk_ofO {e : Env} (o : O) : tk (ofO o) e = (o, e) := by cases o <;> rfl
theorem anyf_1 {W : PyData} : ∀ (ds : List D) (os : List O), (∀ x ∈ ds, FreshAt call x) → os.length + ds.length < 1000000 → O.selfs os = true →
    ∃ os', O.ds os' = O.ds os ++ ds ∧ O.selfs os' = true ∧ lcGo [1] (.one 1) tTrue (l_f_law_fresh_1 call) ds [some (.frz W), none] os = some (os', [some (.frz W), none])
  | [], os, _, _, hs => ⟨os, by simp, hs, by simp [lcGo_nil]⟩
  | d :: ds, os, h, hl, hs => by
    obtain ⟨o, h1, h2, h3⟩ := h d List.mem_cons_self
    have hz : os.length < sizeLine := line_lt (by simp at hl; omega)
    obtain ⟨os', e1, e2, e⟩ := anyf_1 (W := W) ds (os ++ [o]) (fun x m => h x (List.mem_cons_of_mem _ m)) (by simp at hl ⊢; omega) (by rw [selfs_app, hs]; show (true && (o.self && true)) = true; rw [h3]; rfl)
    refine ⟨os', ?_, e2, ?_⟩
    · rw [e1, ds_app, show O.ds [o] = [o.d] from rfl, h2]
      simp
    · rw [lcGo_cons]
      simp [h1, h3, hz, tk_ofO, e, -mL_snoc]
theorem anyf_2 {W : PyData} : ∀ (ds : List D) (os : List O), (∀ x ∈ ds, FreshAt call x) → os.length + ds.length < 1000000 → O.selfs os = true →
    ∃ os', O.ds os' = O.ds os ++ ds ∧ O.selfs os' = true ∧ lcGo [1] (.one 1) tTrue (l_f_law_fresh_2 call) ds [some (.frz W), none] os = some (os', [some (.frz W), none])
  | [], os, _, _, hs => ⟨os, by simp, hs, by simp [lcGo_nil]⟩
  | d :: ds, os, h, hl, hs => by
    obtain ⟨o, h1, h2, h3⟩ := h d List.mem_cons_self
    have hz : os.length < sizeLine := line_lt (by simp at hl; omega)
    obtain ⟨os', e1, e2, e⟩ := anyf_2 (W := W) ds (os ++ [o]) (fun x m => h x (List.mem_cons_of_mem _ m)) (by simp at hl ⊢; omega) (by rw [selfs_app, hs]; show (true && (o.self && true)) = true; rw [h3]; rfl)
    refine ⟨os', ?_, e2, ?_⟩
    · rw [e1, ds_app, show O.ds [o] = [o.d] from rfl, h2]
      simp
    · rw [lcGo_cons]
      simp [h1, h3, hz, tk_ofO, e, -mL_snoc]
theorem R_fresh_any (d : D) (hl : d.canLay0 = true) (hsz : sz d < 1000000) (h : ∀ xs, (d = .list xs ∨ d = .tuple xs) → ∀ x ∈ xs, FreshAt call x) :
    ∃ o, outO (b_f_law_fresh call [some (.frz d), none]) = some o ∧ o.d = d ∧ o.self = true := by
  cases d with
  | dict _ => cases hl
  | none => exact ⟨.frz .none, by
      have h1 : isInst "list" .none = some false := rfl
      have h2 : isInst "tuple" .none = some false := rfl
      rw [ba_f_law_fresh]; simp [h1, h2], rfl, rfl⟩
  | bool b => exact ⟨.frz (.bool b), by
      have h1 : isInst "list" (.bool b) = some false := rfl
      have h2 : isInst "tuple" (.bool b) = some false := rfl
      rw [ba_f_law_fresh]; simp [h1, h2], rfl, rfl⟩
  | int i => exact ⟨.frz (.int i), R_fresh_int call i, rfl, rfl⟩
  | str x => exact ⟨.frz (.str x), R_fresh_str call x, rfl, rfl⟩
  | list xs =>
    have hl2 := szA_len xs
    have hsz : szA xs + 2 < 1000000 := hsz
    obtain ⟨os, e1, e2, e⟩ := anyf_1 call (W := .list xs) xs [] (h xs (.inl rfl)) (by simp; omega) rfl
    have h1 : isInst "list" (.list xs) = some true := rfl
    refine ⟨.own os, ?_, by show PyData.list (O.ds os) = _; rw [e1]; rfl, e2⟩
    rw [ba_f_law_fresh]
    simp [h1, e]
  | tuple xs =>
    have hl2 := szA_len xs
    have hsz : szA xs + 3 < 1000000 := hsz
    obtain ⟨os, e1, e2, e⟩ := anyf_2 call (W := .tuple xs) xs [] (h xs (.inr rfl)) (by simp; omega) rfl
    have h1 : isInst "list" (.tuple xs) = some false := rfl
    have h2 : isInst "tuple" (.tuple xs) = some true := rfl
    refine ⟨.otup os, ?_, by show PyData.tuple (O.ds os) = _; rw [e1]; rfl, e2⟩
    rw [ba_f_law_fresh]
    simp [h1, h2, e]
end
theorem sz_mem {x : D} : ∀ {xs : List D}, x ∈ xs → sz x ≤ szA xs
  | y :: ys, h => by
    show _ ≤ sz y + 2 + szA ys
    rcases List.mem_cons.mp h with rfl | h
    · omega
    · have := sz_mem h; omega
theorem lay_mem {x : D} : ∀ {xs : List D}, PyData.canLayAll0 xs = true → x ∈ xs → x.canLay0 = true
  | y :: ys, h, m => by
    have h' : y.canLay0 = true ∧ PyData.canLayAll0 ys = true := by simpa [PyData.canLayAll0] using h
    rcases List.mem_cons.mp m with rfl | m
    · exact h'.1
    · exact lay_mem h'.2 m
theorem dep_mem {x : D} : ∀ {xs : List D}, x ∈ xs → x.depth ≤ PyData.depthAll xs
  | y :: ys, m => by
    simp only [PyData.depthAll]
    rcases List.mem_cons.mp m with rfl | m
    · omega
    · have := dep_mem m; omega
end PY
set_option maxHeartbeats 8000000
/-! LibR: any data looked at as a word. -/
namespace PY
open PySem L2
def b_is_number (call : Str → List PyData → Option O) : Stm :=
  (sRet (eAnd (eIsi "int" (eName 0)) (eNot (eIsi "bool" (eName 0)))))
theorem ba_is_number (call : Str → List PyData → Option O) (e : Env) : b_is_number call e = (sRet (eAnd (eIsi "int" (eName 0)) (eNot (eIsi "bool" (eName 0))))) e := rfl
def b_is_sign (call : Str → List PyData → Option O) : Stm :=
  (sRet (eAnd (eCall (call "is_number") [(eName 1)]) (eAnd (eCmp .NotEq (eName 1) (eD (.int 0))) (eCmp2 .LtE .LtE (eNeg (eName 0)) (eName 1) (eName 0)))))
theorem ba_is_sign (call : Str → List PyData → Option O) (e : Env) : b_is_sign call e = (sRet (eAnd (eCall (call "is_number") [(eName 1)]) (eAnd (eCmp .NotEq (eName 1) (eD (.int 0))) (eCmp2 .LtE .LtE (eNeg (eName 0)) (eName 1) (eName 0))))) e := rfl
def l_is_word_1 (call : Str → List PyData → Option O) : Stm :=
  (sIf (tNot' (tV (eCall (call "is_sign") [(eName 0), (eName 2)])))
    (sRet (eD (.bool false)))
    sNext)
@[simp] theorem la_is_word_1 (call : Str → List PyData → Option O) (e : Env) : l_is_word_1 call e = (sIf (tNot' (tV (eCall (call "is_sign") [(eName 0), (eName 2)])))
    (sRet (eD (.bool false)))
    sNext) e := Eq.trans rfl rfl
def b_is_word (call : Str → List PyData → Option O) : Stm :=
  (sSeq (sIf (tNot' (tV (eIsi "list" (eName 1))))
    (sRet (eD (.bool false)))
    sNext)
    (sSeq (sFor (.one 2) (iV (eName 1)) (l_is_word_1 call))
    (sRet (eD (.bool true)))))
theorem ba_is_word (call : Str → List PyData → Option O) (e : Env) : b_is_word call e = (sSeq (sIf (tNot' (tV (eIsi "list" (eName 1))))
    (sRet (eD (.bool false)))
    sNext)
    (sSeq (sFor (.one 2) (iV (eName 1)) (l_is_word_1 call))
    (sRet (eD (.bool true))))) e := rfl
def isI : D → Bool
  | .int _ => true
  | _ => false
def okI (l : Int) : D → Bool
  | .int i => decide (i ≠ 0) && (decide (-l ≤ i) && decide (i ≤ l))
  | _ => false
def okW (l : Int) : D → Bool
  | .list ds => ds.all (okI l)
  | _ => false
theorem sSeq_nx {a b : Stm} {env e' : Env} (h : a env = some (.next e')) : sSeq a b env = b e' := by
  unfold sSeq
  rw [h]
  rfl
theorem selfR_ofO (o : O) : selfR (ofO o) = o.self := by cases o <;> rfl
theorem Rd_ofO (o : O) : (ofO o).d = o.d := by cases o <;> rfl
section
variable (call : Cal)
theorem R_is_number_any (d : D) (hl : d.canLay0 = true) : outO (b_is_number call [some (.frz d)]) = some (.frz (.bool (isI d))) := by
  rw [ba_is_number]
  cases d with
  | dict _ => cases hl
  | none => have h1 : isInst "int" .none = some false := rfl
            simp [h1, isI]
  | bool b => have h1 : isInst "int" (.bool b) = some true := rfl
              have h2 : isInst "bool" (.bool b) = some true := rfl
              simp [h1, h2, isI]
  | int i => have h1 : isInst "int" (.int i) = some true := rfl
             have h2 : isInst "bool" (.int i) = some false := rfl
             simp [h1, h2, isI]
  | str x => have h1 : isInst "int" (.str x) = some false := rfl
             simp [h1, isI]
  | list xs => have h1 : isInst "int" (.list xs) = some false := rfl
               simp [h1, isI]
  | tuple xs => have h1 : isInst "int" (.tuple xs) = some false := rfl
                simp [h1, isI]
theorem R_law_is_number_any (d : D) (hl : d.canLay0 = true) : outO (b_f_law_is_number call [some (.frz d)]) = some (.frz (.bool (isI d))) := by
  rw [ba_f_law_is_number]
  cases d with
  | dict _ => cases hl
  | none => have h1 : isInst "int" .none = some false := rfl
            simp [h1, isI]
  | bool b => have h1 : isInst "int" (.bool b) = some true := rfl
              have h2 : isInst "bool" (.bool b) = some true := rfl
              simp [h1, h2, isI]
  | int i => have h1 : isInst "int" (.int i) = some true := rfl
             have h2 : isInst "bool" (.int i) = some false := rfl
             simp [h1, h2, isI]
  | str x => have h1 : isInst "int" (.str x) = some false := rfl
             simp [h1, isI]
  | list xs => have h1 : isInst "int" (.list xs) = some false := rfl
               simp [h1, isI]
  | tuple xs => have h1 : isInst "int" (.tuple xs) = some false := rfl
                simp [h1, isI]
theorem R_is_sign_any (l : Int) (d : D) (h : call "is_number" [d] = some (.frz (.bool (isI d)))) : outO (b_is_sign call [some (.frz (.int l)), some (.frz d)]) = some (.frz (.bool (okI l d))) := by
  rw [ba_is_sign]
  cases d with
  | int i =>
    have h : call "is_number" [.int i] = some (.frz (.bool true)) := h
    unfold okI
    by_cases q : i = 0
    · subst q; simp [h]
    · by_cases q2 : -l ≤ i
      · simp [h, q, q2]
      · simp [h, q, q2]
  | dict _ => have h : call "is_number" [_] = some (.frz (.bool false)) := h
              simp [h, okI]
  | none => have h : call "is_number" [_] = some (.frz (.bool false)) := h
            simp [h, okI]
  | bool b => have h : call "is_number" [_] = some (.frz (.bool false)) := h
              simp [h, okI]
  | str x => have h : call "is_number" [_] = some (.frz (.bool false)) := h
             simp [h, okI]
  | list xs => have h : call "is_number" [_] = some (.frz (.bool false)) := h
               simp [h, okI]
  | tuple xs => have h : call "is_number" [_] = some (.frz (.bool false)) := h
                simp [h, okI]
theorem isw_loop (l : Int) {W : PyData} : ∀ (ds : List D) (y : Option O), (∀ d ∈ ds, call "is_sign" [.int l, d] = some (.frz (.bool (okI l d)))) →
    ∃ y', forGo (.one 2) (l_is_word_1 call) ds [some (.frz (.int l)), some (.frz W), y] = some (if ds.all (okI l) = true then .next [some (.frz (.int l)), some (.frz W), y'] else .ret (.frz (.bool false)))
  | [], y, _ => ⟨y, by simp [forGo_nil]⟩
  | d :: ds, y, h => by
    have h1 := h d List.mem_cons_self
    obtain ⟨y', e⟩ := isw_loop l (W := W) ds (some (.frz d)) fun x m => h x (List.mem_cons_of_mem _ m)
    refine ⟨y', ?_⟩
    rw [forGo_cons, List.all_cons]
    cases q : okI l d
    · simp [h1, q]
    · simp [h1, q, e]
theorem R_is_word_any (l : Int) (d : D) (hl : d.canLay0 = true) (h : ∀ ds, d = .list ds → ∀ x ∈ ds, call "is_sign" [.int l, x] = some (.frz (.bool (okI l x)))) : outO (b_is_word call [some (.frz (.int l)), some (.frz d), none]) = some (.frz (.bool (okW l d))) := by
  rw [ba_is_word]
  cases d with
  | dict _ => cases hl
  | none => have h1 : isInst "list" .none = some false := rfl
            simp [h1, okW]
  | bool b => have h1 : isInst "list" (.bool b) = some false := rfl
              simp [h1, okW]
  | int i => have h1 : isInst "list" (.int i) = some false := rfl
             simp [h1, okW]
  | str x => have h1 : isInst "list" (.str x) = some false := rfl
             simp [h1, okW]
  | tuple xs => have h1 : isInst "list" (.tuple xs) = some false := rfl
                simp [h1, okW]
  | list xs =>
    have h1 : isInst "list" (.list xs) = some true := rfl
    obtain ⟨y', e⟩ := isw_loop call l (W := .list xs) xs none (h xs rfl)
    change _ = some (O.frz (.bool (xs.all (okI l))))
    cases q : xs.all (okI l)
    · rw [q] at e; simp at e; simp [h1, e]
    · rw [q] at e; simp at e; simp [h1, e]
theorem lisw_loop (l : Int) {W : PyData} : ∀ (ds : List D) (y : Option O), (∀ d ∈ ds, call "_law_is_number" [d] = some (.frz (.bool (isI d)))) →
    ∃ y', forGo (.one 2) (l_f_law_is_word_1 call) ds [some (.frz (.int l)), some (.frz W), y] = some (if ds.all (okI l) = true then .next [some (.frz (.int l)), some (.frz W), y'] else .ret (.frz (.bool false)))
  | [], y, _ => ⟨y, by simp [forGo_nil]⟩
  | d :: ds, y, h => by
    have h1 := h d List.mem_cons_self
    obtain ⟨y', e⟩ := lisw_loop l (W := W) ds (some (.frz d)) fun x m => h x (List.mem_cons_of_mem _ m)
    refine ⟨y', ?_⟩
    rw [forGo_cons, List.all_cons]
    cases d with
    | int i =>
      have h1 : call "_law_is_number" [.int i] = some (.frz (.bool true)) := h1
      unfold okI at e ⊢
      by_cases q : i = 0
      · subst q; simp [h1]
      · by_cases q2 : l < i
        · have q3 : ¬ (i ≤ l) := by omega
          simp [h1, q, q2, q3]
        · by_cases q4 : i < -l
          · have q5 : ¬ (-l ≤ i) := by omega
            simp [h1, q, q2, q4, q5]
          · have q3 : i ≤ l := by omega
            have q5 : -l ≤ i := by omega
            simp [h1, q, q2, q4, q3, q5, e]
    | dict _ => have h1 : call "_law_is_number" [_] = some (.frz (.bool false)) := h1
                simp [h1, okI]
    | none => have h1 : call "_law_is_number" [_] = some (.frz (.bool false)) := h1
              simp [h1, okI]
    | bool b => have h1 : call "_law_is_number" [_] = some (.frz (.bool false)) := h1
                simp [h1, okI]
    | str x => have h1 : call "_law_is_number" [_] = some (.frz (.bool false)) := h1
               simp [h1, okI]
    | list xs => have h1 : call "_law_is_number" [_] = some (.frz (.bool false)) := h1
                 simp [h1, okI]
    | tuple xs => have h1 : call "_law_is_number" [_] = some (.frz (.bool false)) := h1
                  simp [h1, okI]
theorem R_law_is_word_any (l : Int) (d : D) (hl : d.canLay0 = true) (h : ∀ ds, d = .list ds → ∀ x ∈ ds, call "_law_is_number" [x] = some (.frz (.bool (isI x)))) : outO (b_f_law_is_word call [some (.frz (.int l)), some (.frz d), none]) = some (.frz (.bool (okW l d))) := by
  rw [ba_f_law_is_word]
  cases d with
  | dict _ => cases hl
  | none => have h1 : isInst "list" .none = some false := rfl
            simp [h1, okW]
  | bool b => have h1 : isInst "list" (.bool b) = some false := rfl
              simp [h1, okW]
  | int i => have h1 : isInst "list" (.int i) = some false := rfl
             simp [h1, okW]
  | str x => have h1 : isInst "list" (.str x) = some false := rfl
             simp [h1, okW]
  | tuple xs => have h1 : isInst "list" (.tuple xs) = some false := rfl
                simp [h1, okW]
  | list xs =>
    have h1 : isInst "list" (.list xs) = some true := rfl
    obtain ⟨y', e⟩ := lisw_loop call l (W := .list xs) xs none (h xs rfl)
    change _ = some (O.frz (.bool (xs.all (okI l))))
    cases q : xs.all (okI l)
    · rw [q] at e; simp at e; simp [h1, e]
    · rw [q] at e; simp at e; simp [h1, e]
end
end PY
set_option maxHeartbeats 8000000
/-! LibS: ways between places, places in the middle. -/
namespace PY
open PySem L2
theorem lcp_comm : ∀ a b : List Int, lcp a b = lcp b a
  | [], b => by rw [lcp_nil]; cases b <;> rfl
  | a :: as, [] => by rw [lcp_nil]; rfl
  | a :: as, b :: bs => by
    unfold lcp
    rw [lcp_comm as bs]
    by_cases q : a = b
    · rw [if_pos q, if_pos q.symm]
    · rw [if_neg q, if_neg fun z => q z.symm]
theorem lcp_ult : ∀ a p b : List Int, min (lcp a p) (lcp p b) ≤ lcp a b
  | [], p, b => by have : lcp [] p = 0 := by cases p <;> rfl
                   omega
  | a :: as, [], b => by rw [lcp_nil]; omega
  | a :: as, p :: ps, [] => by rw [lcp_nil, lcp_nil]; omega
  | a :: as, p :: ps, b :: bs => by
    have ih := lcp_ult as ps bs
    unfold lcp
    by_cases q : a = p
    · by_cases q2 : p = b
      · rw [if_pos q, if_pos q2, if_pos (q.trans q2)]; omega
      · rw [if_neg q2]; omega
    · rw [if_neg q]; omega
theorem lcp_take : ∀ (k : Nat) (a b : List Int), lcp (a.take k) b = min k (lcp a b)
  | 0, a, b => by rw [List.take_zero]; cases b <;> simp [lcp]
  | k + 1, [], b => by rw [List.take_nil]; have : lcp [] b = 0 := by cases b <;> rfl
                       omega
  | k + 1, a :: as, [] => by rw [lcp_nil, lcp_nil]; omega
  | k + 1, a :: as, b :: bs => by
    have ih := lcp_take k as bs
    rw [List.take_succ_cons]
    unfold lcp
    by_cases q : a = b
    · rw [if_pos q, if_pos q]; omega
    · rw [if_neg q, if_neg q]; omega
theorem lcp_self : ∀ a : List Int, lcp a a = a.length
  | [] => rfl
  | a :: as => by unfold lcp; rw [if_pos rfl, lcp_self as, List.length_cons]
theorem take_lcp : ∀ a b : List Int, a.take (lcp a b) = b.take (lcp a b)
  | [], b => by have : lcp [] b = 0 := by cases b <;> rfl
                rw [this]; rfl
  | a :: as, [] => by rw [lcp_nil]; rfl
  | a :: as, b :: bs => by
    unfold lcp
    by_cases q : a = b
    · rw [if_pos q, List.take_succ_cons, List.take_succ_cons, take_lcp as bs, q]
    · rw [if_neg q]; rfl
theorem lcp_full {a p : List Int} (h : lcp a p = p.length) : p = a.take p.length := by
  have := take_lcp a p
  rw [h, List.take_length] at this
  exact this.symm
/-- p lies on the way from a to b -/
def Btw (a p b : List Int) : Prop := p.length + lcp a b = lcp a p + lcp p b
/-- the steps between two reduced words -/
def dl (a b : List Int) : Int := (a.length : Int) + b.length - 2 * (lcp a b : Nat)
theorem dst_dl (x y : List Int) : dst x y = dl (red x) (red y) := rfl
theorem dl_comm (a b : List Int) : dl a b = dl b a := by unfold dl; rw [lcp_comm]; omega
theorem btw_dl {a p b : List Int} : Btw a p b ↔ dl a p + dl p b = dl a b := by
  unfold Btw dl
  omega
theorem Btw.symm {a p b : List Int} (h : Btw a p b) : Btw b p a := by
  unfold Btw at h ⊢
  rw [lcp_comm b a, lcp_comm b p, lcp_comm p a]; omega
/-- the places on the way -/
def wayAt (a b : List Int) (k : Nat) : List Int := if k ≤ a.length - lcp a b then a.take (a.length - k) else b.take (2 * lcp a b + k - a.length)
def wlen (a b : List Int) : Nat := a.length + b.length - 2 * lcp a b + 1
def wayL (a b : List Int) : List (List Int) := (List.range (wlen a b)).map (wayAt a b)
theorem wayAt_len (a b : List Int) {k : Nat} (h : k < wlen a b) : (wayAt a b k).length = if k ≤ a.length - lcp a b then a.length - k else 2 * lcp a b + k - a.length := by
  have l1 := lcp_le a b
  unfold wlen at h
  unfold wayAt
  split
  · rw [List.length_take]; omega
  · rw [List.length_take]; omega
theorem wayAt_btw (a b : List Int) {k : Nat} (h : k < wlen a b) : Btw a (wayAt a b k) b ∧ dl a (wayAt a b k) = k := by
  have l1 := lcp_le a b
  have e := wayAt_len a b h
  unfold wlen at h
  unfold Btw dl
  rw [e]
  unfold wayAt
  split
  · rw [lcp_comm a (a.take _), lcp_take, lcp_take, lcp_self]; omega
  · rw [lcp_comm a (b.take _), lcp_take, lcp_take, lcp_self, lcp_comm b a]; omega
theorem btw_way {a p b : List Int} (h : Btw a p b) : p ∈ wayL a b := by
  have l1 := lcp_le a b
  have l2 := lcp_le a p
  have l3 := lcp_le p b
  have u := lcp_ult a p b
  unfold Btw at h
  unfold wayL
  rw [List.mem_map]
  by_cases q : lcp a p = p.length
  · have e := lcp_full q
    refine ⟨a.length - p.length, by rw [List.mem_range]; unfold wlen; omega, ?_⟩
    unfold wayAt
    rw [if_pos (by omega), show a.length - (a.length - p.length) = p.length by omega]
    exact e.symm
  · have q2 : lcp b p = p.length := by rw [lcp_comm]; omega
    have e := lcp_full q2
    by_cases q3 : p.length = lcp a b
    · omega
    · refine ⟨a.length + p.length - 2 * lcp a b, by rw [List.mem_range]; unfold wlen; omega, ?_⟩
      unfold wayAt
      rw [if_neg (by omega), show 2 * lcp a b + (a.length + p.length - 2 * lcp a b) - a.length = p.length by omega]
      exact e.symm
theorem way_btw {a p b : List Int} (h : p ∈ wayL a b) : Btw a p b := by
  unfold wayL at h
  obtain ⟨k, hk, rfl⟩ := List.mem_map.mp h
  exact (wayAt_btw a b (List.mem_range.mp hk)).1
theorem wayL_len (a b : List Int) : (wayL a b).length = wlen a b := by unfold wayL; rw [List.length_map, List.length_range]
theorem wayL_get (a b : List Int) {k : Nat} (h : k < wlen a b) : (wayL a b)[k]? = some (wayAt a b k) := by
  unfold wayL
  rw [List.getElem?_map, List.getElem?_range h]
  rfl
theorem wlen_comm (a b : List Int) : wlen a b = wlen b a := by unfold wlen; rw [lcp_comm]; omega
theorem wlen_dl (a b : List Int) : (wlen a b : Int) = dl a b + 1 := by
  have l1 := lcp_le a b
  unfold wlen dl
  omega
theorem wayL_nodup (a b : List Int) : (wayL a b).Nodup := by
  unfold wayL List.Nodup
  rw [List.pairwise_map]
  refine List.Pairwise.imp_of_mem ?_ (List.pairwise_lt_range (n := wlen a b))
  intro i j hi hj hij e
  have h1 := (wayAt_btw a b (List.mem_range.mp hi)).2
  have h2 := (wayAt_btw a b (List.mem_range.mp hj)).2
  rw [e] at h1
  omega
theorem wayL_rev (a b : List Int) : wayL b a = (wayL a b).reverse := by
  have l1 := lcp_le a b
  apply List.ext_getElem?
  intro k
  by_cases hk : k < wlen a b
  · rw [wayL_get b a (by rw [wlen_comm]; exact hk), List.getElem?_reverse (by rw [wayL_len]; exact hk), wayL_len, wayL_get a b (by omega)]
    congr 1
    unfold wayAt
    rw [lcp_comm b a]
    unfold wlen at hk ⊢
    by_cases q1 : k ≤ b.length - lcp a b
    · rw [if_pos q1]
      by_cases q2 : a.length + b.length - 2 * lcp a b + 1 - 1 - k ≤ a.length - lcp a b
      · rw [if_pos q2]
        have e1 : b.length - k = lcp a b := by omega
        have e2 : a.length - (a.length + b.length - 2 * lcp a b + 1 - 1 - k) = lcp a b := by omega
        rw [e1, e2, take_lcp a b]
      · rw [if_neg q2]
        congr 1
        omega
    · rw [if_neg q1, if_pos (by omega)]
      congr 1
      omega
  · rw [List.getElem?_eq_none (by rw [wayL_len, wlen_comm]; omega), List.getElem?_eq_none (by rw [List.length_reverse, wayL_len]; omega)]
/-- neighbours on the way -/
theorem wayAt_next (a b : List Int) {k : Nat} (h : k + 1 < wlen a b) : ∀ u v, u = wayAt a b k → v = wayAt a b (k + 1) →
    ((u.length : Int) - v.length = 1 ∨ (u.length : Int) - v.length = -1) ∧ u.take (min u.length v.length) = v.take (min u.length v.length) := by
  rintro u v rfl rfl
  have l1 := lcp_le a b
  have e1 := wayAt_len a b (k := k) (by omega)
  have e2 := wayAt_len a b h
  rw [e1, e2]
  unfold wlen at h
  unfold wayAt
  by_cases q : k + 1 ≤ a.length - lcp a b
  · rw [if_pos q, if_pos (by omega : k ≤ a.length - lcp a b), if_pos q, if_pos (by omega : k ≤ a.length - lcp a b)]
    refine ⟨by omega, ?_⟩
    rw [List.take_take, List.take_take]
    congr 1
    omega
  · rw [if_neg q, if_neg q]
    by_cases q2 : k ≤ a.length - lcp a b
    · rw [if_pos q2, if_pos q2]
      refine ⟨by omega, ?_⟩
      have : k = a.length - lcp a b := by omega
      rw [List.take_take, List.take_take, show min (min (a.length - k) (2 * lcp a b + (k + 1) - a.length)) (a.length - k) = lcp a b by omega, show min (min (a.length - k) (2 * lcp a b + (k + 1) - a.length)) (2 * lcp a b + (k + 1) - a.length) = lcp a b by omega]
      exact take_lcp a b
    · rw [if_neg q2, if_neg q2]
      refine ⟨by omega, ?_⟩
      rw [List.take_take, List.take_take]
      congr 1
      omega
/-! ### the middle -/
def sf (a b : List Int) : List Int := a.take (lcp a b)
def mid (a b c : List Int) : List Int := if lcp a c ≤ lcp a b ∧ lcp b c ≤ lcp a b then sf a b else if lcp b c ≤ lcp a c then sf a c else sf b c
theorem mid_btw (a b c : List Int) : Btw a (mid a b c) b ∧ Btw a (mid a b c) c ∧ Btw b (mid a b c) c := by
  have l1 := lcp_le a b
  have l2 := lcp_le a c
  have l3 := lcp_le b c
  have u1 := lcp_ult a b c
  have u2 := lcp_ult a c b
  have u3 := lcp_ult b a c
  rw [lcp_comm c b] at u2
  rw [lcp_comm b a] at u3
  have key : ∀ (x y : List Int) (z : List Int), lcp x z ≤ lcp x y → lcp y z ≤ lcp x y → Btw x (sf x y) y ∧ Btw x (sf x y) z ∧ Btw y (sf x y) z := by
    intro x y z h1 h2
    have m1 := lcp_le x y
    have e : sf x y = y.take (lcp x y) := take_lcp x y
    have len : (sf x y).length = lcp x y := by unfold sf; rw [List.length_take]; omega
    refine ⟨?_, ?_, ?_⟩
    · unfold Btw; rw [len]; unfold sf; rw [lcp_comm x (x.take _), lcp_take, lcp_take, lcp_self]; omega
    · unfold Btw; rw [len]; unfold sf; rw [lcp_comm x (x.take _), lcp_take, lcp_take, lcp_self]; omega
    · unfold Btw; rw [len, e, lcp_comm y (y.take _), lcp_take, lcp_take, lcp_self]; omega
  unfold mid
  split
  · rename_i q
    obtain ⟨h1, h2, h3⟩ := key a b c q.1 q.2
    exact ⟨h1, h2, h3⟩
  · split
    · obtain ⟨h1, h2, h3⟩ := key a c b (by omega) (by rw [lcp_comm c b]; omega)
      exact ⟨h2, h1, h3.symm⟩
    · obtain ⟨h1, h2, h3⟩ := key b c a (by rw [lcp_comm b a]; omega) (by rw [lcp_comm c a]; omega)
      exact ⟨h2.symm, h3.symm, h1⟩
theorem mid_one {a b c p : List Int} (h1 : Btw a p b) (h2 : Btw a p c) (h3 : Btw b p c) : p = mid a b c := by
  have g := mid_btw a b c
  have m1 := lcp_le a p
  have m2 := lcp_le b p
  have m3 := lcp_le c p
  have u1 := lcp_ult a p b
  have u2 := lcp_ult a p c
  have u3 := lcp_ult b p c
  unfold Btw at h1 h2 h3
  rw [lcp_comm p b] at h1 u1
  rw [lcp_comm p c] at h2 h3 u2 u3
  -- at least two of the three have all of p
  by_cases q1 : lcp a p = p.length
  · by_cases q2 : lcp b p = p.length
    · have e := lcp_full q1
      unfold mid
      rw [if_pos (by omega)]
      unfold sf
      rw [show lcp a b = p.length by omega]
      exact e
    · have q3 : lcp c p = p.length := by omega
      have e := lcp_full q1
      unfold mid
      by_cases z : lcp a c ≤ lcp a b ∧ lcp b c ≤ lcp a b
      · rw [if_pos z]
        unfold sf
        rw [show lcp a b = p.length by omega]
        exact e
      · rw [if_neg z, if_pos (by omega)]
        unfold sf
        rw [show lcp a c = p.length by omega]
        exact e
  · have q2 : lcp b p = p.length := by omega
    have q3 : lcp c p = p.length := by omega
    have e := lcp_full q2
    unfold mid
    by_cases z : lcp a c ≤ lcp a b ∧ lcp b c ≤ lcp a b
    · omega
    · rw [if_neg z]
      by_cases z2 : lcp b c ≤ lcp a c
      · omega
      · rw [if_neg z2]
        unfold sf
        rw [show lcp b c = p.length by omega]
        exact e
theorem mid_red {a b c : List Int} (ha : isRed a = true) (hb : isRed b = true) : isRed (mid a b c) = true := by
  unfold mid sf
  split
  · exact isRed_take _ ha
  · split
    · exact isRed_take _ ha
    · exact isRed_take _ hb
theorem dst_left (h a b : List Int) : dst (h ++ a) (h ++ b) = dst a b := by
  rw [dst_eq, dst_eq]
  congr 2
  rw [bck_app]
  exact red_ext fun x => by simp
theorem dst_tri (a b c : List Int) : dst a c ≤ dst a b + dst b c := by
  rw [dst_eq, dst_eq, dst_eq]
  have e : red (bck a ++ c) = red (red (bck a ++ b) ++ red (bck b ++ c)) := red_ext fun x => by simp
  have := red_len (red (bck a ++ b) ++ red (bck b ++ c))
  rw [List.length_append] at this
  rw [e]
  omega
/-- the middle of three words -/
def md (a b c : List Int) : List Int := mid (red a) (red b) (red c)
theorem md_red (a b c : List Int) : red (md a b c) = md a b c := red_of_isRed (mid_red (red_isRed a) (red_isRed b))
theorem md_btw (a b c : List Int) : dst a (md a b c) + dst (md a b c) b = dst a b ∧ dst a (md a b c) + dst (md a b c) c = dst a c ∧ dst b (md a b c) + dst (md a b c) c = dst b c := by
  obtain ⟨h1, h2, h3⟩ := mid_btw (red a) (red b) (red c)
  rw [dst_dl, dst_dl, dst_dl, dst_dl, dst_dl, dst_dl, dst_dl, md_red]
  exact ⟨btw_dl.mp h1, btw_dl.mp h2, btw_dl.mp h3⟩
theorem md_one {a b c p : List Int} (h1 : dst a p + dst p b = dst a b) (h2 : dst a p + dst p c = dst a c) (h3 : dst b p + dst p c = dst b c) : red p = md a b c :=
  mid_one (btw_dl.mpr h1) (btw_dl.mpr h2) (btw_dl.mpr h3)
theorem dst_comm (a b : List Int) : dst a b = dst b a := dl_comm _ _
theorem md_left (h a b c : List Int) : md (h ++ a) (h ++ b) (h ++ c) = red (h ++ md a b c) := by
  obtain ⟨h1, h2, h3⟩ := md_btw a b c
  exact (md_one (by rw [dst_left, dst_left, dst_left]; exact h1) (by rw [dst_left, dst_left, dst_left]; exact h2) (by rw [dst_left, dst_left, dst_left]; exact h3)).symm
theorem md_swap (a b c : List Int) : md b a c = md a b c := by
  obtain ⟨h1, h2, h3⟩ := md_btw a b c
  rw [← md_red, md_red, ← md_red a b c]
  exact (md_one (by rw [dst_comm b, dst_comm _ a, dst_comm b a]; omega) h3 h2).symm
theorem md_swap2 (a b c : List Int) : md a c b = md a b c := by
  obtain ⟨h1, h2, h3⟩ := md_btw a b c
  rw [← md_red a b c]
  exact (md_one h2 h1 (by rw [dst_comm c, dst_comm _ b, dst_comm c b]; omega)).symm
theorem md_way {a b p : List Int} (h : isRed p = true) : p ∈ wayL (red a) (red b) ↔ dst a p + dst p b = dst a b := by
  rw [dst_dl, dst_dl, dst_dl, red_of_isRed h, ← btw_dl]
  exact ⟨way_btw, btw_way⟩
theorem way_isRed {a b p : List Int} (ha : isRed a = true) (hb : isRed b = true) (h : p ∈ wayL a b) : isRed p = true := by
  unfold wayL at h
  obtain ⟨k, hk, rfl⟩ := List.mem_map.mp h
  unfold wayAt
  split
  · exact isRed_take _ ha
  · exact isRed_take _ hb
theorem way_mem {a b p : List Int} (h : p ∈ wayL a b) : p.length ≤ a.length + b.length ∧ ∀ x ∈ p, x ∈ a ∨ x ∈ b := by
  unfold wayL at h
  obtain ⟨k, hk, rfl⟩ := List.mem_map.mp h
  unfold wayAt
  split
  · exact ⟨by rw [List.length_take]; omega, fun x m => .inl (List.mem_of_mem_take m)⟩
  · exact ⟨by rw [List.length_take]; omega, fun x m => .inr (List.mem_of_mem_take m)⟩
theorem filter_one {α : Type} [BEq α] [LawfulBEq α] {m : α} {P : α → Bool} : ∀ {xs : List α}, xs.Nodup → m ∈ xs → (∀ x ∈ xs, P x = (x == m)) → xs.filter P = [m]
  | [], _, h, _ => by cases h
  | x :: xs, hn, h, hp => by
    rw [List.nodup_cons] at hn
    rw [List.filter_cons, hp x List.mem_cons_self]
    by_cases q : x = m
    · subst q
      have : xs.filter P = [] := by
        rw [List.filter_eq_nil_iff]
        intro y hy
        rw [hp y (List.mem_cons_of_mem _ hy)]
        intro z
        rw [beq_iff_eq] at z
        subst z
        exact hn.1 hy
      simp [this]
    · have ih := filter_one hn.2 ((List.mem_cons.mp h).resolve_left fun z => q z.symm) fun y hy => hp y (List.mem_cons_of_mem _ hy)
      simp [q, ih]
/-- the places on all three ways -/
theorem common_one (a b c : List Int) : ((wayL (red a) (red b)).filter fun w => ((wayL (red a) (red c)).any fun y => decide (y = w)) && ((wayL (red b) (red c)).any fun y => decide (y = w))) = [md a b c] := by
  obtain ⟨h1, h2, h3⟩ := mid_btw (red a) (red b) (red c)
  refine filter_one (wayL_nodup _ _) (btw_way h1) fun x hx => ?_
  rw [Bool.eq_iff_iff, Bool.and_eq_true, List.any_eq_true, List.any_eq_true, beq_iff_eq]
  constructor
  · rintro ⟨⟨y, hy, ey⟩, ⟨z, hz, ez⟩⟩
    rw [decide_eq_true_eq] at ey ez
    subst ey ez
    exact mid_one (way_btw hx) (way_btw hy) (way_btw hz)
  · rintro rfl
    exact ⟨⟨_, btw_way h2, decide_eq_true rfl⟩, ⟨_, btw_way h3, decide_eq_true rfl⟩⟩
end PY
set_option maxHeartbeats 8000000
namespace PY
/-! LibT: turning, its judges, pairs of words. -/
open PySem L2
def l_turning_1 (call : Str → List PyData → Option O) : Stm :=
  (sIf (tV (eCmp .Eq (eCall (call "put_back") [(eName 3), (eName 6)]) (eName 5)))
    (sRetT [(eD (.str "turned")), (eCall (call "product") [(eName 4), (eCall (call "opposite") [(eBin .Add (eName 2) (eSl (eName 3) none (some (eName 6))))])])])
    sNext)
@[simp] theorem la_turning_1 (call : Str → List PyData → Option O) (e : Env) : l_turning_1 call e = (sIf (tV (eCmp .Eq (eCall (call "put_back") [(eName 3), (eName 6)]) (eName 5)))
    (sRetT [(eD (.str "turned")), (eCall (call "product") [(eName 4), (eCall (call "opposite") [(eBin .Add (eName 2) (eSl (eName 3) none (some (eName 6))))])])])
    sNext) e := Eq.trans rfl rfl
def b_turning (call : Str → List PyData → Option O) : Stm :=
  (sSeq (sSets [2, 3] (eTm (eCall (call "core_of") [(eName 0)])))
    (sSeq (sSets [4, 5] (eTm (eCall (call "core_of") [(eName 1)])))
    (sSeq (sFor (.one 6) (iR1 (eBi "max" [(eD (.int 1)), (eBi "len" [(eName 3)])])) (l_turning_1 call))
    (sRetT [(eD (.str "unlike")), (eName 3), (eName 5)]))))
theorem ba_turning (call : Str → List PyData → Option O) (e : Env) : b_turning call e = (sSeq (sSets [2, 3] (eTm (eCall (call "core_of") [(eName 0)])))
    (sSeq (sSets [4, 5] (eTm (eCall (call "core_of") [(eName 1)])))
    (sSeq (sFor (.one 6) (iR1 (eBi "max" [(eD (.int 1)), (eBi "len" [(eName 3)])])) (l_turning_1 call))
    (sRetT [(eD (.str "unlike")), (eName 3), (eName 5)])))) e := rfl
def b_f_law_right_turning (call : Str → List PyData → Option O) : Stm :=
  (sSeq (sIf (tOr' (tNot' (tV (eIsi "tuple" (eName 2)))) (tOr' (tV (eCmp .NotEq (eBi "len" [(eName 2)]) (eD (.int 2)))) (tOr' (tNot' (tV (eCall (call "_law_same") [(eIx (eName 2) (eD (.int 0))), (eD (.str "turned"))]))) (tNot' (tV (eCall (call "_law_is_word") [(eD (.int 4)), (eIx (eName 2) (eD (.int 1)))]))))))
    (sRet (eD (.bool false)))
    sNext)
    (sSeq (sSet 3 (eTm (eIx (eName 2) (eD (.int 1)))))
    (sRet (eAnd (eCall (call "_law_is_reduced") [(eName 3)]) (eCmp .Eq (eCall (call "_law_reduced") [(eBin .Add (eBin .Add (eName 3) (eName 0)) (eCall (call "_law_back") [(eName 3)]))]) (eCall (call "_law_reduced") [(eName 1)]))))))
theorem ba_f_law_right_turning (call : Str → List PyData → Option O) (e : Env) : b_f_law_right_turning call e = (sSeq (sIf (tOr' (tNot' (tV (eIsi "tuple" (eName 2)))) (tOr' (tV (eCmp .NotEq (eBi "len" [(eName 2)]) (eD (.int 2)))) (tOr' (tNot' (tV (eCall (call "_law_same") [(eIx (eName 2) (eD (.int 0))), (eD (.str "turned"))]))) (tNot' (tV (eCall (call "_law_is_word") [(eD (.int 4)), (eIx (eName 2) (eD (.int 1)))]))))))
    (sRet (eD (.bool false)))
    sNext)
    (sSeq (sSet 3 (eTm (eIx (eName 2) (eD (.int 1)))))
    (sRet (eAnd (eCall (call "_law_is_reduced") [(eName 3)]) (eCmp .Eq (eCall (call "_law_reduced") [(eBin .Add (eBin .Add (eName 3) (eName 0)) (eCall (call "_law_back") [(eName 3)]))]) (eCall (call "_law_reduced") [(eName 1)])))))) e := rfl
def b_f_law_right_unlike (call : Str → List PyData → Option O) : Stm :=
  (sSeq (sIf (tOr' (tNot' (tV (eIsi "tuple" (eName 2)))) (tOr' (tV (eCmp .NotEq (eBi "len" [(eName 2)]) (eD (.int 3)))) (tNot' (tV (eCall (call "_law_same") [(eIx (eName 2) (eD (.int 0))), (eD (.str "unlike"))])))))
    (sRet (eD (.bool false)))
    sNext)
    (sSeq (sSet 3 (eTm (eIx (eCall (call "_law_core") [(eName 0)]) (eD (.int 1)))))
    (sSeq (sSet 4 (eTm (eIx (eCall (call "_law_core") [(eName 1)]) (eD (.int 1)))))
    (sRet (eAnd (eCall (call "_law_same") [(eIx (eName 2) (eD (.int 1))), (eName 3)]) (eAnd (eCall (call "_law_same") [(eIx (eName 2) (eD (.int 2))), (eName 4)]) (eCmp .NotIn (eName 4) (eCall (call "_law_turns") [(eName 3)]))))))))
theorem ba_f_law_right_unlike (call : Str → List PyData → Option O) (e : Env) : b_f_law_right_unlike call e = (sSeq (sIf (tOr' (tNot' (tV (eIsi "tuple" (eName 2)))) (tOr' (tV (eCmp .NotEq (eBi "len" [(eName 2)]) (eD (.int 3)))) (tNot' (tV (eCall (call "_law_same") [(eIx (eName 2) (eD (.int 0))), (eD (.str "unlike"))])))))
    (sRet (eD (.bool false)))
    sNext)
    (sSeq (sSet 3 (eTm (eIx (eCall (call "_law_core") [(eName 0)]) (eD (.int 1)))))
    (sSeq (sSet 4 (eTm (eIx (eCall (call "_law_core") [(eName 1)]) (eD (.int 1)))))
    (sRet (eAnd (eCall (call "_law_same") [(eIx (eName 2) (eD (.int 1))), (eName 3)]) (eAnd (eCall (call "_law_same") [(eIx (eName 2) (eD (.int 2))), (eName 4)]) (eCmp .NotIn (eName 4) (eCall (call "_law_turns") [(eName 3)])))))))) e := rfl
def b_f_law_pair_of_words (call : Str → List PyData → Option O) : Stm :=
  (sSeq (sSet 3 (eTm (eCall (call "_law_some_word") [(eName 0), (eName 1), (eName 2)])))
    (sSeq (sSet 4 (eTm (eBin .Mod (eIx (eName 0) (eBin .Add (eName 1) (eD (.int 16)))) (eD (.int 5)))))
    (sSeq (sSet 5 (eTm (eCall (call "_law_some_word") [(eName 0), (eBin .Add (eName 1) (eD (.int 18))), (eName 2)])))
    (sSeq (sSet 6 (eTm (eCall (call "_law_word") [(eName 0), (eBin .Add (eName 1) (eD (.int 17))), (eName 2), (eBin .Mod (eIx (eName 0) (eBin .Add (eName 1) (eD (.int 17)))) (eD (.int 6)))])))
    (sSeq (sSet 7 (eTm (eIx (eCall (call "_law_core") [(eName 3)]) (eD (.int 1)))))
    (sSeq (sIf (tV (eCmp .Lt (eName 4) (eD (.int 2))))
    (sSet 5 (eTm (eBin .Add (eBin .Add (eName 6) (eName 3)) (eCall (call "_law_back") [(eName 6)]))))
    sNext)
    (sSeq (sIf (tV (eCmp .Eq (eName 4) (eD (.int 2))))
    (sSeq (sSet 8 (eTm (eBin .Mod (eIx (eName 0) (eBin .Add (eName 1) (eD (.int 17)))) (eBin .Add (eBi "len" [(eName 7)]) (eD (.int 1))))))
    (sSet 5 (eTm (eBin .Add (eBin .Add (eBin .Add (eName 6) (eSl (eName 7) (some (eName 8)) none)) (eSl (eName 7) none (some (eName 8)))) (eCall (call "_law_back") [(eName 6)])))))
    sNext)
    (sSeq (sIf (tAnd' (tV (eCmp .Eq (eName 4) (eD (.int 3)))) (tV (eCmp .NotEq (eName 7) (eList []))))
    (sSeq (sSet 8 (eTm (eBin .Mod (eIx (eName 0) (eBin .Add (eName 1) (eD (.int 18)))) (eBi "len" [(eName 7)]))))
    (sSet 5 (eTm (eBin .Add (eBin .Add (eBin .Add (eName 6) (eSl (eName 7) none (some (eName 8)))) (eRev (eSl (eName 7) (some (eName 8)) none))) (eCall (call "_law_back") [(eName 6)])))))
    sNext)
    (sRetT [(eName 3), (eName 5)])))))))))
theorem ba_f_law_pair_of_words (call : Str → List PyData → Option O) (e : Env) : b_f_law_pair_of_words call e = (sSeq (sSet 3 (eTm (eCall (call "_law_some_word") [(eName 0), (eName 1), (eName 2)])))
    (sSeq (sSet 4 (eTm (eBin .Mod (eIx (eName 0) (eBin .Add (eName 1) (eD (.int 16)))) (eD (.int 5)))))
    (sSeq (sSet 5 (eTm (eCall (call "_law_some_word") [(eName 0), (eBin .Add (eName 1) (eD (.int 18))), (eName 2)])))
    (sSeq (sSet 6 (eTm (eCall (call "_law_word") [(eName 0), (eBin .Add (eName 1) (eD (.int 17))), (eName 2), (eBin .Mod (eIx (eName 0) (eBin .Add (eName 1) (eD (.int 17)))) (eD (.int 6)))])))
    (sSeq (sSet 7 (eTm (eIx (eCall (call "_law_core") [(eName 3)]) (eD (.int 1)))))
    (sSeq (sIf (tV (eCmp .Lt (eName 4) (eD (.int 2))))
    (sSet 5 (eTm (eBin .Add (eBin .Add (eName 6) (eName 3)) (eCall (call "_law_back") [(eName 6)]))))
    sNext)
    (sSeq (sIf (tV (eCmp .Eq (eName 4) (eD (.int 2))))
    (sSeq (sSet 8 (eTm (eBin .Mod (eIx (eName 0) (eBin .Add (eName 1) (eD (.int 17)))) (eBin .Add (eBi "len" [(eName 7)]) (eD (.int 1))))))
    (sSet 5 (eTm (eBin .Add (eBin .Add (eBin .Add (eName 6) (eSl (eName 7) (some (eName 8)) none)) (eSl (eName 7) none (some (eName 8)))) (eCall (call "_law_back") [(eName 6)])))))
    sNext)
    (sSeq (sIf (tAnd' (tV (eCmp .Eq (eName 4) (eD (.int 3)))) (tV (eCmp .NotEq (eName 7) (eList []))))
    (sSeq (sSet 8 (eTm (eBin .Mod (eIx (eName 0) (eBin .Add (eName 1) (eD (.int 18)))) (eBi "len" [(eName 7)]))))
    (sSet 5 (eTm (eBin .Add (eBin .Add (eBin .Add (eName 6) (eSl (eName 7) none (some (eName 8)))) (eRev (eSl (eName 7) (some (eName 8)) none))) (eCall (call "_law_back") [(eName 6)])))))
    sNext)
    (sRetT [(eName 3), (eName 5)]))))))))) e := rfl
theorem turn_red {f s : List Int} {k : Nat} (hf : f.length < 900000) (hs : s.length < 900000) (h : rot (core f) k = core s) :
    red (red (front s ++ red (bck (front f ++ (core f).take k))) ++ f ++ bck (red (front s ++ red (bck (front f ++ (core f).take k))))) = red s := by
  have pf := parts hf
  have ps := parts hs
  have e1 : Eqv f (front f ++ ((core f).take k ++ (core f).drop k) ++ bck (front f)) := by rw [List.take_append_drop, pf]; exact (Eqv.red f).symm
  have e2 : Eqv s (front s ++ ((core f).drop k ++ (core f).take k) ++ bck (front s)) := by
    show Eqv s (front s ++ rot (core f) k ++ bck (front s))
    rw [h, ps]; exact (Eqv.red s).symm
  generalize front f = F1 at *
  generalize front s = F2 at *
  generalize (core f).take k = T at *
  generalize (core f).drop k = D at *
  have e3 : Eqv (red (F2 ++ red (bck (F1 ++ T)))) (F2 ++ bck (F1 ++ T)) := (Eqv.red _).trans ((Eqv.refl F2).app (Eqv.red _))
  have e4 := e3.bck
  rw [bck_app F2 (bck (F1 ++ T)), bck_bck] at e4
  refine Eqv.trans ((e3.app e1).app e4) (Eqv.trans ?_ e2.symm)
  have s1 := Eqv.mid F2 (D ++ bck F1 ++ F1 ++ T ++ bck F2) (Eqv.inv' (F1 ++ T))
  have s2 := Eqv.mid (F2 ++ D) (T ++ bck F2) (Eqv.inv' F1)
  have s3 : Eqv (F2 ++ (bck (F1 ++ T) ++ (F1 ++ T)) ++ (D ++ bck F1 ++ F1 ++ T ++ bck F2)) (F2 ++ D ++ (T ++ bck F2)) := by
    refine s1.trans ?_
    simpa using s2
  simpa using s3
/-- what turning tells -/
def TurnAns (f s : List Int) (o : O) : Prop :=
  (core s ∈ rots (core f) ∧ ∃ h, o = .otup [.frz (.str "turned"), ow h] ∧ isRed h = true ∧ red (h ++ f ++ bck h) = red s ∧ (∀ l, Wd l f → Wd l s → Wd l h) ∧ h.length ≤ 2 * f.length + s.length) ∨
  (core s ∉ rots (core f) ∧ o = .otup [.frz (.str "unlike"), ow (core f), ow (core s)])
section
variable (call : Cal)
theorem turn_loop (f s : List Int) (hf : f.length ≤ 10000) (hs : s.length ≤ 10000)
    (h1 : ∀ (c : List Int) (k : Nat), c.length ≤ 100000 → call "put_back" [L c, .int (k : Nat)] = some (ow (rot c k)))
    (h2 : ∀ w : List Int, w.length ≤ 100000 → call "opposite" [L w] = some (ow (red (bck w))))
    (h3 : ∀ a b : List Int, a.length ≤ 100000 → b.length ≤ 100000 → call "product" [L a, L b] = some (ow (red (a ++ b)))) : ∀ (m k : Nat) (y : Option O),
    (∃ j, k ≤ j ∧ j < k + m ∧ rot (core f) j = core s ∧ forGo (.one 6) (l_turning_1 call) (rangeD (k : Int) m) [some (.frz (L f)), some (.frz (L s)), some (ow (front f)), some (ow (core f)), some (ow (front s)), some (ow (core s)), y] = some (.ret (.otup [.frz (.str "turned"), ow (red (front s ++ red (bck (front f ++ (core f).take j))))]))) ∨
    ((∀ j, k ≤ j → j < k + m → rot (core f) j ≠ core s) ∧ ∃ y', forGo (.one 6) (l_turning_1 call) (rangeD (k : Int) m) [some (.frz (L f)), some (.frz (L s)), some (ow (front f)), some (ow (core f)), some (ow (front s)), some (ow (core s)), y] = some (.next [some (.frz (L f)), some (.frz (L s)), some (ow (front f)), some (ow (core f)), some (ow (front s)), some (ow (core s)), y']))
  | 0, k, y => .inr ⟨fun j h1 h2 => by omega, y, rfl⟩
  | m + 1, k, y => by
    have cf := core_len f
    have cs := core_len s
    have ff := front_len f
    have fs := front_len s
    have c1 := h1 (core f) k (by omega)
    by_cases q : rot (core f) k = core s
    · left
      refine ⟨k, by omega, by omega, q, ?_⟩
      have ct : cutI (core f) none (some (k : Int)) = (core f).take k := by rw [cut_to (by omega), Int.toNat_natCast]
      have a1 := add_lA (xs := front f) (ys := (core f).take k) (by omega) (by simp; omega)
      have c2 := h2 (front f ++ (core f).take k) (by simp; omega)
      have lr := red_len (bck (front f ++ (core f).take k))
      have lr2 : (red (bck (front f ++ (core f).take k))).length ≤ 100000 := by simp at lr; omega
      have c3 := h3 (front s) (red (bck (front f ++ (core f).take k))) (by omega) lr2
      have q' : (rot (core f) k = core s) = True := eq_true q
      have z2 : (2 : Nat) ≤ sizeLine := line_le (by decide)
      rw [rangeD_succ, forGo_cons]
      simp [c1, q', ct, a1, c2, c3, z2]
    · rcases turn_loop f s hf hs h1 h2 h3 m (k + 1) (some (.frz (.int (k : Int)))) with ⟨j, j1, j2, j3, e⟩ | ⟨j1, y', e⟩
      · left
        refine ⟨j, by omega, by omega, j3, ?_⟩
        rw [show ((k + 1 : Nat) : Int) = (k : Int) + 1 by omega] at e
        rw [rangeD_succ, forGo_cons]
        simp [c1, q, e]
      · right
        refine ⟨fun j i1 i2 => ?_, y', ?_⟩
        · by_cases z : j = k
          · rw [z]; exact q
          · exact j1 j (by omega) (by omega)
        · rw [show ((k + 1 : Nat) : Int) = (k : Int) + 1 by omega] at e
          rw [rangeD_succ, forGo_cons]
          simp [c1, q, e]
theorem R_turning (f s : List Int) (hf : f.length ≤ 10000) (hs : s.length ≤ 10000)
    (h0 : ∀ w : List Int, w.length < 900000 → call "core_of" [L w] = some (.otup [ow (front w), ow (core w)]))
    (h1 : ∀ (c : List Int) (k : Nat), c.length ≤ 100000 → call "put_back" [L c, .int (k : Nat)] = some (ow (rot c k)))
    (h2 : ∀ w : List Int, w.length ≤ 100000 → call "opposite" [L w] = some (ow (red (bck w))))
    (h3 : ∀ a b : List Int, a.length ≤ 100000 → b.length ≤ 100000 → call "product" [L a, L b] = some (ow (red (a ++ b)))) :
    ∃ o, TurnAns f s o ∧ outO (b_turning call [some (.frz (L f)), some (.frz (L s)), none, none, none, none, none]) = some o := by
  have c1 := h0 f (by omega)
  have c2 := h0 s (by omega)
  have cl := core_len f
  have cl2 := core_len s
  have fl1 := front_len f
  have fl2 := front_len s
  have em : (if (1 : Int) < ((core f).length : Int) then ((core f).length : Int) else 1) = ((max 1 (core f).length : Nat) : Int) := by split <;> omega
  have em' : (if 1 < (core f).length then ((core f).length : Int) else 1) = ((max 1 (core f).length : Nat) : Int) := by split <;> omega
  have rk : Rk ((max 1 (core f).length : Nat) : Int) := Rk_of (by omega) (by omega)
  have z3 : (3 : Nat) ≤ sizeLine := line_le (by decide)
  have key := turn_loop call f s hf hs h1 h2 h3 (max 1 (core f).length) 0 none
  rw [show ((0 : Nat) : Int) = 0 from rfl] at key
  have hm : ∀ j, j < max 1 (core f).length → rot (core f) j = core s → core s ∈ rots (core f) := fun j h e => mem_rots.mpr ⟨j, h, e.symm⟩
  have hm2 : core s ∈ rots (core f) → ∃ j, j < max 1 (core f).length ∧ core s = rot (core f) j := fun h => mem_rots.mp h
  rcases key with ⟨j, j1, j2, j3, e⟩ | ⟨j1, y', e⟩
  · refine ⟨_, .inl ⟨hm j (by omega) j3, _, rfl, red_isRed _, turn_red (by omega) (by omega) j3, fun l wf ws => Wd_red (Wd_app (Wd_front ws) (Wd_red (Wd_bck (Wd_app (Wd_front wf) (Wd_take _ (Wd_core wf)))))), ?_⟩, ?_⟩
    · have r1 := red_len (front s ++ red (bck (front f ++ (core f).take j)))
      have r2 := red_len (bck (front f ++ (core f).take j))
      simp at r1 r2
      omega
    · rw [ba_turning]
      generalize max 1 (core f).length = n at *
      simp [c1, c2, em, em', rk, e]
  · refine ⟨_, .inr ⟨fun h => ?_, rfl⟩, ?_⟩
    · obtain ⟨j, q1, q2⟩ := hm2 h
      exact j1 j (by omega) (by omega) q2.symm
    · rw [ba_turning]
      generalize max 1 (core f).length = n at *
      simp [c1, c2, em, em', rk, e, z3]
theorem R_right_turning (f s h : List Int) (hf : f.length ≤ 10000) (hs : s.length ≤ 10000) (hh : h.length ≤ 50000) (hw : Wd 4 h) (hr : isRed h = true) (he : red (h ++ f ++ bck h) = red s)
    (h1 : Same1 call (.str "turned")) (h2 : call "_law_is_word" [.int 4, L h] = some (.frz (.bool true)))
    (h3 : call "_law_is_reduced" [L h] = some (.frz (.bool (isRed h)))) (hp : Helps call) :
    outO (b_f_law_right_turning call [some (.frz (L f)), some (.frz (L s)), some (.frz (.tuple [.str "turned", L h])), none]) = some (.frz (.bool true)) := by
  have hb := hp.back h (by omega)
  have r1 := hp.red (h ++ f ++ bck h) (by simp; omega)
  have r2 := hp.red s (by omega)
  rw [he] at r1
  rw [hr] at h3
  unfold Same1 at h1
  have a1 := add_lA (xs := h) (ys := f) (by omega) (by omega)
  have a2 := add_lA (xs := h ++ f) (ys := bck h) (by simp; omega) (by simp; omega)
  have i1 : isInst "tuple" (.tuple [.str "turned", L h]) = some true := rfl
  rw [ba_f_law_right_turning]
  simp [i1, h1, h2, h3, hb, a1, a2, r1, r2, -List.append_assoc]
theorem R_right_unlike (f s : List Int) (hf : f.length ≤ 10000) (hs : s.length ≤ 10000) (hn : core s ∉ rots (core f))
    (h1 : Same1 call (.str "unlike")) (h2 : ∀ w : List Int, w.length < 200000 → call "_law_core" [L w] = some (.otup [ow (front w), ow (core w)]))
    (h3 : ∀ a : List Int, a.length < 1000000 → Same1 call (L a)) (h4 : ∀ c : List Int, c.length ≤ 100000 → call "_law_turns" [L c] = some (.own (mO (rots c)))) :
    outO (b_f_law_right_unlike call [some (.frz (L f)), some (.frz (L s)), some (.frz (.tuple [.str "unlike", L (core f), L (core s)])), none, none]) = some (.frz (.bool true)) := by
  have cl := core_len f
  have cl2 := core_len s
  have c1 := h2 f (by omega)
  have c2 := h2 s (by omega)
  have s1 := h3 (core f) (by omega)
  have s2 := h3 (core s) (by omega)
  have t1 := h4 (core f) (by omega)
  unfold Same1 at h1 s1 s2
  have i1 : isInst "tuple" (.tuple [.str "unlike", L (core f), L (core s)]) = some true := rfl
  have hb : ((rots (core f)).any fun y => decide (y = core s)) = false := by
    rw [List.any_eq_false]
    intro x hx
    simp
    rintro rfl
    exact hn hx
  rw [ba_f_law_right_unlike]
  simp [i1, h1, c1, c2, s1, s2, t1, hb]
/-! ### a pair of words -/
theorem R_pair (hc : Helps call) (ds : List Int) (a l : Int) (ha : 0 ≤ a) (hd : a + 23 ≤ ds.length) (hd2 : ds.length < 1000000) (hl : 1 ≤ l) (hl2 : l ≤ 1000)
    (hs : ∀ (ds : List Int) (a l : Int), 0 ≤ a → a + 5 ≤ ds.length → ds.length < 1000000 → 1 ≤ l → l ≤ 1000 → ∃ ws : List Int, ws.length ≤ 20 ∧ Wd l ws ∧ call "_law_some_word" [L ds, .int a, .int l] = some (ow ws))
    (h2 : ∀ w : List Int, w.length < 200000 → call "_law_core" [L w] = some (.otup [ow (front w), ow (core w)])) :
    ∃ f s : List Int, f.length ≤ 20 ∧ s.length ≤ 30 ∧ Wd l f ∧ Wd l s ∧ outO (b_f_law_pair_of_words call [some (.frz (L ds)), some (.frz (.int a)), some (.frz (.int l)), none, none, none, none, none, none]) = some (.otup [ow f, ow s]) := by
  have ix : ∀ k : Nat, k < 23 → ∃ d, atI ds (a + k) = some d := fun k hk => by
    obtain ⟨j, hj⟩ := Int.eq_ofNat_of_zero_le ha
    have e : a + (k : Int) = ((j + k : Nat) : Int) := by omega
    rw [e, atI_nat']
    exact ⟨_, List.getElem?_eq_getElem (by omega)⟩
  obtain ⟨d16, e16⟩ := ix 16 (by omega)
  obtain ⟨d17, e17⟩ := ix 17 (by omega)
  obtain ⟨d18, e18⟩ := ix 18 (by omega)
  have e16 : atI ds (a + 16) = some d16 := e16
  have e17 : atI ds (a + 17) = some d17 := e17
  have e18 : atI ds (a + 18) = some d18 := e18
  obtain ⟨f, flen, fw, hf⟩ := hs ds a l ha (by omega) hd2 hl hl2
  obtain ⟨s, slen, sw, hsc⟩ := hs ds (a + 18) l (by omega) (by omega) hd2 hl hl2
  obtain ⟨k1, k2⟩ := fmod_rng d16 (n := 5) (by omega)
  generalize hk : d16.fmod 5 = k at k1 k2
  obtain ⟨m1, m2⟩ := fmod_rng d17 (n := 6) (by omega)
  generalize hm : d17.fmod 6 = m at m1 m2
  obtain ⟨h, hlen, hw, hh⟩ := hc.word ds (a + 17) l m (by omega) hd2 hl hl2 m1 (by omega)
  have hb := hc.back h (by omega)
  have cf := h2 f (by omega)
  have cl := core_len f
  have cw := Wd_core fw
  generalize core f = c at *
  have z2 : (2 : Nat) ≤ sizeLine := line_le (by decide)
  have cases5 : k < 2 ∨ k = 2 ∨ k = 3 ∨ k = 4 := by omega
  rw [ba_f_law_pair_of_words]
  rcases cases5 with q | rfl | rfl | rfl
  · have a1 := add_lA (xs := h) (ys := f) (by omega) (by omega)
    have a2 := add_lA (xs := h ++ f) (ys := bck h) (by simp; omega) (by simp; omega)
    have q2 : ¬ k = 2 := by omega
    have q3 : ¬ k = 3 := by omega
    refine ⟨f, h ++ f ++ bck h, flen, by simp; omega, fw, Wd_app (Wd_app hw fw) (Wd_bck hw), ?_⟩
    simp [hf, e16, hk, hsc, e17, hm, hh, cf, q, q2, q3, hb, a1, a2, z2, -List.append_assoc]
  · obtain ⟨x1, x2⟩ := fmod_rng d17 (n := (c.length : Int) + 1) (by omega)
    have nz1 : ¬ ((c.length : Int) + 1 = 0) := by omega
    generalize hx : d17.fmod ((c.length : Int) + 1) = x at x1 x2
    have ct : cutI c none (some x) = c.take x.toNat := cut_to x1
    have cfr : cutI c (some x) none = c.drop x.toNat := cut_from x1
    have a1 := add_lA (xs := h) (ys := c.drop x.toNat) (by omega) (by simp; omega)
    have a2 := add_lA (xs := h ++ c.drop x.toNat) (ys := c.take x.toNat) (by simp; omega) (by simp; omega)
    have a3 := add_lA (xs := h ++ c.drop x.toNat ++ c.take x.toNat) (ys := bck h) (by simp; omega) (by simp; omega)
    refine ⟨f, h ++ c.drop x.toNat ++ c.take x.toNat ++ bck h, flen, by simp; omega, fw, Wd_app (Wd_app (Wd_app hw (Wd_drop _ cw)) (Wd_take _ cw)) (Wd_bck hw), ?_⟩
    simp [hf, e16, hk, hsc, e17, hm, hh, cf, nz1, hx, ct, cfr, hb, a1, a2, a3, z2, -List.append_assoc]
  · by_cases qc : c = []
    · subst qc
      refine ⟨f, s, flen, by omega, fw, sw, ?_⟩
      simp [hf, e16, hk, hsc, e17, hm, hh, cf, z2, eqD_00, mI_nil]
    · have hcl : 0 < c.length := List.length_pos_iff.mpr qc
      obtain ⟨x1, x2⟩ := fmod_rng d18 (n := (c.length : Int)) (by omega)
      have nz1 : ¬ ((c.length : Int) = 0) := by omega
      generalize hx : d18.fmod (c.length : Int) = x at x1 x2
      have ct : cutI c none (some x) = c.take x.toNat := cut_to x1
      have cfr : cutI c (some x) none = c.drop x.toNat := cut_from x1
      have a1 := add_lA (xs := h) (ys := c.take x.toNat) (by omega) (by simp; omega)
      have a2 := add_lA (xs := h ++ c.take x.toNat) (ys := (c.drop x.toNat).reverse) (by simp; omega) (by simp; omega)
      have a3 := add_lA (xs := h ++ c.take x.toNat ++ (c.drop x.toNat).reverse) (ys := bck h) (by simp; omega) (by simp; omega)
      have wr : Wd l (c.drop x.toNat).reverse := fun w mw => Wd_drop _ cw w (List.mem_reverse.mp mw)
      refine ⟨f, h ++ c.take x.toNat ++ (c.drop x.toNat).reverse ++ bck h, flen, by simp; omega, fw, Wd_app (Wd_app (Wd_app hw (Wd_take _ cw)) wr) (Wd_bck hw), ?_⟩
      simp [hf, e16, hk, hsc, e17, e18, hm, hh, cf, qc, nz1, hx, ct, cfr, hb, a1, a2, a3, z2, -List.append_assoc, -List.reverse_drop]
  · refine ⟨f, s, flen, by omega, fw, sw, ?_⟩
    simp [hf, e16, hk, hsc, e17, hm, hh, cf, z2]
/-! ### told -/
end
end PY
set_option maxHeartbeats 8000000
/-! LibU: papers: numbers, data of small size. -/
namespace PY
open PySem L2
theorem atI_in {α : Type} {xs : List α} {i : Int} (h1 : 0 ≤ i) (h2 : i < xs.length) : ∃ x, atI xs i = some x := by
  obtain ⟨k, rfl⟩ := Int.eq_ofNat_of_zero_le h1
  rw [atI_nat']
  exact ⟨_, List.getElem?_eq_getElem (by omega)⟩
theorem atI_ex {α : Type} {xs : List α} {i : Int} (h1 : 0 ≤ i) (h2 : i < xs.length) : ∃ x, atI xs i = some x ∧ x ∈ xs := by
  obtain ⟨k, rfl⟩ := Int.eq_ofNat_of_zero_le h1
  have hk : k < xs.length := by omega
  rw [atI_nat']
  exact ⟨_, List.getElem?_eq_getElem hk, List.getElem_mem hk⟩
@[simp] theorem putMany_mI {i : Nat} {is : List Nat} {a : Int} {r : List Int} {e : Env} : putMany (i :: is) (mI (a :: r)) e = putMany is (mI r) (e.set i (some (.frz (.int a)))) := Eq.trans rfl rfl
@[simp] theorem putMany_mI0 {e : Env} : putMany [] (mI []) e = some e := Eq.trans rfl rfl
def isLst : D → Bool
  | .list _ => true
  | _ => false
def isTup : D → Bool
  | .tuple _ => true
  | _ => false
theorem isInst_list (d : D) (h : d.canLay0 = true) : isInst "list" d = some (isLst d) := by cases d <;> first | rfl | cases h
theorem isInst_tuple (d : D) (h : d.canLay0 = true) : isInst "tuple" d = some (isTup d) := by cases d <;> first | rfl | cases h
theorem pick_mem {α : Type} {xs : List α} {lo hi : Option Int} {k : Int} {x : α} (h : x ∈ pickL xs lo hi k) : x ∈ xs := by
  unfold pickL at h
  obtain ⟨i, _, hi⟩ := List.mem_filterMap.mp h
  exact List.mem_of_getElem? hi
theorem cutI_mem {xs : List Int} {lo hi : Option Int} {x : Int} (h : x ∈ cutI xs lo hi) : x ∈ xs := List.mem_of_mem_drop (List.mem_of_mem_take h)
theorem cutI_le (xs : List Int) (lo hi : Option Int) : (cutI xs lo hi).length ≤ xs.length := by
  unfold cutI
  rw [List.length_take, List.length_drop]
  omega
/-- numbers whose text is short -/
def Nm (x : Int) : Prop := -9 ≤ x ∧ x ≤ 300
def Nms (w : List Int) : Prop := ∀ x ∈ w, Nm x
theorem sz_nat : ∀ n : Nat, n < 301 → sz (.int n) ≤ 5 ∧ PyData.showable (.int n) = true := by decide +kernel
theorem sz_nm {x : Int} (h : Nm x) : sz (.int x) ≤ 5 ∧ PyData.showable (.int x) = true := by
  obtain ⟨h1, h2⟩ := h
  by_cases q : 0 ≤ x
  · obtain ⟨n, rfl⟩ := Int.eq_ofNat_of_zero_le q
    exact sz_nat n (by omega)
  · have := sz_small h1 (by omega)
    exact ⟨by omega, this.2⟩
theorem GdA.nums {n : Nat} : ∀ {ws : List Int}, Nms ws → GdA (dI ws) n (7 * ws.length)
  | [], _ => GdA.nil
  | w :: ws, h => by
    have h1 := sz_nm (h w List.mem_cons_self)
    have ih := GdA.nums (n := n) (ws := ws) fun v m => h v (List.mem_cons_of_mem _ m)
    have := (GdA.one (d := .int w) (n := n) (k := 7) rfl h1.2 (Nat.zero_le _) (by omega)).app ih
    rw [dI_cons]
    refine ⟨this.lay, this.shw, this.dep, ?_⟩
    have := this.sz
    simp only [List.length_cons]
    exact Nat.le_trans this (by omega)
theorem Nms.app {a b : List Int} (h : Nms a) (g : Nms b) : Nms (a ++ b) := fun x m => (List.mem_append.mp m).elim (h x) (g x)
theorem Nms.take {a : List Int} (h : Nms a) (k : Nat) : Nms (a.take k) := fun x m => h x (List.mem_of_mem_take m)
theorem Nms.drop {a : List Int} (h : Nms a) (k : Nat) : Nms (a.drop k) := fun x m => h x (List.mem_of_mem_drop m)
theorem Nms.cut {a : List Int} (h : Nms a) (lo hi : Option Int) : Nms (cutI a lo hi) := fun x m => h x (cutI_mem m)
theorem Nms.rev {a : List Int} (h : Nms a) : Nms a.reverse := fun x m => h x (List.mem_reverse.mp m)
theorem Nms.one {x : Int} (h : Nm x) : Nms [x] := fun y m => by rw [List.mem_singleton.mp m]; exact h
theorem GdA.dep2 {xs : List D} {n k m l : Nat} (h : GdA xs n k) (h1 : n ≤ m) (h2 : k ≤ l) : GdA xs m l := ⟨h.lay, h.shw, Nat.le_trans h.dep h1, Nat.le_trans h.sz h2⟩
/-- papers that are judged -/
structure Gp (d : D) : Prop where
  lay : d.canLay0 = true
  shw : d.showable = true
  dep : d.depth ≤ 4
  sz : PY.sz d ≤ 100000
theorem Gp.gd {d : D} (h : Gp d) : Gd d := ⟨h.lay, h.shw, by have := h.dep; omega, by have := h.sz; omega⟩
theorem Gp.list {xs : List D} {n k : Nat} (h : GdA xs n k) (h1 : n ≤ 3) (h2 : k ≤ 99990) : Gp (.list xs) where
  lay := by simpa [PyData.canLay0] using h.lay
  shw := by simpa [PyData.showable] using h.shw
  dep := by have := h.dep; simp only [PyData.depth]; omega
  sz := by have := h.sz; show szA xs + 2 ≤ _; omega
theorem Gp.tup {xs : List D} {n k : Nat} (h : GdA xs n k) (h1 : n ≤ 3) (h2 : k ≤ 99990) : Gp (.tuple xs) where
  lay := by simpa [PyData.canLay0] using h.lay
  shw := by simpa [PyData.showable] using h.shw
  dep := by have := h.dep; simp only [PyData.depth]; omega
  sz := by have := h.sz; show szA xs + 3 ≤ _; omega
theorem Gp.L {w : List Int} (h : Nms w) (hl : w.length ≤ 2000) : Gp (L w) := Gp.list (n := 0) (GdA.nums h) (by omega) (by omega)
/-- what is put into a paper -/
structure Gc (b : D) : Prop where
  lay : b.canLay0 = true
  shw : b.showable = true
  dep : b.depth ≤ 2
  sz : PY.sz b ≤ 100
theorem Gc.one {b : D} (h : Gc b) : GdA [b] 2 102 := .one h.lay h.shw h.dep (by have := h.sz; omega)
theorem Gc.int {x : Int} (h : Nm x) : Gc (.int x) := ⟨rfl, (sz_nm h).2, Nat.zero_le _, by have := (sz_nm h).1; omega⟩
end PY
set_option maxHeartbeats 8000000
/-! LibV: any data looked at as texts, numbers, words. -/
namespace PY
open PySem L2
/-! ### any data beside texts, numbers, words -/
def eqS : D → Str → Bool
  | .str z, t => decide (z = t)
  | _, _ => false
def eqI : D → Int → Bool
  | .int j, i => decide (j = i)
  | _, _ => false
def sameI : List D → List Int → Bool
  | [], [] => true
  | d :: ds, w :: ws => eqI d w && sameI ds ws
  | _, _ => false
def isLw : D → List Int → Bool
  | .list ds, w => sameI ds w
  | _, _ => false
theorem sameI_eq : ∀ {ds : List D} {w : List Int}, sameI ds w = true → ds = dI w
  | [], [], _ => rfl
  | [], _ :: _, h => by cases h
  | _ :: _, [], h => by cases h
  | d :: ds, x :: w, h => by
    have h' : eqI d x = true ∧ sameI ds w = true := by simpa [sameI] using h
    cases d <;> try (cases h'.1; done)
    have e : _ = x := of_decide_eq_true h'.1
    rw [e, sameI_eq h'.2]
    rfl
theorem sameI_dI : ∀ v w : List Int, sameI (dI v) w = decide (v = w)
  | [], [] => rfl
  | [], _ :: _ => rfl
  | _ :: _, [] => rfl
  | a :: v, b :: w => by
    show (decide (a = b) && sameI (dI v) w) = _
    rw [sameI_dI v w]
    by_cases q : a = b <;> by_cases q2 : v = w <;> simp [q, q2]
theorem isLw_eq {d : D} {w : List Int} (h : isLw d w = true) : d = L w := by
  cases d <;> try (cases h; done)
  rw [sameI_eq h]
theorem isLw_L (v w : List Int) : isLw (L v) w = decide (v = w) := sameI_dI v w
theorem sameI_len : ∀ {ds : List D} {w : List Int}, sameI ds w = true → ds.length = w.length := fun h => by rw [sameI_eq h, dI_len]
def iL : D → List Int
  | .list ds => ds.map fun | .int i => i | _ => 0
  | _ => []
theorem iL_L (w : List Int) : iL (L w) = w := by
  show (w.map PyData.int).map _ = w
  rw [List.map_map]
  exact List.map_id' w
theorem okW_ex {l : Int} {d : D} (h : okW l d = true) : d = L (iL d) ∧ Wd l (iL d) := by
  cases d <;> try (cases h; done)
  rename_i ds
  have h : ds.all (okI l) = true := h
  rw [List.all_eq_true] at h
  have key : ∀ ds : List D, (∀ x ∈ ds, okI l x = true) → ds = dI (iL (.list ds)) ∧ Wd l (iL (.list ds)) := by
    intro ds
    induction ds with
    | nil => intro _; exact ⟨rfl, Wd_nil⟩
    | cons d ds ih =>
      intro hd
      have h1 := hd d List.mem_cons_self
      obtain ⟨i1, i2⟩ := ih fun x m => hd x (List.mem_cons_of_mem _ m)
      cases d <;> try (cases h1; done)
      rename_i i
      refine ⟨?_, ?_⟩
      · show _ = PyData.int i :: dI (iL (.list ds))
        rw [← i1]
      · intro x m
        rcases List.mem_cons.mp m with rfl | m
        · have h1 : (decide (x ≠ 0) && (decide (-l ≤ x) && decide (x ≤ l))) = true := h1
          simp only [Bool.and_eq_true, decide_eq_true_eq] at h1
          exact h1
        · exact i2 x m
  obtain ⟨h1, h2⟩ := key ds h
  exact ⟨by show PyData.list ds = PyData.list _; rw [← h1], h2⟩
theorem okW_L {l : Int} {w : List Int} (h : Wd l w) : okW l (L w) = true := by
  show (dI w).all (okI l) = true
  rw [List.all_eq_true]
  intro x m
  obtain ⟨i, mi, rfl⟩ := List.mem_map.mp m
  have := h i mi
  show (decide (i ≠ 0) && (decide (-l ≤ i) && decide (i ≤ l))) = true
  simp only [Bool.and_eq_true, decide_eq_true_eq]
  exact this
section
variable (call : Cal)
theorem R_same_sa (d : D) (t : Str) (hl : d.canLay0 = true) : outO (b_f_law_same call [some (.frz d), some (.frz (.str t)), none]) = some (.frz (.bool (eqS d t))) := by
  rw [ba_f_law_same]
  have h1 : isInst "int" (.str t) = some false := rfl
  have h2 : isInst "bool" (.str t) = some false := rfl
  have h3 : isInst "str" (.str t) = some true := rfl
  cases d with
  | dict _ => cases hl
  | none => have h4 : isInst "str" .none = some false := rfl
            simp [h1, h2, h3, h4, eqS]
  | bool b => have h4 : isInst "str" (.bool b) = some false := rfl
              simp [h1, h2, h3, h4, eqS]
  | int i => have h4 : isInst "str" (.int i) = some false := rfl
             simp [h1, h2, h3, h4, eqS]
  | str x => have h4 : isInst "str" (.str x) = some true := rfl
             simp [h1, h2, h3, h4, eqS]
  | list xs => have h4 : isInst "str" (.list xs) = some false := rfl
               simp [h1, h2, h3, h4, eqS]
  | tuple xs => have h4 : isInst "str" (.tuple xs) = some false := rfl
                simp [h1, h2, h3, h4, eqS]
theorem R_same_ia (d : D) (i : Int) (h : call "_law_is_number" [d] = some (.frz (.bool (isI d)))) : outO (b_f_law_same call [some (.frz d), some (.frz (.int i)), none]) = some (.frz (.bool (eqI d i))) := by
  rw [ba_f_law_same]
  have h1 : isInst "int" (.int i) = some true := rfl
  have h2 : isInst "bool" (.int i) = some false := rfl
  cases d with
  | int j => have h : call "_law_is_number" [.int j] = some (.frz (.bool true)) := h
             simp [h1, h2, h, eqI]
  | dict _ => have h : call "_law_is_number" [_] = some (.frz (.bool false)) := h
              simp [h1, h2, h, eqI]
  | none => have h : call "_law_is_number" [_] = some (.frz (.bool false)) := h
            simp [h1, h2, h, eqI]
  | bool b => have h : call "_law_is_number" [_] = some (.frz (.bool false)) := h
              simp [h1, h2, h, eqI]
  | str x => have h : call "_law_is_number" [_] = some (.frz (.bool false)) := h
             simp [h1, h2, h, eqI]
  | list xs => have h : call "_law_is_number" [_] = some (.frz (.bool false)) := h
               simp [h1, h2, h, eqI]
  | tuple xs => have h : call "_law_is_number" [_] = some (.frz (.bool false)) := h
                simp [h1, h2, h, eqI]
theorem sameI_loop (ds : List D) (w : List Int) (hl : ds.length = w.length) (h : ∀ (d : D) (i : Int), d ∈ ds → call "_law_same" [d, .int i] = some (.frz (.bool (eqI d i)))) : ∀ (m k : Nat) (y : Option O), k + m = w.length →
    ∃ y', forGo (.one 2) (l_f_law_same_1 call) (rangeD (k : Int) m) [some (.frz (.list ds)), some (.frz (L w)), y] = some (if sameI (ds.drop k) (w.drop k) = true then .next [some (.frz (.list ds)), some (.frz (L w)), y'] else .ret (.frz (.bool false)))
  | 0, k, y, hk => ⟨y, by
      rw [List.drop_eq_nil_of_le (by omega), List.drop_eq_nil_of_le (by omega)]
      simp [rangeD_zero, forGo_nil, sameI]⟩
  | m + 1, k, y, hk => by
    have k1 : k < ds.length := by omega
    have k2 : k < w.length := by omega
    obtain ⟨y', e⟩ := sameI_loop ds w hl h m (k + 1) (some (.frz (.int k))) (by omega)
    rw [show ((k + 1 : Nat) : Int) = (k : Int) + 1 by omega] at e
    have e1 : atI ds (k : Int) = some ds[k] := by rw [atI_nat']; exact List.getElem?_eq_getElem k1
    have e2 : atI w (k : Int) = some w[k] := by rw [atI_nat']; exact List.getElem?_eq_getElem k2
    have c := h ds[k] w[k] (List.getElem_mem k1)
    refine ⟨y', ?_⟩
    rw [List.drop_eq_getElem_cons k1, List.drop_eq_getElem_cons k2, rangeD_succ, forGo_cons]
    show _ = some (if (eqI ds[k] w[k] && sameI (ds.drop (k + 1)) (w.drop (k + 1))) = true then _ else _)
    cases q : eqI ds[k] w[k]
    · rw [q] at c
      simp [e1, e2, c]
    · rw [q] at c
      simp [e1, e2, c, e]
theorem R_same_La (d : D) (w : List Int) (hl : d.canLay0 = true) (hw : w.length < 1000000) (h : ∀ ds, d = .list ds → ∀ (x : D) (i : Int), x ∈ ds → call "_law_same" [x, .int i] = some (.frz (.bool (eqI x i)))) : outO (b_f_law_same call [some (.frz d), some (.frz (L w)), none]) = some (.frz (.bool (isLw d w))) := by
  rw [ba_f_law_same]
  have h1 : isInst "int" (L w) = some false := rfl
  have h2 : isInst "bool" (L w) = some false := rfl
  have h3 : isInst "str" (L w) = some false := rfl
  have h4 : isInst "tuple" (L w) = some false := rfl
  have h5 : isInst "list" (L w) = some true := rfl
  cases d with
  | dict _ => cases hl
  | none => have h6 : isInst "list" .none = some false := rfl
            simp [h1, h2, h3, h4, h5, h6, isLw]
  | bool b => have h6 : isInst "list" (.bool b) = some false := rfl
              simp [h1, h2, h3, h4, h5, h6, isLw]
  | int i => have h6 : isInst "list" (.int i) = some false := rfl
             simp [h1, h2, h3, h4, h5, h6, isLw]
  | str x => have h6 : isInst "list" (.str x) = some false := rfl
             simp [h1, h2, h3, h4, h5, h6, isLw]
  | tuple xs => have h6 : isInst "list" (.tuple xs) = some false := rfl
                simp [h1, h2, h3, h4, h5, h6, isLw]
  | list ds =>
    have h6 : isInst "list" (.list ds) = some true := rfl
    show _ = some (O.frz (.bool (sameI ds w)))
    by_cases q : ds.length = w.length
    · obtain ⟨y', e⟩ := sameI_loop call ds w q (h ds rfl) w.length 0 none (by omega)
      have rM : Rk (w.length : Int) := Rk_of (by omega) (by omega)
      rw [show ((0 : Nat) : Int) = 0 from rfl, List.drop_zero, List.drop_zero] at e
      cases z : sameI ds w
      · rw [z] at e
        simp at e
        simp [h1, h2, h3, h4, h5, h6, q, rM, e]
      · rw [z] at e
        simp at e
        simp [h1, h2, h3, h4, h5, h6, q, rM, e]
    · have z : sameI ds w = false := by
        cases z : sameI ds w with
        | false => rfl
        | true => exact absurd (sameI_len z) q
      rw [z]
      have q' : ¬ ((ds.length : Int) = w.length) := by omega
      simp [h1, h2, h3, h4, h5, h6, q, q']
end
theorem isInst_str (d : D) (h : d.canLay0 = true) : isInst "str" d = some (match d with | .str _ => true | _ => false) := by cases d <;> first | rfl | cases h
theorem layT {ds : List D} (h : (PyData.tuple ds).canLay0 = true) : PyData.canLayAll0 ds = true := by simpa [PyData.canLay0] using h
theorem layL {ds : List D} (h : (PyData.list ds).canLay0 = true) : PyData.canLayAll0 ds = true := by simpa [PyData.canLay0] using h
theorem iL_le (y : D) : (iL y).length ≤ sz y := by
  have key : ∀ ds : List D, (iL (.list ds)).length ≤ szA ds := fun ds => by
    show (ds.map _ : List Int).length ≤ _
    rw [List.length_map]
    exact szA_len ds
  cases y with
  | list ds => have := key ds; show _ ≤ szA ds + 2; omega
  | _ => exact Nat.zero_le _
theorem iL_le3 {y : D} (h : okW 4 y = true) : 3 * (iL y).length ≤ sz y := by
  obtain ⟨e, hw⟩ := okW_ex h
  generalize iL y = w at *
  subst e
  have one : ∀ i : Int, -4 ≤ i → i ≤ 4 → 1 ≤ sz (.int i) := by
    intro i h1 h2
    have : i = -4 ∨ i = -3 ∨ i = -2 ∨ i = -1 ∨ i = 0 ∨ i = 1 ∨ i = 2 ∨ i = 3 ∨ i = 4 := by omega
    rcases this with rfl | rfl | rfl | rfl | rfl | rfl | rfl | rfl | rfl <;> decide +kernel
  have key : ∀ w : List Int, Wd 4 w → 3 * w.length ≤ szA (dI w) := by
    intro w
    induction w with
    | nil => intro _; exact Nat.zero_le _
    | cons x w ih =>
      intro hw
      rw [dI_cons]
      show 3 * (w.length + 1) ≤ sz (.int x) + 2 + szA (dI w)
      have h0 := hw x List.mem_cons_self
      have := one x h0.2.1 h0.2.2
      have := ih fun z m => hw z (List.mem_cons_of_mem _ m)
      omega
  show _ ≤ szA (dI w) + 2
  have := key w hw
  omega
theorem sz_negs : ∀ n : Nat, n < 301 → sz (.int (-(n : Int))) ≤ 5 ∧ PyData.showable (.int (-(n : Int))) = true := by decide +kernel
theorem sz_300 {x : Int} (h1 : -300 ≤ x) (h2 : x ≤ 300) : sz (.int x) ≤ 5 ∧ PyData.showable (.int x) = true := by
  by_cases q : 0 ≤ x
  · obtain ⟨n, rfl⟩ := Int.eq_ofNat_of_zero_le q
    exact sz_nat n (by omega)
  · obtain ⟨n, hn⟩ := Int.eq_ofNat_of_zero_le (a := -x) (by omega)
    have : x = -(n : Int) := by omega
    rw [this]
    exact sz_negs n (by omega)
theorem GdA.n300 {n : Nat} : ∀ {ws : List Int}, (∀ x ∈ ws, -300 ≤ x ∧ x ≤ 300) → GdA (dI ws) n (7 * ws.length)
  | [], _ => GdA.nil
  | w :: ws, h => by
    have h1 := sz_300 (h w List.mem_cons_self).1 (h w List.mem_cons_self).2
    have ih := GdA.n300 (n := n) (ws := ws) fun v m => h v (List.mem_cons_of_mem _ m)
    have := (GdA.one (d := .int w) (n := n) (k := 7) rfl h1.2 (Nat.zero_le _) (by omega)).app ih
    rw [dI_cons]
    refine ⟨this.lay, this.shw, this.dep, ?_⟩
    have := this.sz
    simp only [List.length_cons]
    exact Nat.le_trans this (by omega)
end PY
set_option maxHeartbeats 4000000
/-! LibW: words written several times, roots of words. -/
namespace PY
open PySem L2
def wp (w : List Int) (n : Nat) : List Int := (List.replicate n w).flatten
theorem wp_zero (w : List Int) : wp w 0 = [] := rfl
theorem wp_one (w : List Int) : wp w 1 = w := by simp [wp]
theorem wp_succ (w : List Int) (n : Nat) : wp w (n + 1) = w ++ wp w n := by unfold wp; rw [List.replicate_succ, List.flatten_cons]
theorem wp_succ' (w : List Int) (n : Nat) : wp w (n + 1) = wp w n ++ w := rep_succ w n
theorem wp_nil : ∀ n : Nat, wp [] n = []
  | 0 => rfl
  | n + 1 => by rw [wp_succ, wp_nil n]; rfl
theorem wp_len (w : List Int) (n : Nat) : (wp w n).length = n * w.length := repf_len w n
theorem wp_add (w : List Int) (m n : Nat) : wp w (m + n) = wp w m ++ wp w n := by
  induction m with
  | zero => simp [wp_zero]
  | succ m ih => rw [Nat.succ_add, wp_succ, wp_succ, ih, List.append_assoc]
theorem wp_mul (w : List Int) (m : Nat) : ∀ n : Nat, wp (wp w m) n = wp w (m * n)
  | 0 => rfl
  | n + 1 => by rw [wp_succ, wp_mul w m n, ← wp_add, Nat.mul_succ, Nat.add_comm]
theorem wp_bck (w : List Int) : ∀ n : Nat, bck (wp w n) = wp (bck w) n
  | 0 => rfl
  | n + 1 => by rw [wp_succ', bck_app, wp_bck w n, wp_succ]
theorem bck_nil {w : List Int} (h : bck w = []) : w = [] := by
  have := congrArg List.length h
  rw [bck_len] at this
  exact List.eq_nil_of_length_eq_zero this
theorem wp_take {w : List Int} {n : Nat} (hn : 0 < n) : (wp w n).take w.length = w := by
  obtain ⟨k, rfl⟩ : ∃ k, n = k + 1 := ⟨n - 1, by omega⟩
  rw [wp_succ, List.take_left']
  rfl
theorem wp_ne {w : List Int} {n : Nat} (hw : w ≠ []) (hn : 0 < n) : wp w n ≠ [] := by
  intro h
  have := congrArg List.length h
  rw [wp_len] at this
  have := List.length_pos_iff.mpr hw
  have := Nat.mul_pos hn this
  simp at *
  omega
/-! ### words that commute -/
theorem comm_pow {x y : List Int} {n m : Nat} (hn : 0 < n) (hm : 0 < m) (h : wp x n = wp y m) : x ++ y = y ++ x := by
  have hx : x.length ≤ (wp x n).length := by rw [wp_len]; exact Nat.le_mul_of_pos_left _ hn
  have hy : y.length ≤ (wp x n).length := by rw [h, wp_len]; exact Nat.le_mul_of_pos_left _ hm
  have e1 : wp (wp x n) 2 = wp x (n * 2) := wp_mul x n 2
  have e2 : wp (wp x n) 2 = wp y (m * 2) := by rw [h]; exact wp_mul y m 2
  have l : (wp (wp x n) 2).length = 2 * (wp x n).length := wp_len _ _
  generalize wp (wp x n) 2 = V at *
  have vx : x ++ V = V ++ x := by rw [e1, ← wp_succ, wp_succ']
  have vy : y ++ V = V ++ y := by rw [e2, ← wp_succ, wp_succ']
  have tx : V.take x.length = x := by rw [e1]; exact wp_take (by omega)
  have ty : V.take y.length = y := by rw [e2]; exact wp_take (by omega)
  have a1 : (x ++ V).take (x.length + y.length) = x ++ y := by
    rw [List.take_append, List.take_of_length_le (by omega)]
    congr 1
    rw [show x.length + y.length - x.length = y.length by omega]
    exact ty
  have a2 : (y ++ V).take (x.length + y.length) = y ++ x := by
    rw [List.take_append, List.take_of_length_le (by omega)]
    congr 1
    rw [show x.length + y.length - y.length = x.length by omega]
    exact tx
  rw [vx] at a1
  rw [vy] at a2
  rw [List.take_append_of_le_length (by omega)] at a1 a2
  exact a1.symm.trans a2
theorem comm_root : ∀ (k : Nat) (x y : List Int), x.length + y.length ≤ k → x ++ y = y ++ x → ∃ z i j, x = wp z i ∧ y = wp z j
  | 0, x, y, hk, _ => by
    have e1 : x = [] := List.eq_nil_of_length_eq_zero (by omega)
    have e2 : y = [] := List.eq_nil_of_length_eq_zero (by omega)
    exact ⟨[], 0, 0, e1, e2⟩
  | k + 1, x, y, hk, h => by
    by_cases hx : x = []
    · exact ⟨y, 0, 1, hx, (wp_one y).symm⟩
    by_cases hy : y = []
    · exact ⟨x, 1, 0, (wp_one x).symm, hy⟩
    have px := List.length_pos_iff.mpr hx
    have py := List.length_pos_iff.mpr hy
    by_cases hl : x.length ≤ y.length
    · have e : y = x ++ y.drop x.length := by
        have t := congrArg (List.take x.length) h
        rw [List.take_left' rfl, List.take_append_of_le_length hl] at t
        have u := (List.take_append_drop x.length y).symm
        rw [← t] at u
        exact u
      generalize y.drop x.length = y' at e
      subst e
      have h' : x ++ y' = y' ++ x := by
        rw [List.append_assoc] at h
        exact List.append_cancel_left h
      rw [List.length_append] at hk
      obtain ⟨z, i, j, e1, e2⟩ := comm_root k x y' (by omega) h'
      exact ⟨z, i, i + j, e1, by rw [wp_add, ← e1, ← e2]⟩
    · have hl : y.length ≤ x.length := by omega
      have e : x = y ++ x.drop y.length := by
        have t := congrArg (List.take y.length) h
        rw [List.take_left' rfl, List.take_append_of_le_length hl] at t
        have u := (List.take_append_drop y.length x).symm
        rw [t] at u
        exact u
      generalize x.drop y.length = x' at e
      subst e
      have h' : x' ++ y = y ++ x' := by
        rw [List.append_assoc] at h
        exact List.append_cancel_left h
      rw [List.length_append] at hk
      obtain ⟨z, i, j, e1, e2⟩ := comm_root k x' y (by omega) h'
      exact ⟨z, j + i, j, by rw [wp_add, ← e1, ← e2], e2⟩
/-! ### roots -/
def per (c : List Int) (l : Nat) : Bool := decide (c.length % l = 0) && decide (wp (c.take l) (c.length / l) = c)
def rlGo (c : List Int) (k : Nat) : Nat → Nat
  | 0 => c.length
  | m + 1 => if per c (k + 1) = true then k + 1 else rlGo c (k + 1) m
def rl (c : List Int) : Nat := rlGo c 0 c.length
def rt (c : List Int) : List Int := c.take (rl c)
def ex (c : List Int) : Nat := c.length / rl c
theorem per_len {c : List Int} (h : c ≠ []) : per c c.length = true := by
  have p := List.length_pos_iff.mpr h
  unfold per
  rw [Nat.mod_self, Nat.div_self p, List.take_length, wp_one]
  simp
theorem per_wp {q : List Int} {t : Nat} (hq : q ≠ []) (ht : 0 < t) : per (wp q t) q.length = true := by
  have p := List.length_pos_iff.mpr hq
  unfold per
  rw [wp_len, Nat.mul_mod_left, Nat.mul_div_cancel _ p, wp_take ht]
  simp
theorem per_ok {c : List Int} {l : Nat} (h : per c l = true) : c.length % l = 0 ∧ wp (c.take l) (c.length / l) = c := by
  unfold per at h
  simpa using h
theorem rlGo_spec (c : List Int) (hc : c ≠ []) : ∀ m k : Nat, k + m = c.length → (∀ l, 1 ≤ l → l ≤ k → per c l = false) → 1 ≤ rlGo c k m ∧ rlGo c k m ≤ c.length ∧ per c (rlGo c k m) = true ∧ ∀ l, 1 ≤ l → l < rlGo c k m → per c l = false
  | 0, k, hk, h => by
    have p := List.length_pos_iff.mpr hc
    have := h c.length p (by omega)
    rw [per_len hc] at this
    cases this
  | m + 1, k, hk, h => by
    unfold rlGo
    split
    · rename_i q
      exact ⟨by omega, by omega, q, fun l h1 h2 => h l h1 (by omega)⟩
    · rename_i q
      refine rlGo_spec c hc m (k + 1) (by omega) fun l h1 h2 => ?_
      by_cases e : l = k + 1
      · rw [e]; simpa using q
      · exact h l h1 (by omega)
theorem rl_spec {c : List Int} (hc : c ≠ []) : 1 ≤ rl c ∧ rl c ≤ c.length ∧ per c (rl c) = true ∧ ∀ l, 1 ≤ l → l < rl c → per c l = false :=
  rlGo_spec c hc c.length 0 (by omega) fun l h1 h2 => by omega
theorem rl_le {c : List Int} {l : Nat} (hc : c ≠ []) (h1 : 1 ≤ l) (h : per c l = true) : rl c ≤ l := by
  by_cases q : l < rl c
  · have := (rl_spec hc).2.2.2 l h1 q
    rw [h] at this
    cases this
  · omega
theorem rt_len {c : List Int} (hc : c ≠ []) : (rt c).length = rl c := by
  have := (rl_spec hc).2.1
  unfold rt
  rw [List.length_take]
  omega
theorem rt_ne {c : List Int} (hc : c ≠ []) : rt c ≠ [] := by
  intro h
  have := congrArg List.length h
  rw [rt_len hc] at this
  have := (rl_spec hc).1
  simp at *
  omega
theorem rt_wp {c : List Int} (hc : c ≠ []) : wp (rt c) (ex c) = c := (per_ok (rl_spec hc).2.2.1).2
theorem ex_mul {c : List Int} (hc : c ≠ []) : ex c * rl c = c.length := by
  have := congrArg List.length (rt_wp hc)
  rw [wp_len, rt_len hc] at this
  exact this
theorem ex_pos {c : List Int} (hc : c ≠ []) : 0 < ex c := by
  have h := ex_mul hc
  have p := List.length_pos_iff.mpr hc
  rcases Nat.eq_zero_or_pos (ex c) with q | q
  · rw [q] at h; omega
  · exact q
/-- no word is written more often -/
theorem ex_max {c q : List Int} {t : Nat} (hc : c ≠ []) (h : wp q t = c) : t ≤ ex c ∧ (0 < t → rl c ≤ q.length) := by
  rcases Nat.eq_zero_or_pos t with ht | ht
  · subst ht; exact ⟨Nat.zero_le _, fun h => by omega⟩
  have hq : q ≠ [] := by
    intro e
    subst e
    rw [wp_nil] at h
    exact hc h.symm
  have pq := List.length_pos_iff.mpr hq
  have a := per_wp hq ht
  rw [h] at a
  have r := rl_le hc pq a
  refine ⟨?_, fun _ => r⟩
  have e := ex_mul hc
  have e2 := congrArg List.length h
  rw [wp_len] at e2
  rw [← e2] at e
  have : ex c * rl c ≤ ex c * q.length := Nat.mul_le_mul_left _ r
  have : t * q.length ≤ ex c * q.length := by omega
  exact Nat.le_of_mul_le_mul_right this pq
/-- its own root -/
theorem rl_rt {c : List Int} (hc : c ≠ []) : rl (rt c) = (rt c).length := by
  have hr := rt_ne hc
  have s := rl_spec hr
  have e1 := rt_wp hr
  have e2 : wp (rt (rt c)) (ex (rt c) * ex c) = c := by rw [← wp_mul, e1, rt_wp hc]
  have p := Nat.mul_pos (ex_pos hr) (ex_pos hc)
  have := (ex_max hc e2).2 p
  rw [rt_len hr] at this
  have := rt_len hc
  omega
theorem rt_rt {c : List Int} (hc : c ≠ []) : rt (rt c) = rt c ∧ ex (rt c) = 1 := by
  have h := rl_rt hc
  have p := List.length_pos_iff.mpr (rt_ne hc)
  constructor
  · show (rt c).take (rl (rt c)) = _
    rw [h, List.take_length]
  · show (rt c).length / rl (rt c) = 1
    rw [h, Nat.div_self p]
/-- a word that is its own root, and a power of it -/
theorem rl_prim {r q : List Int} {n m : Nat} (hr : r ≠ []) (hp : rl r = r.length) (hn : 0 < n) (hm : 0 < m) (h : wp q m = wp r n) : r.length ≤ q.length := by
  have c := comm_pow hm hn h
  obtain ⟨z, i, j, e1, e2⟩ := comm_root _ q r (Nat.le_refl _) c
  have hj : 0 < j := by
    rcases Nat.eq_zero_or_pos j with q | q
    · subst q; exact absurd e2 hr
    · exact q
  have a := (ex_max hr e2.symm).2 hj
  have l2 := congrArg List.length e2
  rw [wp_len] at l2
  have pr := List.length_pos_iff.mpr hr
  have hqn : q ≠ [] := by
    intro e
    subst e
    rw [wp_nil] at h
    exact wp_ne hr hn h.symm
  have hi : 0 < i := by
    rcases Nat.eq_zero_or_pos i with w | w
    · subst w; exact absurd e1 hqn
    · exact w
  have l1 := congrArg List.length e1
  rw [wp_len] at l1
  have : z.length ≤ i * z.length := Nat.le_mul_of_pos_left _ hi
  omega
theorem rl_wp {c : List Int} {n : Nat} (hc : c ≠ []) (hn : 0 < n) : rl (wp c n) = rl c ∧ rt (wp c n) = rt c ∧ ex (wp c n) = ex c * n := by
  have hw := wp_ne hc hn
  have e : wp (rt c) (ex c * n) = wp c n := by rw [← wp_mul, rt_wp hc]
  have p := Nat.mul_pos (ex_pos hc) hn
  have a := (ex_max hw e).2 p
  have b := rl_prim (rt_ne hc) (rl_rt hc) p (ex_pos hw) ((rt_wp hw).trans e.symm)
  rw [rt_len hc] at a b
  rw [rt_len hw] at b
  have r : rl (wp c n) = rl c := by omega
  refine ⟨r, ?_, ?_⟩
  · show (wp c n).take (rl (wp c n)) = _
    rw [r, ← e, ← rt_len hc]
    exact wp_take p
  · show (wp c n).length / rl (wp c n) = _
    rw [r, wp_len, ← ex_mul hc]
    have := (rl_spec hc).1
    rw [← Nat.mul_assoc, Nat.mul_div_cancel _ (by omega), Nat.mul_comm]
theorem rl_bck {c : List Int} (hc : c ≠ []) : rl (bck c) = rl c ∧ rt (bck c) = bck (rt c) ∧ ex (bck c) = ex c := by
  have hb : bck c ≠ [] := fun h => hc (bck_nil h)
  have e1 : wp (bck (rt c)) (ex c) = bck c := by rw [← wp_bck, rt_wp hc]
  have e2 : wp (bck (rt (bck c))) (ex (bck c)) = c := by rw [← wp_bck, rt_wp hb, bck_bck]
  have a := (ex_max hb e1).2 (ex_pos hc)
  have b := (ex_max hc e2).2 (ex_pos hb)
  rw [bck_len, rt_len hc] at a
  rw [bck_len, rt_len hb] at b
  have r : rl (bck c) = rl c := by omega
  refine ⟨r, ?_, ?_⟩
  · show (bck c).take (rl (bck c)) = _
    rw [r, ← e1, ← rt_len hc, ← bck_len (rt c)]
    exact wp_take (ex_pos hc)
  · show (bck c).length / rl (bck c) = c.length / rl c
    rw [r, bck_len]
end PY
set_option maxHeartbeats 4000000
/-! LibX: roots of words that cancel. -/
namespace PY
open PySem L2
/-- a core in a front -/
structure Par (f d : List Int) : Prop where
  cy : cyc d
  ne : d ≠ []
  h1 : isRed (f ++ d) = true
  h2 : isRed (d ++ bck f) = true
theorem Par.ends {f d : List Int} (h : Par f d) : d.head? ≠ d.getLast?.map (-·) := by
  intro e
  cases hx : d.getLast? with
  | none => rw [List.getLast?_eq_none_iff] at hx; exact h.ne hx
  | some x =>
    rw [hx] at e
    exact cyc_ends h.cy hx e rfl
theorem Par.rep {w f d : List Int} (h : Par f d) (hw : ∀ y, Ac w y = Ac (f ++ d ++ bck f) y) {n : Nat} (hn : 0 < n) : red (wp w n) = f ++ wp d n ++ bck f := by
  obtain ⟨k, rfl⟩ : ∃ k, n = k + 1 := ⟨n - 1, by omega⟩
  exact red_rep hw h.cy h.ne h.h1 h.h2 k
theorem wp_head {d : List Int} {n : Nat} (hd : d ≠ []) (hn : 0 < n) : (wp d n).head? = d.head? ∧ (wp d n).getLast? = d.getLast? := by
  obtain ⟨k, rfl⟩ : ∃ k, n = k + 1 := ⟨n - 1, by omega⟩
  exact ⟨rep_head hd k, rep_last hd k⟩
theorem Par.ok {w f d : List Int} (h : Par f d) (hl : w.length < 900000) (hw : ∀ y, Ac w y = Ac (f ++ d ++ bck f) y) : red w = f ++ d ++ bck f ∧ front w = f ∧ core w = d := by
  have e := h.rep hw (n := 1) (by decide)
  rw [wp_one, wp_one] at e
  exact ⟨e, core_of_parts hl e h.ne h.ends⟩
theorem Par.wp {w f d : List Int} (h : Par f d) {n : Nat} (hn : 0 < n) (hl : n * w.length < 900000) (hw : ∀ y, Ac w y = Ac (f ++ d ++ bck f) y) : front (PY.wp w n) = f ∧ core (PY.wp w n) = PY.wp d n := by
  have e := h.rep hw hn
  refine core_of_parts (by rw [wp_len]; exact hl) e (wp_ne h.ne hn) ?_
  obtain ⟨a, b⟩ := wp_head h.ne hn
  rw [a, b]
  exact h.ends
/-- a word of which the power is the core -/
theorem Par.root {f d r : List Int} {n : Nat} (h : Par f d) (hn : 0 < n) (e : PY.wp r n = d) : Par f r := by
  have hr : r ≠ [] := by
    intro q
    subst q
    rw [wp_nil] at e
    exact h.ne e.symm
  obtain ⟨a, b⟩ := wp_head hr hn
  rw [e] at a b
  obtain ⟨k, rfl⟩ : ∃ k, n = k + 1 := ⟨n - 1, by omega⟩
  have e1 : d = r ++ PY.wp r k := by rw [← e, wp_succ]
  have e2 : d = PY.wp r k ++ r := by rw [← e, wp_succ']
  have hd : isRed d = true := cyc_red h.cy
  have hrr : isRed r = true := by
    have := isRed_take r.length hd
    rw [e1, List.take_left' rfl] at this
    exact this
  refine ⟨?_, hr, ?_, ?_⟩
  · show isRed (r ++ r) = true
    refine isRed_app.mpr ⟨hrr, hrr, fun x y hx hy => ?_⟩
    exact cyc_ends h.cy (by rw [b]; exact hx) (by rw [a]; exact hy)
  · have := h.h1
    rw [e1, ← List.append_assoc] at this
    exact (isRed_app.mp this).1
  · have := h.h2
    rw [e2, List.append_assoc] at this
    exact (isRed_app.mp this).2.1
theorem par_of {w : List Int} (hz : nz w) (hl : w.length < 900000) (hc : core w ≠ []) : Par (front w) (core w) ∧ ∀ y, Ac w y = Ac (front w ++ core w ++ bck (front w)) y := by
  obtain ⟨h1, h2, h3, h4⟩ := core_parts hz hl
  exact ⟨⟨h1, hc, h2, h3⟩, h4⟩
/-- the root of a word -/
def rw_ (w : List Int) : List Int := front w ++ rt (core w) ++ bck (front w)
theorem cyc_bck' {f d : List Int} (h : Par f d) : Par f (bck d) := by
  have b : bck d ≠ [] := fun e => h.ne (bck_nil e)
  refine ⟨cyc_bck h.cy, b, ?_, ?_⟩
  · have := isRed_bck h.h2
    rw [bck_app, bck_bck] at this
    exact this
  · have := isRed_bck h.h1
    rw [bck_app] at this
    exact this
theorem Ac_par_bck {w f d : List Int} (hw : ∀ y, Ac w y = Ac (f ++ d ++ bck f) y) (y : RW) : Ac (bck w) y = Ac (f ++ bck d ++ bck f) y := by
  have e : red w = red (f ++ d ++ bck f) := red_ext hw
  have e2 : red (bck w) = red (bck (f ++ d ++ bck f)) := by rw [red_bck, red_bck, e]
  rw [Ac_of e2, bck_app, bck_app, bck_bck, List.append_assoc]
section
variable {w : List Int} (hz : nz w) (hl : w.length < 900000) (hc : core w ≠ [])
include hz hl hc
theorem rw_par : Par (front w) (rt (core w)) := (par_of hz hl hc).1.root (ex_pos hc) (rt_wp hc)
theorem rw_red : red (rw_ w) = rw_ w ∧ front (rw_ w) = front w ∧ core (rw_ w) = rt (core w) := by
  have l1 : (rt (core w)).length ≤ (core w).length := by rw [rt_len hc]; exact (rl_spec hc).2.1
  have e := congrArg List.length ((par_of hz hl hc).1.ok hl (par_of hz hl hc).2).1
  have r := red_len w
  simp only [List.length_append, bck_len] at e
  have l2 : (rw_ w).length < 900000 := by
    unfold rw_
    simp only [List.length_append, bck_len]
    omega
  obtain ⟨a, b, c⟩ := (rw_par hz hl hc).ok (w := rw_ w) l2 (fun _ => rfl)
  exact ⟨a, b, c⟩
theorem rw_len : (rw_ w).length ≤ w.length := by
  have l1 : (rt (core w)).length ≤ (core w).length := by rw [rt_len hc]; exact (rl_spec hc).2.1
  have e := congrArg List.length ((par_of hz hl hc).1.ok hl (par_of hz hl hc).2).1
  have r := red_len w
  simp only [List.length_append, bck_len] at e
  unfold rw_
  simp only [List.length_append, bck_len]
  omega
theorem rw_pow : red (wp (rw_ w) (ex (core w))) = red w := by
  have e := (rw_par hz hl hc).rep (w := rw_ w) (fun _ => rfl) (ex_pos hc)
  rw [e, rt_wp hc]
  exact ((par_of hz hl hc).1.ok hl (par_of hz hl hc).2).1.symm
theorem rw_rw : rw_ (rw_ w) = rw_ w ∧ ex (core (rw_ w)) = 1 := by
  obtain ⟨a, b, c⟩ := rw_red hz hl hc
  obtain ⟨d, e⟩ := rt_rt hc
  refine ⟨?_, by rw [c]; exact e⟩
  show front (rw_ w) ++ rt (core (rw_ w)) ++ bck (front (rw_ w)) = _
  rw [b, c, d]
  rfl
theorem bck_parts : front (bck w) = front w ∧ core (bck w) = bck (core w) := by
  obtain ⟨p, h⟩ := par_of hz hl hc
  exact ((cyc_bck' p).ok (by rw [bck_len]; exact hl) (Ac_par_bck h)).2
theorem rw_bck : rw_ (bck w) = bck (rw_ w) ∧ ex (core (bck w)) = ex (core w) := by
  obtain ⟨a, b⟩ := bck_parts hz hl hc
  obtain ⟨_, c, d⟩ := rl_bck hc
  refine ⟨?_, by rw [b, d]⟩
  unfold rw_
  rw [a, b, c, bck_app, bck_app, bck_bck, List.append_assoc]
theorem rw_wp {n : Nat} (hn : 0 < n) (hl2 : n * w.length < 900000) : rw_ (wp w n) = rw_ w ∧ ex (core (wp w n)) = ex (core w) * n := by
  obtain ⟨p, h⟩ := par_of hz hl hc
  obtain ⟨a, b⟩ := p.wp hn hl2 h
  obtain ⟨_, c, d⟩ := rl_wp hc hn
  refine ⟨?_, by rw [b, d]⟩
  unfold rw_
  rw [a, b, c]
/-- no word more often -/
theorem rw_max {q : List Int} {t : Nat} (hq : nz q) (hlq : t * q.length < 900000) (hlq2 : q.length < 900000) (e : red (wp q t) = red w) : t ≤ ex (core w) := by
  rcases Nat.eq_zero_or_pos t with ht | ht
  · omega
  have cw : core (wp q t) = core w := by rw [← (core_red (wp q t)).1, e, (core_red w).1]
  by_cases hcq : core q = []
  · exfalso
    have r := core_nil_red hlq2 hcq
    have : red (wp q t) = [] := by
      refine red_nil_of fun y => ?_
      have h : ∀ y, Ac q y = y := fun y => by rw [← Ac_red, r]; rfl
      clear cw e hlq ht
      induction t with
      | zero => rfl
      | succ t ih => rw [wp_succ, Ac_app, h, ih]
    rw [this] at e
    exact hc (red_nil_core e.symm)
  · obtain ⟨p, h⟩ := par_of hq hlq2 hcq
    obtain ⟨_, b⟩ := p.wp ht hlq h
    rw [cw] at b
    exact (ex_max hc b.symm).1
end
end PY
set_option maxHeartbeats 4000000
/-! LibY: the least of words. -/
namespace PY
open PySem L2
theorem lex_tri {a b : List Int} (h1 : ¬ a < b) (h2 : ¬ b < a) : a = b := List.le_antisymm h2 h1
/-- the least of some words -/
def lw (w : List Int) (ws : List (List Int)) : List Int := ws.foldl (fun a y => if y < a then y else a) w
theorem lw_spec : ∀ (ws : List (List Int)) (w : List Int), lw w ws ∈ w :: ws ∧ ∀ y ∈ w :: ws, ¬ y < lw w ws
  | [], w => ⟨List.mem_singleton.mpr rfl, fun y m => by
    rw [List.mem_singleton.mp m]
    exact List.lt_irrefl w⟩
  | v :: ws, w => by
    by_cases q : v < w
    · have e : lw w (v :: ws) = lw v ws := by
        show lw (if v < w then v else w) ws = _
        rw [if_pos q]
      obtain ⟨h1, h2⟩ := lw_spec ws v
      rw [e]
      refine ⟨List.mem_cons_of_mem _ h1, fun y m hy => ?_⟩
      rcases List.mem_cons.mp m with rfl | m
      · exact h2 v List.mem_cons_self (List.lt_trans q hy)
      · exact h2 y m hy
    · have e : lw w (v :: ws) = lw w ws := by
        show lw (if v < w then v else w) ws = _
        rw [if_neg q]
      obtain ⟨h1, h2⟩ := lw_spec ws w
      rw [e]
      refine ⟨?_, fun y m hy => ?_⟩
      · rcases List.mem_cons.mp h1 with h | h
        · rw [h]; exact List.mem_cons_self
        · exact List.mem_cons_of_mem _ (List.mem_cons_of_mem _ h)
      · have hw := h2 w List.mem_cons_self
        rcases List.mem_cons.mp m with rfl | m
        · exact hw hy
        · rcases List.mem_cons.mp m with rfl | m
          · by_cases b : lw w ws < w
            · exact q (List.lt_trans hy b)
            · have := lex_tri hw b
              rw [← this] at hy
              exact q hy
          · exact h2 y (List.mem_cons_of_mem _ m) hy
theorem lw_eq {w m : List Int} {ws : List (List Int)} (h1 : m ∈ w :: ws) (h2 : ∀ y ∈ w :: ws, ¬ y < m) : lw w ws = m := by
  obtain ⟨g1, g2⟩ := lw_spec ws w
  exact lex_tri (h2 _ g1) (g2 _ h1)
/-- of a list that is not empty -/
def lws : List (List Int) → List Int
  | [] => []
  | w :: ws => lw w ws
theorem lws_eq {m : List Int} {ws : List (List Int)} (h1 : m ∈ ws) (h2 : ∀ y ∈ ws, ¬ y < m) : lws ws = m := by
  cases ws with
  | nil => cases h1
  | cons w ws => exact lw_eq h1 h2
theorem lws_spec {ws : List (List Int)} (h : ws ≠ []) : lws ws ∈ ws ∧ ∀ y ∈ ws, ¬ y < lws ws := by
  cases ws with
  | nil => exact absurd rfl h
  | cons w ws => exact lw_spec ws w
theorem lws_same {a b : List (List Int)} (h : a ≠ []) (e : ∀ x, x ∈ a ↔ x ∈ b) : lws a = lws b := by
  have hb : b ≠ [] := by
    intro q
    subst q
    obtain ⟨x, m⟩ := List.exists_mem_of_ne_nil a h
    exact absurd ((e x).mp m) (by simp)
  obtain ⟨g1, g2⟩ := lws_spec hb
  exact lws_eq ((e _).mpr g1) fun y m => g2 y ((e y).mp m)
/-! as data -/
theorem dataLt_L (x y : List Int) : PySem.W.dataLt (L x) (L y) = decide (x < y) := (PySem.W.dataLt_list _ _).trans (PySem.W.dataLt_ints x y)
theorem minD_dL : ∀ (ws : List (List Int)) (w : List Int), PySem.W.minD (L w) (dL ws) = L (lw w ws)
  | [], w => rfl
  | v :: ws, w => by
    show PySem.W.minD (if PySem.W.dataLt (L v) (L w) = true then L v else L w) (dL ws) = L (lw (if v < w then v else w) ws)
    rw [← minD_dL ws, dataLt_L]
    congr 1
    by_cases q : v < w <;> simp [q]
theorem alike_L (x y : List Int) : PySem.W.alike (L x) (L y) = true := PySem.W.alike_ints x y
theorem alikeOk_dL (ws : List (List Int)) : alikeOk (dL ws) = true := by
  unfold alikeOk
  rw [Bool.and_eq_true, Bool.and_eq_true]
  refine ⟨⟨List.all_eq_true.mpr fun d hd => List.all_eq_true.mpr fun e he => ?_, List.all_eq_true.mpr fun d hd => ?_⟩, decide_eq_true (by have := dep_dL ws; omega)⟩
  · obtain ⟨x, _, rfl⟩ := List.mem_map.mp hd
    obtain ⟨y, _, rfl⟩ := List.mem_map.mp he
    exact alike_L x y
  · obtain ⟨x, _, rfl⟩ := List.mem_map.mp hd
    rfl
theorem sortOk_dL (ws : List (List Int)) : sortOk (dL ws) = true := by
  unfold sortOk
  rw [Bool.and_eq_true, Bool.and_eq_true]
  refine ⟨⟨List.all_eq_true.mpr fun d hd => List.all_eq_true.mpr fun e he => ?_, ?_⟩, List.all_eq_true.mpr fun d hd => ?_⟩
  · obtain ⟨x, _, rfl⟩ := List.mem_map.mp hd
    obtain ⟨y, _, rfl⟩ := List.mem_map.mp he
    exact alike_L x y
  · rw [Bool.or_eq_true]
    refine .inr (List.all_eq_true.mpr fun d hd => ?_)
    obtain ⟨x, _, rfl⟩ := List.mem_map.mp hd
    rfl
  · obtain ⟨x, _, rfl⟩ := List.mem_map.mp hd
    have := dep_dI x
    exact decide_eq_true (by simp only [PyData.depth]; omega)
theorem minV_dL {ws : List (List Int)} (h : ws ≠ []) : minV (.list (dL ws)) = some (L (lws ws)) := by
  cases ws with
  | nil => exact absurd rfl h
  | cons w ws =>
    show (if alikeOk (dL (w :: ws)) = true then some (PySem.W.minD (L w) (dL ws)) else none) = _
    rw [if_pos (alikeOk_dL _), minD_dL]
    rfl
theorem intsOf_dL {ws : List (List Int)} (h : ws ≠ []) : intsOf (dL ws) = none := by
  cases ws with
  | nil => exact absurd rfl h
  | cons w ws => rfl
theorem sortD_dL (ws : List (List Int)) : sortD (dL ws) = dL (ws.mergeSort fun a b => decide (a ≤ b)) := by
  unfold sortD dL
  rw [← List.map_mergeSort (r := fun a b : List Int => decide (a ≤ b)) (f := fun w => L w)]
  intro a _ b _
  have := congrFun (congrFun (PySem.W.dataLe_rows (fun x : List Int => x)) a) b
  rw [← this]
  rfl
theorem le_tot (a b : List Int) : (decide (a ≤ b) || decide (b ≤ a)) = true := by
  by_cases q : a ≤ b
  · simp [q]
  · have : b < a := Classical.not_not.mp q
    have : b ≤ a := fun h => List.lt_irrefl _ (List.lt_trans this h)
    simp [this]
theorem le_tr (a b c : List Int) : decide (a ≤ b) = true → decide (b ≤ c) = true → decide (a ≤ c) = true := by
  intro h1 h2
  have h1 := of_decide_eq_true h1
  have h2 := of_decide_eq_true h2
  refine decide_eq_true fun h => ?_
  by_cases q : b < c
  · exact h1 (List.lt_trans q h)
  · have e := lex_tri q h2
    subst e
    exact h1 h
/-- the first one of the sorted ones -/
theorem sort_head {ws : List (List Int)} (h : ws ≠ []) : ∃ r, sortD (dL ws) = dL (lws ws :: r) := by
  rw [sortD_dL]
  have pw := List.pairwise_mergeSort (le := fun a b : List Int => decide (a ≤ b)) (fun a b c => le_tr a b c) (fun a b => le_tot a b) ws
  have mem : ∀ x, x ∈ ws.mergeSort (fun a b => decide (a ≤ b)) ↔ x ∈ ws := fun x => List.mem_mergeSort
  have ln := List.length_mergeSort (le := fun a b : List Int => decide (a ≤ b)) ws
  cases q : ws.mergeSort (fun a b => decide (a ≤ b)) with
  | nil =>
    rw [q] at ln
    exact absurd (List.eq_nil_of_length_eq_zero ln.symm) h
  | cons m r =>
    rw [q] at pw mem
    refine ⟨r, ?_⟩
    rw [lws_eq (m := m) ((mem m).mp List.mem_cons_self) fun y my => ?_]
    rcases List.mem_cons.mp ((mem y).mpr my) with rfl | my
    · exact List.lt_irrefl _
    · exact of_decide_eq_true ((List.pairwise_cons.mp pw).1 y my)
end PY
set_option maxHeartbeats 4000000
/-! LibZ: least cores. -/
namespace PY
open PySem L2
theorem lt_app : ∀ {a b : List Int} (x y : List Int), a.length = b.length → (a ++ x < b ++ y ↔ a < b ∨ (a = b ∧ x < y))
  | [], [], x, y, _ => by simp [List.lt_irrefl]
  | [], _ :: _, _, _, h => by simp at h
  | _ :: _, [], _, _, h => by simp at h
  | a :: as, b :: bs, x, y, h => by
    have ih := lt_app (a := as) (b := bs) x y (by simpa using h)
    rw [List.cons_append, List.cons_append, List.cons_lt_cons_iff, List.cons_lt_cons_iff, ih]
    constructor
    · rintro (h | ⟨h1, h2 | ⟨h2, h3⟩⟩)
      · exact .inl (.inl h)
      · exact .inl (.inr ⟨h1, h2⟩)
      · exact .inr ⟨by rw [h1, h2], h3⟩
    · rintro ((h | ⟨h1, h2⟩) | ⟨h1, h2⟩)
      · exact .inl h
      · exact .inr ⟨h1, .inl h2⟩
      · injection h1 with h1 h3
        exact .inr ⟨h1, .inr ⟨h3, h2⟩⟩
theorem wp_lt {a b : List Int} (h : a.length = b.length) : ∀ {t : Nat}, wp a t < wp b t → a < b
  | 0, q => absurd q (List.lt_irrefl _)
  | t + 1, q => by
    rw [wp_succ, wp_succ, lt_app _ _ h] at q
    rcases q with q | ⟨rfl, q⟩
    · exact q
    · exact absurd q (List.lt_irrefl _)
theorem wp_rot (a b : List Int) : ∀ n : Nat, wp (b ++ a) (n + 1) = b ++ wp (a ++ b) n ++ a
  | 0 => by simp [wp_one, wp_zero]
  | n + 1 => by
    rw [wp_succ, wp_rot a b n, wp_succ]
    simp
theorem rot_wp (c : List Int) {t q r : Nat} (hr : r ≤ c.length) (hq : q < t) : rot (wp c t) (q * c.length + r) = wp (rot c r) t := by
  obtain ⟨k, rfl⟩ : ∃ k, t = q + (k + 1) := ⟨t - q - 1, by omega⟩
  have l1 : (wp c q).length = q * c.length := wp_len c q
  unfold rot
  rw [wp_add, wp_succ]
  have e1 : (wp c q ++ (c ++ wp c k)).drop (q * c.length + r) = c.drop r ++ wp c k := by
    rw [← l1, List.drop_append]
    have : (wp c q).drop ((wp c q).length + r) = [] := List.drop_eq_nil_of_le (by omega)
    rw [this, List.nil_append, show (wp c q).length + r - (wp c q).length = r by omega, List.drop_append_of_le_length hr]
  have e2 : (wp c q ++ (c ++ wp c k)).take (q * c.length + r) = wp c q ++ c.take r := by
    rw [← l1, List.take_append]
    rw [List.take_of_length_le (by omega), show (wp c q).length + r - (wp c q).length = r by omega, List.take_append_of_le_length hr]
  rw [e1, e2, show q + (k + 1) = (k + q) + 1 by omega, wp_rot, List.take_append_drop, wp_add]
  simp
theorem rots_wp {c : List Int} (hc : c ≠ []) {t : Nat} (ht : 0 < t) {x : List Int} : x ∈ rots (wp c t) ↔ ∃ y ∈ rots c, x = wp y t := by
  have p := List.length_pos_iff.mpr hc
  have pt : 0 < t * c.length := Nat.mul_pos ht p
  rw [mem_rots, wp_len]
  constructor
  · rintro ⟨j, hj, rfl⟩
    have hj : j < t * c.length := by omega
    refine ⟨rot c (j % c.length), mem_rots.mpr ⟨_, by have := Nat.mod_lt j p; omega, rfl⟩, ?_⟩
    have e := rot_wp c (t := t) (q := j / c.length) (r := j % c.length) (Nat.le_of_lt (Nat.mod_lt j p)) ((Nat.div_lt_iff_lt_mul p).mpr hj)
    rw [Nat.mul_comm (j / c.length), Nat.div_add_mod] at e
    exact e
  · rintro ⟨y, my, rfl⟩
    obtain ⟨j, hj, rfl⟩ := mem_rots.mp my
    have hj : j < c.length := by omega
    refine ⟨j, ?_, ?_⟩
    · have : c.length ≤ t * c.length := Nat.le_mul_of_pos_left _ ht
      omega
    · have e := rot_wp c (t := t) (q := 0) (r := j) (by omega) ht
      rw [Nat.zero_mul, Nat.zero_add] at e
      exact e.symm
def lc (w : List Int) : List Int := lws (rots (core w))
theorem rots_ne (c : List Int) : rots c ≠ [] := by
  intro h
  have : rot c 0 ∈ rots c := mem_rots.mpr ⟨0, by omega, rfl⟩
  rw [h] at this
  cases this
theorem rot_length (c : List Int) (k : Nat) : (rot c k).length = c.length := by
  unfold rot
  rw [List.length_append, List.length_drop, List.length_take]
  omega
theorem lws_wp {c : List Int} (hc : c ≠ []) {t : Nat} (ht : 0 < t) : lws (rots (wp c t)) = wp (lws (rots c)) t := by
  obtain ⟨h1, h2⟩ := lws_spec (rots_ne c)
  refine lws_eq ((rots_wp hc ht).mpr ⟨_, h1, rfl⟩) fun y my q => ?_
  obtain ⟨z, mz, rfl⟩ := (rots_wp hc ht).mp my
  obtain ⟨i, _, ei⟩ := mem_rots.mp mz
  obtain ⟨j, _, ej⟩ := mem_rots.mp h1
  exact h2 z mz (wp_lt (by rw [ei, ej, rot_length, rot_length]) q)
theorem lc_wp {w : List Int} (hz : nz w) (hl : w.length < 900000) {t : Nat} (ht : 0 < t) (hl2 : t * w.length < 900000) : lc (wp w t) = wp (lc w) t := by
  unfold lc
  by_cases hc : core w = []
  · have r := core_nil_red hl hc
    have e : red (wp w t) = [] := by
      refine red_nil_of fun y => ?_
      have h : ∀ y, Ac w y = y := fun y => by rw [← Ac_red, r]; rfl
      clear ht hl2
      induction t with
      | zero => rfl
      | succ t ih => rw [wp_succ, Ac_app, h, ih]
    rw [red_nil_core e, hc]
    have : lws (rots []) = [] := rfl
    rw [this, wp_nil]
  · obtain ⟨p, h⟩ := par_of hz hl hc
    rw [(p.wp ht hl2 h).2]
    exact lws_wp hc ht
theorem IsRot.symm' {a b : List Int} (h : IsRot a b) : IsRot b a := by
  obtain ⟨u, v, rfl, rfl⟩ := h
  exact ⟨v, u, rfl, rfl⟩
theorem lc_rot {a b : List Int} (h : IsRot (core a) (core b)) : lc a = lc b := by
  refine lws_same (rots_ne _) fun x => ⟨fun m => ?_, fun m => ?_⟩
  · exact isRot_rots (h.symm'.trans (rots_isRot m))
  · exact isRot_rots (h.trans (rots_isRot m))
theorem lc_conj {h w : List Int} (hh : nz h) (hw : nz w) (hl : w.length + 2 * h.length < 700000) : lc (h ++ w ++ bck h) = lc w := (lc_rot (core_conj h w hh hw hl)).symm
theorem lc_red (w : List Int) : lc (red w) = lc w := by unfold lc; rw [(core_red w).1]
theorem lc_len (w : List Int) : (lc w).length = (core w).length := by
  obtain ⟨h1, _⟩ := lws_spec (rots_ne (core w))
  obtain ⟨j, _, e⟩ := mem_rots.mp h1
  unfold lc
  rw [e, rot_length]
end PY
set_option maxHeartbeats 8000000
namespace PY
open PySem L2
/-! ### words of six parts: a commutator's core is one, turned (Wicks) -/
def six (a b c : List Int) : List Int := a ++ b ++ c ++ bck a ++ bck b ++ bck c
def SixP (w : List Int) : Prop := ∃ a b c, w = six a b c
def CSix (w : List Int) : Prop := ∃ v, IsRot w v ∧ SixP v
theorem CSix.rot {w v : List Int} (h : CSix w) (r : IsRot w v) : CSix v := by
  obtain ⟨u, hu, s⟩ := h
  exact ⟨u, r.symm'.trans hu, s⟩
theorem nz_nil6 : nz [] := fun x m => by cases m
theorem core_eqv {a b : List Int} (h : red a = red b) : core a = core b := by
  rw [← (core_red a).1, ← (core_red b).1, h]
theorem nz_app {a b : List Int} : nz (a ++ b) ↔ nz a ∧ nz b := by
  constructor
  · intro h
    exact ⟨fun x m => h x (List.mem_append_left _ m), fun x m => h x (List.mem_append_right _ m)⟩
  · rintro ⟨h1, h2⟩ x m
    rcases List.mem_append.mp m with m | m
    · exact h1 x m
    · exact h2 x m
theorem nz_bck6 {a : List Int} (h : nz a) : nz (bck a) := by
  intro x m
  unfold bck at m
  obtain ⟨y, my, rfl⟩ := List.mem_map.mp m
  have := h y (List.mem_reverse.mp my)
  omega
theorem core_swap (x y : List Int) (hx : nz x) (hy : nz y) (hl : 3 * x.length + y.length < 700000) : IsRot (core (x ++ y)) (core (y ++ x)) := by
  have h := core_conj (bck x) (x ++ y) (nz_bck6 hx) (nz_app.mpr ⟨hx, hy⟩) (by rw [List.length_append, bck_len]; omega)
  have e : red (bck x ++ (x ++ y) ++ bck (bck x)) = red (y ++ x) := by
    rw [bck_bck, ← List.append_assoc, List.append_assoc (bck x ++ x)]
    have := Eqv.mid [] (y ++ x) (Eqv.inv' x)
    exact this
  rwa [core_eqv e] at h
theorem six_len (a b c : List Int) : (six a b c).length = 2 * (a.length + b.length + c.length) := by
  unfold six
  simp only [List.length_append, bck_len]
  omega
theorem six_nz {a b c : List Int} (ha : nz a) (hb : nz b) (hc : nz c) : nz (six a b c) := by
  unfold six
  exact nz_app.mpr ⟨nz_app.mpr ⟨nz_app.mpr ⟨nz_app.mpr ⟨nz_app.mpr ⟨ha, hb⟩, hc⟩, nz_bck6 ha⟩, nz_bck6 hb⟩, nz_bck6 hc⟩
/-- the next three parts -/
theorem six_turn (a b c : List Int) (ha : nz a) (hb : nz b) (hc : nz c) (hl : a.length + b.length + c.length ≤ 100000) : IsRot (core (six a b c)) (core (six b c (bck a))) := by
  have e1 : six a b c = a ++ (b ++ c ++ bck a ++ bck b ++ bck c) := by unfold six; simp [List.append_assoc]
  have e2 : six b c (bck a) = (b ++ c ++ bck a ++ bck b ++ bck c) ++ a := by unfold six; rw [bck_bck]
  rw [e1, e2]
  refine core_swap _ _ ha ?_ ?_
  · exact nz_app.mpr ⟨nz_app.mpr ⟨nz_app.mpr ⟨nz_app.mpr ⟨hb, hc⟩, nz_bck6 ha⟩, nz_bck6 hb⟩, nz_bck6 hc⟩
  · simp only [List.length_append, bck_len]
    omega
theorem six_turn0 (a b : List Int) (ha : nz a) (hb : nz b) (hl : a.length + b.length ≤ 100000) : IsRot (core (six a b [])) (core (six b (bck a) [])) := by
  have e1 : six a b [] = a ++ (b ++ bck a ++ bck b) := by unfold six bck; simp [List.append_assoc]
  have e2 : six b (bck a) [] = (b ++ bck a ++ bck b) ++ a := by
    unfold six
    rw [bck_bck]
    simp [bck, List.append_assoc]
  rw [e1, e2]
  refine core_swap _ _ ha ?_ ?_
  · exact nz_app.mpr ⟨nz_app.mpr ⟨hb, nz_bck6 ha⟩, nz_bck6 hb⟩
  · simp only [List.length_append, bck_len]
    omega
/-- a part is not reduced, or two neighbours cancel -/
theorem six_in (p q b c : List Int) (s : Int) : red (six (p ++ [s, -s] ++ q) b c) = red (six (p ++ q) b c) := by
  have h1 : Eqv (p ++ [s, -s] ++ q) (p ++ q) := Eqv.mid p q (Eqv.pair s)
  exact ((((h1.app (Eqv.refl b)).app (Eqv.refl c)).app h1.bck).app (Eqv.refl (bck b))).app (Eqv.refl (bck c))
theorem six_cut (a b c : List Int) (s : Int) : red (six (a ++ [s]) (-s :: b) c) = red (six a b (c ++ [-s])) := by
  have e1 : six (a ++ [s]) (-s :: b) c = a ++ [s, -s] ++ (b ++ c ++ [-s] ++ bck a ++ bck b ++ [s] ++ bck c) := by
    unfold six
    rw [bck_snoc, bck_cons]
    simp [List.append_assoc]
  have e2 : six a b (c ++ [-s]) = a ++ (b ++ c ++ [-s] ++ bck a ++ bck b ++ [s] ++ bck c) := by
    unfold six
    rw [bck_snoc]
    simp [List.append_assoc]
  rw [e1, e2]
  exact Eqv.mid a _ (Eqv.pair s)
/-- no cancelling between two parts -/
def NC (x y : List Int) : Prop := ∀ s t, x.getLast? = some s → y.head? = some t → t ≠ -s
theorem not_red {a : List Int} (h : isRed a = false) : ∃ p q s, a = p ++ [s, -s] ++ q := by
  have h2 : ¬ ∀ (i : Nat) (x y : Int), a[i]? = some x → a[i + 1]? = some y → y ≠ -x := fun z => by
    rw [(isRed_iff a).mpr z] at h
    cases h
  refine Classical.byContradiction fun hn => h2 fun i x y h3 h4 h5 => hn ?_
  subst h5
  refine ⟨a.take i, a.drop (i + 2), x, ?_⟩
  have l4 := (List.getElem?_eq_some_iff.mp h4).1
  have l3 := (List.getElem?_eq_some_iff.mp h3)
  have l4' := (List.getElem?_eq_some_iff.mp h4)
  have e : a = a.take i ++ a.drop i := (List.take_append_drop i a).symm
  have d1 : a.drop i = x :: a.drop (i + 1) := by rw [List.drop_eq_getElem_cons l3.1, l3.2]
  have d2 : a.drop (i + 1) = -x :: a.drop (i + 2) := by rw [List.drop_eq_getElem_cons l4'.1, l4'.2]
  rw [d2] at d1
  rw [List.append_assoc]
  show a = a.take i ++ ([x, -x] ++ a.drop (i + 2))
  rw [show [x, -x] ++ a.drop (i + 2) = a.drop i from d1.symm]
  exact e
theorem not_nc {x y : List Int} (h : ¬ NC x y) : ∃ a b s, x = a ++ [s] ∧ y = -s :: b := by
  refine Classical.byContradiction fun hn => h fun s t h1 h2 h3 => hn ?_
  subst h3
  obtain ⟨a, rfl⟩ := List.getLast?_eq_some_iff.mp h1
  cases y with
  | nil => cases h2
  | cons z b =>
    cases h2
    exact ⟨a, b, s, rfl, rfl⟩
abbrev PS (m : Nat) : Prop := ∀ a b c : List Int, nz a → nz b → nz c → a.length + b.length + c.length < m → CSix (core (six a b c))
/-- something cancels ahead: the claim for less is enough -/
theorem six_bad {m : Nat} (P : PS m) {a b c : List Int} (ha : nz a) (hb : nz b) (hc : nz c) (hm : a.length + b.length + c.length ≤ m) (h : ¬ (isRed a = true ∧ NC a b)) : CSix (core (six a b c)) := by
  by_cases hr : isRed a = true
  · obtain ⟨x, y, s, rfl, rfl⟩ := not_nc fun z => h ⟨hr, z⟩
    rw [core_eqv (six_cut x y c s)]
    have h0 := nz_app.mp ha
    have hs : -s ≠ 0 := hb _ List.mem_cons_self
    refine P x y (c ++ [-s]) h0.1 (fun z mz => hb z (List.mem_cons_of_mem _ mz)) (nz_app.mpr ⟨hc, fun z mz => by rw [List.mem_singleton.mp mz]; exact hs⟩) ?_
    simp at hm ⊢
    omega
  · obtain ⟨p, q, s, rfl⟩ := not_red (by simpa using hr)
    rw [core_eqv (six_in p q b c s)]
    have h0 := nz_app.mp ha
    refine P (p ++ q) b c (nz_app.mpr ⟨(nz_app.mp h0.1).1, h0.2⟩) hb hc ?_
    simp at hm ⊢
    omega
theorem last_ne6 {x y : List Int} (h : y ≠ []) : (x ++ y).getLast? = y.getLast? := by
  rw [List.getLast?_append]
  cases hy : y.getLast? with
  | none => exact absurd (List.getLast?_eq_none_iff.mp hy) h
  | some z => rfl
theorem head_ne {x y : List Int} (h : x ≠ []) : (x ++ y).head? = x.head? := by
  cases x with
  | nil => exact absurd rfl h
  | cons a r => rfl
theorem bck_ne {a : List Int} (h : a ≠ []) : bck a ≠ [] := fun z => h (bck_nil z)
theorem core_is {w : List Int} (h : isRed w = true) (hw : w ≠ []) (hn : NC w w) (hl : w.length < 900000) : core w = w := by
  refine core_of_core hl (red_of_isRed h) ?_
  unfold isCore headOk
  rw [h, Bool.true_and]
  have h0 : ¬ (w.length = 0) := fun z => hw (List.length_eq_zero_iff.mp z)
  rw [decide_eq_false h0, Bool.false_or]
  rw [Bool.not_eq_true', decide_eq_false_iff_not]
  intro z
  cases w with
  | nil => exact hw rfl
  | cons a r =>
    exact hn (-a) a z rfl (by omega)
theorem wicks0 {m : Nat} (hm0 : m ≤ 100000) (P : PS m) {a b : List Int} (ha : nz a) (hb : nz b) (hm : a.length + b.length ≤ m) : CSix (core (six a b [])) := by
  by_cases h1 : isRed a = true ∧ NC a b
  · by_cases h2 : isRed b = true ∧ NC b (bck a)
    · by_cases h3 : NC (bck a) (bck b)
      · by_cases h4 : NC (bck b) a
        · by_cases ea : a = []
          · subst ea
            have e : red (six [] b []) = red [] := by
              have e2 : six [] b [] = b ++ bck b := by unfold six; simp [bck]
              rw [e2]
              exact Eqv.inv b
            rw [core_eqv e]
            exact ⟨[], IsRot.refl _, [], [], [], rfl⟩
          · by_cases eb : b = []
            · subst eb
              have e : red (six a [] []) = red [] := by
                have e2 : six a [] [] = a ++ bck a := by unfold six; simp [bck]
                rw [e2]
                exact Eqv.inv a
              rw [core_eqv e]
              exact ⟨[], IsRot.refl _, [], [], [], rfl⟩
            · have e : six a b [] = a ++ (b ++ (bck a ++ bck b)) := by unfold six bck; simp [List.append_assoc]
              have r3 : isRed (bck a ++ bck b) = true := isRed_app.mpr ⟨isRed_bck h1.1, isRed_bck h2.1, h3⟩
              have r2 : isRed (b ++ (bck a ++ bck b)) = true := isRed_app.mpr ⟨h2.1, r3, by rw [head_ne (bck_ne ea)]; exact h2.2⟩
              have r1 : isRed (six a b []) = true := by
                rw [e]
                exact isRed_app.mpr ⟨h1.1, r2, by rw [head_ne eb]; exact h1.2⟩
              have ne : six a b [] ≠ [] := by rw [e]; simp [ea]
              have nc : NC (six a b []) (six a b []) := by
                unfold NC
                rw [e, head_ne ea, last_ne6 (by simp [eb]), last_ne6 (by simp [bck_ne ea]), last_ne6 (bck_ne eb)]
                exact h4
              rw [core_is r1 ne nc (by rw [six_len]; simp; omega)]
              exact ⟨_, IsRot.refl _, a, b, [], rfl⟩
        · have t1 := six_turn0 a b ha hb (by omega)
          have t2 := six_turn0 b (bck a) hb (nz_bck6 ha) (by rw [bck_len]; omega)
          have t3 := six_turn0 (bck a) (bck b) (nz_bck6 ha) (nz_bck6 hb) (by rw [bck_len, bck_len]; omega)
          rw [bck_bck] at t3
          exact (six_bad P (nz_bck6 hb) ha nz_nil6 (by rw [bck_len]; simp; omega) fun z => h4 z.2).rot ((t1.trans t2).trans t3).symm'
      · have t1 := six_turn0 a b ha hb (by omega)
        have t2 := six_turn0 b (bck a) hb (nz_bck6 ha) (by rw [bck_len]; omega)
        exact (six_bad P (nz_bck6 ha) (nz_bck6 hb) nz_nil6 (by rw [bck_len, bck_len]; simp; omega) fun z => h3 z.2).rot (t1.trans t2).symm'
    · have t1 := six_turn0 a b ha hb (by omega)
      exact (six_bad P hb (nz_bck6 ha) nz_nil6 (by rw [bck_len]; simp; omega) h2).rot t1.symm'
  · exact six_bad P ha hb nz_nil6 (by simp; omega) h1
theorem wicks_step {m : Nat} (hm0 : m ≤ 100000) (P : PS m) {a b c : List Int} (ha : nz a) (hb : nz b) (hc : nz c) (hm : a.length + b.length + c.length ≤ m) : CSix (core (six a b c)) := by
  by_cases ea : a = []
  · subst ea
    have e : six [] b c = six b c [] := by unfold six bck; simp
    rw [e]
    exact wicks0 hm0 P hb hc (by simp at hm; omega)
  by_cases eb : b = []
  · subst eb
    have e : six a [] c = six a c [] := by unfold six bck; simp
    rw [e]
    exact wicks0 hm0 P ha hc (by simp at hm; omega)
  by_cases ec : c = []
  · subst ec
    exact wicks0 hm0 P ha hb (by simp at hm; omega)
  have na := nz_bck6 ha
  have nb := nz_bck6 hb
  have nc := nz_bck6 hc
  have t1 := six_turn a b c ha hb hc (by omega)
  have t2 := t1.trans (six_turn b c (bck a) hb hc na (by rw [bck_len]; omega))
  have t3 := t2.trans (six_turn c (bck a) (bck b) hc na nb (by rw [bck_len, bck_len]; omega))
  have t4 := t3.trans (six_turn (bck a) (bck b) (bck c) na nb nc (by rw [bck_len, bck_len, bck_len]; omega))
  rw [bck_bck] at t4
  have t5 := t4.trans (six_turn (bck b) (bck c) a nb nc ha (by rw [bck_len, bck_len]; omega))
  rw [bck_bck] at t5
  by_cases h1 : isRed a = true ∧ NC a b
  · by_cases h2 : isRed b = true ∧ NC b c
    · by_cases h3 : isRed c = true ∧ NC c (bck a)
      · by_cases h4 : NC (bck a) (bck b)
        · by_cases h5 : NC (bck b) (bck c)
          · by_cases h6 : NC (bck c) a
            · have e : six a b c = a ++ (b ++ (c ++ (bck a ++ (bck b ++ bck c)))) := by unfold six; simp [List.append_assoc]
              have r5 : isRed (bck b ++ bck c) = true := isRed_app.mpr ⟨isRed_bck h2.1, isRed_bck h3.1, h5⟩
              have r4 : isRed (bck a ++ (bck b ++ bck c)) = true := isRed_app.mpr ⟨isRed_bck h1.1, r5, by rw [head_ne (bck_ne eb)]; exact h4⟩
              have r3 : isRed (c ++ (bck a ++ (bck b ++ bck c))) = true := isRed_app.mpr ⟨h3.1, r4, by rw [head_ne (bck_ne ea)]; exact h3.2⟩
              have r2 : isRed (b ++ (c ++ (bck a ++ (bck b ++ bck c)))) = true := isRed_app.mpr ⟨h2.1, r3, by rw [head_ne ec]; exact h2.2⟩
              have r1 : isRed (six a b c) = true := by
                rw [e]
                exact isRed_app.mpr ⟨h1.1, r2, by rw [head_ne eb]; exact h1.2⟩
              have ne : six a b c ≠ [] := by rw [e]; simp [ea]
              have nn : NC (six a b c) (six a b c) := by
                unfold NC
                rw [e, head_ne ea, last_ne6 (by simp [eb]), last_ne6 (by simp [ec]), last_ne6 (by simp [bck_ne ea]), last_ne6 (by simp [bck_ne eb]), last_ne6 (bck_ne ec)]
                exact h6
              rw [core_is r1 ne nn (by rw [six_len]; omega)]
              exact ⟨_, IsRot.refl _, a, b, c, rfl⟩
            · exact (six_bad P nc ha hb (by rw [bck_len]; omega) fun z => h6 z.2).rot t5.symm'
          · exact (six_bad P nb nc ha (by rw [bck_len, bck_len]; omega) fun z => h5 z.2).rot t4.symm'
        · exact (six_bad P na nb nc (by rw [bck_len, bck_len, bck_len]; omega) fun z => h4 z.2).rot t3.symm'
      · exact (six_bad P hc na nb (by rw [bck_len, bck_len]; omega) h3).rot t2.symm'
    · exact (six_bad P hb hc na (by rw [bck_len]; omega) h2).rot t1.symm'
  · exact six_bad P ha hb hc hm h1
theorem wicks_all : ∀ m, m ≤ 100000 → PS m
  | 0, _ => fun _ _ _ _ _ _ h => absurd h (Nat.not_lt_zero _)
  | m + 1, h => fun a b c ha hb hc hm => wicks_step (m := m) (by omega) (wicks_all m (by omega)) ha hb hc (by omega)
/-- the core of six parts is six parts, turned -/
theorem wicks (a b c : List Int) (ha : nz a) (hb : nz b) (hc : nz c) (h : a.length + b.length + c.length < 100000) : CSix (core (six a b c)) := wicks_all _ (Nat.le_refl _) a b c ha hb hc h
end PY
set_option maxHeartbeats 8000000
namespace PY
open PySem L2
/-! ### whole comprehensions as one fact -/
theorem set_back {E0 : Env} {i : Nat} {v : Option O} (hi : E0[i]? = some none) : (E0.set i v).set i none = E0 := by
  have hlen : i < E0.length := (List.getElem?_eq_some_iff.mp hi).1
  rw [List.set_set]
  refine List.ext_getElem? fun j => ?_
  by_cases hj : i = j
  · subst hj
    rw [List.getElem?_set_self hlen, hi]
  · rw [List.getElem?_set_ne hj]
theorem lc_fgen {α : Type} {E0 : Env} {i : Nat} (hi : E0[i]? = some none) {tst : Tst} {elt : Ev} (g : α → D) (P : α → Bool) (o : α → O) : ∀ (ks : List α) (acc : List O),
    (∀ k ∈ ks, tst (E0.set i (some (.frz (g k)))) = some (P k, E0.set i (some (.frz (g k))))) →
    (∀ k ∈ ks, P k = true → ∃ r e', elt (E0.set i (some (.frz (g k)))) = some (r, e') ∧ tk r e' = (o k, E0.set i (some (.frz (g k))))) → acc.length + ks.length < 1000000 →
    lcGo [i] (.one i) tst elt (ks.map g) E0 acc = some (acc ++ (ks.filter P).map o, E0)
  | [], acc, _, _, _ => by
    show lcGo [i] (.one i) tst elt [] E0 acc = _
    rw [lcGo_nil]
    simp
  | k :: ks, acc, hp, ht, hl => by
    have ih := fun acc h => lc_fgen hi g P o ks acc (fun x m => hp x (List.mem_cons_of_mem _ m)) (fun x m => ht x (List.mem_cons_of_mem _ m)) h
    have hl : acc.length + (ks.length + 1) < 1000000 := hl
    have h4 : wipeE (E0.set i (some (.frz (g k)))) [i] = E0 := set_back hi
    have h0 := hp k List.mem_cons_self
    show ((tst (E0.set i (some (.frz (g k))))).bind fun b => if b.1 then (elt b.2).bind fun r => if acc.length < sizeLine then lcGo [i] (.one i) tst elt (ks.map g) (wipeE (tk r.1 r.2).2 [i]) (acc ++ [(tk r.1 r.2).1]) else none else lcGo [i] (.one i) tst elt (ks.map g) (wipeE b.2 [i]) acc) = _
    rw [h0]
    cases hpk : P k with
    | false =>
      show lcGo [i] (.one i) tst elt (ks.map g) (wipeE (E0.set i (some (.frz (g k)))) [i]) acc = _
      rw [h4, ih _ (by omega), List.filter_cons_of_neg (by simp [hpk])]
    | true =>
      obtain ⟨r, e', h1, h2⟩ := ht k List.mem_cons_self hpk
      show ((elt (E0.set i (some (.frz (g k))))).bind fun r => if acc.length < sizeLine then lcGo [i] (.one i) tst elt (ks.map g) (wipeE (tk r.1 r.2).2 [i]) (acc ++ [(tk r.1 r.2).1]) else none) = _
      rw [h1]
      show (if acc.length < sizeLine then lcGo [i] (.one i) tst elt (ks.map g) (wipeE (tk r e').2 [i]) (acc ++ [(tk r e').1]) else none) = _
      rw [h2]
      rw [if_pos (line_lt (by omega))]
      show lcGo [i] (.one i) tst elt (ks.map g) (wipeE (E0.set i (some (.frz (g k)))) [i]) (acc ++ [o k]) = _
      rw [h4, ih _ (by simp; omega), List.append_assoc, List.filter_cons_of_pos hpk]
      rfl
theorem eLC_fgen {α : Type} {E E0 : Env} {i : Nat} {tst : Tst} {elt : Ev} {it : Itw} {ds : List D} (hit : it E = some (ds, E0)) (hi : E0[i]? = some none) (g : α → D) (P : α → Bool) (o : α → O) {ks : List α} (hds : ds = ks.map g)
    (hp : ∀ k ∈ ks, tst (E0.set i (some (.frz (g k)))) = some (P k, E0.set i (some (.frz (g k)))))
    (ht : ∀ k ∈ ks, P k = true → ∃ r e', elt (E0.set i (some (.frz (g k)))) = some (r, e') ∧ tk r e' = (o k, E0.set i (some (.frz (g k))))) (hl : ks.length < 900000) : eLC [i] (.one i) it tst elt E = some (.own (.own ((ks.filter P).map o)), E0) := by
  subst hds
  have hlen : i < E0.length := (List.getElem?_eq_some_iff.mp hi).1
  have hw : wipeE E0 [i] = E0 := by
    show E0.set i none = E0
    have := set_back (v := none) hi
    rwa [List.set_set] at this
  have f1 := lc_fgen hi g P o ks [] hp ht (by simp; omega)
  have ho : ownAt E0 i = false := by
    unfold ownAt
    rw [hi]
  show ((it E).bind fun x => if [i].all (fun i => !ownAt x.2 i && decide (i < x.2.length)) then (lcGo [i] (.one i) tst elt x.1 (wipeE x.2 [i]) []).map fun y => (R.own (O.own y.1), restE x.2 y.2 [i]) else none) = _
  rw [hit]
  show (if [i].all (fun i => !ownAt E0 i && decide (i < E0.length)) then (lcGo [i] (.one i) tst elt (ks.map g) (wipeE E0 [i]) []).map fun y => (R.own (O.own y.1), restE E0 y.2 [i]) else none) = _
  have c : [i].all (fun i => !ownAt E0 i && decide (i < E0.length)) = true := by
    show (!ownAt E0 i && decide (i < E0.length) && true) = true
    rw [ho, decide_eq_true hlen]
    rfl
  rw [if_pos c, hw, f1]
  show some (R.own (O.own ([] ++ (ks.filter P).map o)), restE E0 E0 [i]) = _
  have r : restE E0 E0 [i] = E0 := by
    show E0.set i (E0[i]?.getD none) = E0
    rw [hi]
    exact hw
  rw [r]
  rfl
/-- .. where the name's slot holds something frozen -/
theorem eLC_fgen' {α : Type} {E E0 : Env} {i : Nat} {v : Option O} {tst : Tst} {elt : Ev} {it : Itw} {ds : List D} (hit : it E = some (ds, E0)) (hi : E0[i]? = some v) (ho : v = none ∨ ∃ d, v = some (.frz d)) (g : α → D) (P : α → Bool) (o : α → O) {ks : List α} (hds : ds = ks.map g)
    (hp : ∀ k ∈ ks, tst (E0.set i (some (.frz (g k)))) = some (P k, E0.set i (some (.frz (g k)))))
    (ht : ∀ k ∈ ks, P k = true → ∃ r e', elt (E0.set i (some (.frz (g k)))) = some (r, e') ∧ tk r e' = (o k, E0.set i (some (.frz (g k))))) (hl : ks.length < 900000) : eLC [i] (.one i) it tst elt E = some (.own (.own ((ks.filter P).map o)), E0) := by
  subst hds
  have hlen : i < E0.length := (List.getElem?_eq_some_iff.mp hi).1
  have hs : ∀ x, (E0.set i none).set i x = E0.set i x := fun x => List.set_set ..
  have f1 := lc_fgen (E0 := E0.set i none) (i := i) (tst := tst) (elt := elt) (by rw [List.getElem?_set_self hlen]) g P o ks [] (fun k m => by rw [hs]; exact hp k m) (fun k m z => by rw [hs]; exact ht k m z) (by simp; omega)
  have ho : ownAt E0 i = false := by
    unfold ownAt
    rw [hi]
    rcases ho with rfl | ⟨d, rfl⟩ <;> rfl
  show ((it E).bind fun x => if [i].all (fun i => !ownAt x.2 i && decide (i < x.2.length)) then (lcGo [i] (.one i) tst elt x.1 (wipeE x.2 [i]) []).map fun y => (R.own (O.own y.1), restE x.2 y.2 [i]) else none) = _
  rw [hit]
  show (if [i].all (fun i => !ownAt E0 i && decide (i < E0.length)) then (lcGo [i] (.one i) tst elt (ks.map g) (E0.set i none) []).map fun y => (R.own (O.own y.1), restE E0 y.2 [i]) else none) = _
  have c : [i].all (fun i => !ownAt E0 i && decide (i < E0.length)) = true := by
    show (!ownAt E0 i && decide (i < E0.length) && true) = true
    rw [ho, decide_eq_true hlen]
    rfl
  rw [if_pos c, f1]
  show some (R.own (O.own ([] ++ (ks.filter P).map o)), restE E0 (E0.set i none) [i]) = _
  have r : restE E0 (E0.set i none) [i] = E0 := by
    show (E0.set i none).set i (E0[i]?.getD none) = E0
    rw [hi, hs]
    show E0.set i v = E0
    refine List.ext_getElem? fun j => ?_
    by_cases hj : i = j
    · subst hj
      rw [List.getElem?_set_self hlen, hi]
    · rw [List.getElem?_set_ne hj]
  rw [r]
  rfl
theorem eLC_gen {α : Type} {E E0 : Env} {i : Nat} {elt : Ev} {it : Itw} {ds : List D} (hit : it E = some (ds, E0)) (hi : E0[i]? = some none) (g : α → D) (o : α → O) {ks : List α} (hds : ds = ks.map g)
    (ht : ∀ k ∈ ks, ∃ r e', elt (E0.set i (some (.frz (g k)))) = some (r, e') ∧ tk r e' = (o k, E0.set i (some (.frz (g k))))) (hl : ks.length < 900000) : eLC [i] (.one i) it tTrue elt E = some (.own (.own (ks.map o)), E0) := by
  have := eLC_fgen (tst := tTrue) hit hi g (fun _ => true) o hds (fun _ _ => rfl) (fun k m _ => ht k m) hl
  rwa [List.filter_eq_self.mpr (fun _ _ => rfl)] at this
theorem out_ret {E : Env} {f : Ev} {o : O} {e' : Env} (h : f E = some (.own o, e')) : outO (sRet f E) = some o := by
  unfold sRet
  rw [h]
  rfl
end PY
set_option maxHeartbeats 8000000
namespace PY
open PySem L2
def b_are_turned_round (call : Str → List PyData → Option O) : Stm :=
  (sRet (eCmp .Eq (eSl (eName 1) (some (eName 2)) (some (eName 3))) (eCall (call "turned_round") [(eSl (eName 0) (some (eName 2)) (some (eName 3)))])))
theorem ba_are_turned_round (call : Str → List PyData → Option O) (e : Env) : b_are_turned_round call e = (sRet (eCmp .Eq (eSl (eName 1) (some (eName 2)) (some (eName 3))) (eCall (call "turned_round") [(eSl (eName 0) (some (eName 2)) (some (eName 3)))]))) e := rfl
def l_six_parts_1 (call : Str → List PyData → Option O) : Tst :=
  (tV (eCall (call "are_turned_round") [(eName 2), (eName 3), (eD (.int 0)), (eName 6)]))
@[simp] theorem la_six_parts_1 (call : Str → List PyData → Option O) (e : Env) : l_six_parts_1 call e = (tV (eCall (call "are_turned_round") [(eName 2), (eName 3), (eD (.int 0)), (eName 6)])) e := Eq.trans rfl rfl
def l_six_parts_2 (call : Str → List PyData → Option O) : Ev :=
  (eName 6)
@[simp] theorem la_six_parts_2 (call : Str → List PyData → Option O) (e : Env) : l_six_parts_2 call e = (eName 6) e := Eq.trans rfl rfl
def l_six_parts_3 (call : Str → List PyData → Option O) : Tst :=
  (tV (eCall (call "are_turned_round") [(eName 2), (eName 3), (eName 7), (eName 1)]))
@[simp] theorem la_six_parts_3 (call : Str → List PyData → Option O) (e : Env) : l_six_parts_3 call e = (tV (eCall (call "are_turned_round") [(eName 2), (eName 3), (eName 7), (eName 1)])) e := Eq.trans rfl rfl
def l_six_parts_4 (call : Str → List PyData → Option O) : Ev :=
  (eName 7)
@[simp] theorem la_six_parts_4 (call : Str → List PyData → Option O) (e : Env) : l_six_parts_4 call e = (eName 7) e := Eq.trans rfl rfl
def l_six_parts_5 (call : Str → List PyData → Option O) : Stm :=
  (sIf (tAnd' (tV (eCmp .LtE (eName 6) (eName 7))) (tV (eCall (call "are_turned_round") [(eName 2), (eName 3), (eName 6), (eName 7)])))
    (sRetT [(eName 6), (eName 7)])
    sNext)
@[simp] theorem la_six_parts_5 (call : Str → List PyData → Option O) (e : Env) : l_six_parts_5 call e = (sIf (tAnd' (tV (eCmp .LtE (eName 6) (eName 7))) (tV (eCall (call "are_turned_round") [(eName 2), (eName 3), (eName 6), (eName 7)])))
    (sRetT [(eName 6), (eName 7)])
    sNext) e := Eq.trans rfl rfl
def l_six_parts_6 (call : Str → List PyData → Option O) : Stm :=
  (sFor (.one 7) (iV (eName 5)) (l_six_parts_5 call))
@[simp] theorem la_six_parts_6 (call : Str → List PyData → Option O) (e : Env) : l_six_parts_6 call e = (sFor (.one 7) (iV (eName 5)) (l_six_parts_5 call)) e := Eq.trans rfl rfl
def b_six_parts (call : Str → List PyData → Option O) : Stm :=
  (sSeq (sSet 1 (eTm (eBin .FloorDiv (eBi "len" [(eName 0)]) (eD (.int 2)))))
    (sSeq (sSet 2 (eTm (eSl (eName 0) none (some (eName 1)))))
    (sSeq (sSet 3 (eTm (eSl (eName 0) (some (eName 1)) none)))
    (sSeq (sSet 4 (eLC [6] (.one 6) (iR1 (eBin .Add (eName 1) (eD (.int 1)))) (l_six_parts_1 call) (l_six_parts_2 call)))
    (sSeq (sSet 5 (eLC [7] (.one 7) (iR1 (eBin .Add (eName 1) (eD (.int 1)))) (l_six_parts_3 call) (l_six_parts_4 call)))
    (sSeq (sFor (.one 6) (iV (eName 4)) (l_six_parts_6 call))
    (sRet (eD .none))))))))
theorem ba_six_parts (call : Str → List PyData → Option O) (e : Env) : b_six_parts call e = (sSeq (sSet 1 (eTm (eBin .FloorDiv (eBi "len" [(eName 0)]) (eD (.int 2)))))
    (sSeq (sSet 2 (eTm (eSl (eName 0) none (some (eName 1)))))
    (sSeq (sSet 3 (eTm (eSl (eName 0) (some (eName 1)) none)))
    (sSeq (sSet 4 (eLC [6] (.one 6) (iR1 (eBin .Add (eName 1) (eD (.int 1)))) (l_six_parts_1 call) (l_six_parts_2 call)))
    (sSeq (sSet 5 (eLC [7] (.one 7) (iR1 (eBin .Add (eName 1) (eD (.int 1)))) (l_six_parts_3 call) (l_six_parts_4 call)))
    (sSeq (sFor (.one 6) (iV (eName 4)) (l_six_parts_6 call))
    (sRet (eD .none)))))))) e := rfl
def b_made_from_parts (call : Str → List PyData → Option O) : Stm :=
  (sSeq (sSet 3 (eTm (eBin .FloorDiv (eBi "len" [(eName 0)]) (eD (.int 2)))))
    (sRetT [(eSl (eName 0) none (some (eName 2))), (eCall (call "product") [(eSl (eName 0) (some (eName 2)) (some (eName 3))), (eCall (call "turned_round") [(eSl (eName 0) none (some (eName 1)))])])]))
theorem ba_made_from_parts (call : Str → List PyData → Option O) (e : Env) : b_made_from_parts call e = (sSeq (sSet 3 (eTm (eBin .FloorDiv (eBi "len" [(eName 0)]) (eD (.int 2)))))
    (sRetT [(eSl (eName 0) none (some (eName 2))), (eCall (call "product") [(eSl (eName 0) (some (eName 2)) (some (eName 3))), (eCall (call "turned_round") [(eSl (eName 0) none (some (eName 1)))])])])) e := rfl
def l_one_commutator_1 (call : Str → List PyData → Option O) : Stm :=
  (sSeq (sSet 4 (eTm (eCall (call "six_parts") [(eCall (call "put_back") [(eName 2), (eName 3)])])))
    (sIf (tV (eCmp .IsNot (eName 4) (eD .none)))
    (sSeq (sSets [5, 6] (eTm (eCall (call "made_from_parts") [(eCall (call "put_back") [(eName 2), (eName 3)]), (eIx (eName 4) (eD (.int 0))), (eIx (eName 4) (eD (.int 1)))])))
    (sSeq (sSet 7 (eTm (eBin .Add (eName 1) (eSl (eName 2) none (some (eName 3))))))
    (sRetT [(eD (.str "one")), (eCall (call "turned_by") [(eName 5), (eName 7)]), (eCall (call "turned_by") [(eName 6), (eName 7)])])))
    sNext))
@[simp] theorem la_one_commutator_1 (call : Str → List PyData → Option O) (e : Env) : l_one_commutator_1 call e = (sSeq (sSet 4 (eTm (eCall (call "six_parts") [(eCall (call "put_back") [(eName 2), (eName 3)])])))
    (sIf (tV (eCmp .IsNot (eName 4) (eD .none)))
    (sSeq (sSets [5, 6] (eTm (eCall (call "made_from_parts") [(eCall (call "put_back") [(eName 2), (eName 3)]), (eIx (eName 4) (eD (.int 0))), (eIx (eName 4) (eD (.int 1)))])))
    (sSeq (sSet 7 (eTm (eBin .Add (eName 1) (eSl (eName 2) none (some (eName 3))))))
    (sRetT [(eD (.str "one")), (eCall (call "turned_by") [(eName 5), (eName 7)]), (eCall (call "turned_by") [(eName 6), (eName 7)])])))
    sNext)) e := Eq.trans rfl rfl
def b_one_commutator (call : Str → List PyData → Option O) : Stm :=
  (sSeq (sSets [1, 2] (eTm (eCall (call "core_of") [(eName 0)])))
    (sSeq (sIf (tV (eCmp .Eq (eBin .Mod (eBi "len" [(eName 2)]) (eD (.int 2))) (eD (.int 1))))
    (sRetT [(eD (.str "other"))])
    sNext)
    (sSeq (sFor (.one 3) (iR1 (eBi "max" [(eD (.int 1)), (eBi "len" [(eName 2)])])) (l_one_commutator_1 call))
    (sRetT [(eD (.str "other"))]))))
theorem ba_one_commutator (call : Str → List PyData → Option O) (e : Env) : b_one_commutator call e = (sSeq (sSets [1, 2] (eTm (eCall (call "core_of") [(eName 0)])))
    (sSeq (sIf (tV (eCmp .Eq (eBin .Mod (eBi "len" [(eName 2)]) (eD (.int 2))) (eD (.int 1))))
    (sRetT [(eD (.str "other"))])
    sNext)
    (sSeq (sFor (.one 3) (iR1 (eBi "max" [(eD (.int 1)), (eBi "len" [(eName 2)])])) (l_one_commutator_1 call))
    (sRetT [(eD (.str "other"))])))) e := rfl
def l_f_law_is_six_1 (call : Str → List PyData → Option O) : Stm :=
  (sIf (tAnd' (tV (eCmp .Eq (eSl (eName 0) (some (eBin .Add (eName 1) (eName 2))) (some (eBin .Add (eName 1) (eName 3)))) (eCall (call "_law_back") [(eSl (eName 0) (some (eName 2)) (some (eName 3)))]))) (tV (eCmp .Eq (eSl (eName 0) (some (eBin .Add (eName 1) (eName 3))) none) (eCall (call "_law_back") [(eSl (eName 0) (some (eName 3)) (some (eName 1)))]))))
    (sRet (eD (.bool true)))
    sNext)
@[simp] theorem la_f_law_is_six_1 (call : Str → List PyData → Option O) (e : Env) : l_f_law_is_six_1 call e = (sIf (tAnd' (tV (eCmp .Eq (eSl (eName 0) (some (eBin .Add (eName 1) (eName 2))) (some (eBin .Add (eName 1) (eName 3)))) (eCall (call "_law_back") [(eSl (eName 0) (some (eName 2)) (some (eName 3)))]))) (tV (eCmp .Eq (eSl (eName 0) (some (eBin .Add (eName 1) (eName 3))) none) (eCall (call "_law_back") [(eSl (eName 0) (some (eName 3)) (some (eName 1)))]))))
    (sRet (eD (.bool true)))
    sNext) e := Eq.trans rfl rfl
def l_f_law_is_six_2 (call : Str → List PyData → Option O) : Stm :=
  (sIf (tV (eCmp .Eq (eSl (eName 0) (some (eName 1)) (some (eBin .Add (eName 1) (eName 2)))) (eCall (call "_law_back") [(eSl (eName 0) none (some (eName 2)))])))
    (sFor (.one 3) (iR2 (eName 2) (eBin .Add (eName 1) (eD (.int 1)))) (l_f_law_is_six_1 call))
    sNext)
@[simp] theorem la_f_law_is_six_2 (call : Str → List PyData → Option O) (e : Env) : l_f_law_is_six_2 call e = (sIf (tV (eCmp .Eq (eSl (eName 0) (some (eName 1)) (some (eBin .Add (eName 1) (eName 2)))) (eCall (call "_law_back") [(eSl (eName 0) none (some (eName 2)))])))
    (sFor (.one 3) (iR2 (eName 2) (eBin .Add (eName 1) (eD (.int 1)))) (l_f_law_is_six_1 call))
    sNext) e := Eq.trans rfl rfl
def b_f_law_is_six (call : Str → List PyData → Option O) : Stm :=
  (sSeq (sSet 1 (eTm (eBin .FloorDiv (eBi "len" [(eName 0)]) (eD (.int 2)))))
    (sSeq (sIf (tV (eCmp .Eq (eBin .Mod (eBi "len" [(eName 0)]) (eD (.int 2))) (eD (.int 1))))
    (sRet (eD (.bool false)))
    sNext)
    (sSeq (sFor (.one 2) (iR1 (eBin .Add (eName 1) (eD (.int 1)))) (l_f_law_is_six_2 call))
    (sRet (eD (.bool false))))))
theorem ba_f_law_is_six (call : Str → List PyData → Option O) (e : Env) : b_f_law_is_six call e = (sSeq (sSet 1 (eTm (eBin .FloorDiv (eBi "len" [(eName 0)]) (eD (.int 2)))))
    (sSeq (sIf (tV (eCmp .Eq (eBin .Mod (eBi "len" [(eName 0)]) (eD (.int 2))) (eD (.int 1))))
    (sRet (eD (.bool false)))
    sNext)
    (sSeq (sFor (.one 2) (iR1 (eBin .Add (eName 1) (eD (.int 1)))) (l_f_law_is_six_2 call))
    (sRet (eD (.bool false)))))) e := rfl
def l_f_law_told_14_1 (call : Str → List PyData → Option O) : Tst :=
  (tV (eCall (call "_law_is_six") [(eName 7)]))
@[simp] theorem la_f_law_told_14_1 (call : Str → List PyData → Option O) (e : Env) : l_f_law_told_14_1 call e = (tV (eCall (call "_law_is_six") [(eName 7)])) e := Eq.trans rfl rfl
def l_f_law_told_14_2 (call : Str → List PyData → Option O) : Ev :=
  (eName 7)
@[simp] theorem la_f_law_told_14_2 (call : Str → List PyData → Option O) (e : Env) : l_f_law_told_14_2 call e = (eName 7) e := Eq.trans rfl rfl
def b_f_law_told_14 (call : Str → List PyData → Option O) : Stm :=
  (sSeq (sSet 2 (eTm (eCmp .NotEq (eLC [7] (.one 7) (iV (eCall (call "_law_turns") [(eIx (eCall (call "_law_core") [(eName 0)]) (eD (.int 1)))])) (l_f_law_told_14_1 call) (l_f_law_told_14_2 call)) (eList []))))
    (sSeq (sSet 3 (eTm (eBiS "list" (eName 0))))
    (sSeq (sSet 4 (eTm (eCall (call "one_commutator") [(eName 3)])))
    (sSeq (sIf (tOr' (tV (eCmp .NotEq (eName 3) (eName 0))) (tAnd' (tV (eName 1)) (tNot' (tV (eName 2)))))
    (sRet (eD (.bool false)))
    sNext)
    (sSeq (sIf (tNot' (tV (eName 2)))
    (sRet (eCall (call "_law_same") [(eName 4), (eTup [(eD (.str "other"))])]))
    sNext)
    (sSeq (sIf (tOr' (tNot' (tV (eIsi "tuple" (eName 4)))) (tOr' (tV (eCmp .NotEq (eBi "len" [(eName 4)]) (eD (.int 3)))) (tOr' (tNot' (tV (eCall (call "_law_same") [(eIx (eName 4) (eD (.int 0))), (eD (.str "one"))]))) (tOr' (tNot' (tV (eCall (call "_law_is_word") [(eD (.int 4)), (eIx (eName 4) (eD (.int 1)))]))) (tNot' (tV (eCall (call "_law_is_word") [(eD (.int 4)), (eIx (eName 4) (eD (.int 2)))])))))))
    (sRet (eD (.bool false)))
    sNext)
    (sSeq (sSet 5 (eTm (eCall (call "_law_fresh") [(eName 4)])))
    (sSeq (sSet 6 (eTm (eBin .Add (eBin .Add (eBin .Add (eIx (eName 4) (eD (.int 1))) (eIx (eName 4) (eD (.int 2)))) (eCall (call "_law_back") [(eIx (eName 4) (eD (.int 1)))])) (eCall (call "_law_back") [(eIx (eName 4) (eD (.int 2)))]))))
    (sSeq (sIf (tV (eCmp .NotEq (eCall (call "_law_reduced") [(eName 6)]) (eCall (call "_law_reduced") [(eName 0)])))
    (sRet (eD (.bool false)))
    sNext)
    (sSeq (sAppend1 4 (eD (.int 1)) (eD (.int 1)))
    (sSeq (sAppend1 4 (eD (.int 2)) (eD (.int 1)))
    (sRet (eCall (call "_law_same") [(eCall (call "one_commutator") [(eName 3)]), (eName 5)])))))))))))))
theorem ba_f_law_told_14 (call : Str → List PyData → Option O) (e : Env) : b_f_law_told_14 call e = (sSeq (sSet 2 (eTm (eCmp .NotEq (eLC [7] (.one 7) (iV (eCall (call "_law_turns") [(eIx (eCall (call "_law_core") [(eName 0)]) (eD (.int 1)))])) (l_f_law_told_14_1 call) (l_f_law_told_14_2 call)) (eList []))))
    (sSeq (sSet 3 (eTm (eBiS "list" (eName 0))))
    (sSeq (sSet 4 (eTm (eCall (call "one_commutator") [(eName 3)])))
    (sSeq (sIf (tOr' (tV (eCmp .NotEq (eName 3) (eName 0))) (tAnd' (tV (eName 1)) (tNot' (tV (eName 2)))))
    (sRet (eD (.bool false)))
    sNext)
    (sSeq (sIf (tNot' (tV (eName 2)))
    (sRet (eCall (call "_law_same") [(eName 4), (eTup [(eD (.str "other"))])]))
    sNext)
    (sSeq (sIf (tOr' (tNot' (tV (eIsi "tuple" (eName 4)))) (tOr' (tV (eCmp .NotEq (eBi "len" [(eName 4)]) (eD (.int 3)))) (tOr' (tNot' (tV (eCall (call "_law_same") [(eIx (eName 4) (eD (.int 0))), (eD (.str "one"))]))) (tOr' (tNot' (tV (eCall (call "_law_is_word") [(eD (.int 4)), (eIx (eName 4) (eD (.int 1)))]))) (tNot' (tV (eCall (call "_law_is_word") [(eD (.int 4)), (eIx (eName 4) (eD (.int 2)))])))))))
    (sRet (eD (.bool false)))
    sNext)
    (sSeq (sSet 5 (eTm (eCall (call "_law_fresh") [(eName 4)])))
    (sSeq (sSet 6 (eTm (eBin .Add (eBin .Add (eBin .Add (eIx (eName 4) (eD (.int 1))) (eIx (eName 4) (eD (.int 2)))) (eCall (call "_law_back") [(eIx (eName 4) (eD (.int 1)))])) (eCall (call "_law_back") [(eIx (eName 4) (eD (.int 2)))]))))
    (sSeq (sIf (tV (eCmp .NotEq (eCall (call "_law_reduced") [(eName 6)]) (eCall (call "_law_reduced") [(eName 0)])))
    (sRet (eD (.bool false)))
    sNext)
    (sSeq (sAppend1 4 (eD (.int 1)) (eD (.int 1)))
    (sSeq (sAppend1 4 (eD (.int 2)) (eD (.int 1)))
    (sRet (eCall (call "_law_same") [(eCall (call "one_commutator") [(eName 3)]), (eName 5)]))))))))))))) e := rfl
def b_f_law_commutator (call : Str → List PyData → Option O) : Stm :=
  (sRet (eBin .Add (eBin .Add (eBin .Add (eName 0) (eName 1)) (eCall (call "_law_back") [(eName 0)])) (eCall (call "_law_back") [(eName 1)])))
theorem ba_f_law_commutator (call : Str → List PyData → Option O) (e : Env) : b_f_law_commutator call e = (sRet (eBin .Add (eBin .Add (eBin .Add (eName 0) (eName 1)) (eCall (call "_law_back") [(eName 0)])) (eCall (call "_law_back") [(eName 1)]))) e := rfl
def l_law_15_1 (call : Str → List PyData → Option O) : Ev :=
  (eCall (call "_law_word") [(eName 1), (eBin .Add (eD (.int 16)) (eBin .Mult (eD (.int 4)) (eName 15))), (eName 2), (eBin .Mod (eIx (eName 1) (eBin .Add (eD (.int 54)) (eName 15))) (eD (.int 5)))])
@[simp] theorem la_law_15_1 (call : Str → List PyData → Option O) (e : Env) : l_law_15_1 call e = (eCall (call "_law_word") [(eName 1), (eBin .Add (eD (.int 16)) (eBin .Mult (eD (.int 4)) (eName 15))), (eName 2), (eBin .Mod (eIx (eName 1) (eBin .Add (eD (.int 54)) (eName 15))) (eD (.int 5)))]) e := Eq.trans rfl rfl
def l_law_15_2 (call : Str → List PyData → Option O) : Stm :=
  (sIf (tNot' (tV (eCall (call "_law_told") [(eName 10), (eD (.bool false))])))
    (sRet (eD (.bool false)))
    sNext)
@[simp] theorem la_law_15_2 (call : Str → List PyData → Option O) (e : Env) : l_law_15_2 call e = (sIf (tNot' (tV (eCall (call "_law_told") [(eName 10), (eD (.bool false))])))
    (sRet (eD (.bool false)))
    sNext) e := Eq.trans rfl rfl
def l_law_15_3 (call : Str → List PyData → Option O) : Ev :=
  (eCall (call "_law_word") [(eName 1), (eBin .Mult (eD (.int 9)) (eName 15)), (eName 2), (eBin .Mod (eIx (eName 1) (eBin .Add (eD (.int 54)) (eName 15))) (eD (.int 20)))])
@[simp] theorem la_law_15_3 (call : Str → List PyData → Option O) (e : Env) : l_law_15_3 call e = (eCall (call "_law_word") [(eName 1), (eBin .Mult (eD (.int 9)) (eName 15)), (eName 2), (eBin .Mod (eIx (eName 1) (eBin .Add (eD (.int 54)) (eName 15))) (eD (.int 20)))]) e := Eq.trans rfl rfl
def l_law_15_4 (call : Str → List PyData → Option O) : Stm :=
  (sIf (tNot' (tV (eCall (call "_law_told") [(eName 10), (eName 14)])))
    (sRet (eD (.bool false)))
    sNext)
@[simp] theorem la_law_15_4 (call : Str → List PyData → Option O) (e : Env) : l_law_15_4 call e = (sIf (tNot' (tV (eCall (call "_law_told") [(eName 10), (eName 14)])))
    (sRet (eD (.bool false)))
    sNext) e := Eq.trans rfl rfl
def b_law_15 (call : Str → List PyData → Option O) : Stm :=
  (sSeq (sSet 1 (eTm (eCall (call "_law_draws") [(eName 0), (eD (.int 60))])))
    (sSeq (sSet 2 (eTm (eBin .Add (eD (.int 1)) (eBin .Mod (eIx (eName 1) (eD (.int 50))) (eD (.int 4))))))
    (sSeq (sSet 3 (eTm (eCall (call "_law_word") [(eName 1), (eD (.int 0)), (eName 2), (eBin .Mod (eIx (eName 1) (eD (.int 51))) (eD (.int 6)))])))
    (sSeq (sSet 4 (eTm (eCall (call "_law_word") [(eName 1), (eD (.int 6)), (eName 2), (eBin .Mod (eIx (eName 1) (eD (.int 52))) (eD (.int 6)))])))
    (sSeq (sSet 5 (eTm (eCall (call "_law_word") [(eName 1), (eD (.int 12)), (eName 2), (eBin .Mod (eIx (eName 1) (eD (.int 53))) (eD (.int 4)))])))
    (sSeq (sSet 6 (eLC [15] (.one 15) (iR1 (eD (.int 3))) tTrue (l_law_15_1 call)))
    (sSeq (sSet 7 (eTm (eBin .Add (eBin .Add (eBin .Add (eBin .Add (eBin .Add (eIx (eName 6) (eD (.int 0))) (eIx (eName 6) (eD (.int 1)))) (eIx (eName 6) (eD (.int 2)))) (eCall (call "_law_back") [(eIx (eName 6) (eD (.int 0)))])) (eCall (call "_law_back") [(eIx (eName 6) (eD (.int 1)))])) (eCall (call "_law_back") [(eIx (eName 6) (eD (.int 2)))]))))
    (sSeq (sSet 8 (eTm (eBin .Mod (eIx (eName 1) (eD (.int 57))) (eBin .Add (eBi "len" [(eName 7)]) (eD (.int 1))))))
    (sSeq (sIf (tOr' (tNot' (tV (eCall (call "_law_told") [(eCall (call "_law_commutator") [(eName 3), (eName 4)]), (eD (.bool true))]))) (tNot' (tV (eCall (call "_law_told") [(eBin .Add (eBin .Add (eName 5) (eCall (call "_law_commutator") [(eName 3), (eName 4)])) (eCall (call "_law_back") [(eName 5)])), (eD (.bool true))]))))
    (sRet (eD (.bool false)))
    sNext)
    (sSeq (sIf (tOr' (tNot' (tV (eCall (call "_law_told") [(eBin .Add (eBin .Add (eBin .Add (eName 5) (eSl (eName 7) (some (eName 8)) none)) (eSl (eName 7) none (some (eName 8)))) (eCall (call "_law_back") [(eName 5)])), (eD (.bool true))]))) (tNot' (tV (eCall (call "_law_told") [(eName 7), (eD (.bool true))]))))
    (sRet (eD (.bool false)))
    sNext)
    (sSeq (sSet 9 (eTm (eCall (call "_law_some_word") [(eName 1), (eD (.int 30)), (eName 2)])))
    (sSeq (sFor (.one 10) (iV (eStp (eList [(eName 9), (eBin .Add (eCall (call "_law_commutator") [(eName 3), (eName 4)]) (eCall (call "_law_commutator") [(eIx (eName 6) (eD (.int 0))), (eIx (eName 6) (eD (.int 1)))])), (eSl (eName 7) none (some (eNeg (eD (.int 1))))), (eBin .Add (eName 7) (eName 7)), (eBin .Mult (eCall (call "_law_commutator") [(eName 3), (eName 4)]) (eD (.int 2)))]) (some (eBin .Mod (eIx (eName 1) (eD (.int 59))) (eD (.int 2)))) none 2)) (l_law_15_2 call))
    (sSeq (sIf (tV (eCmp .Eq (eBin .Mod (eIx (eName 1) (eD (.int 58))) (eD (.int 16))) (eD (.int 5))))
    (sSeq (sSet 11 (eLC [15] (.one 15) (iR1 (eD (.int 3))) tTrue (l_law_15_3 call)))
    (sSeq (sSet 12 (eTm (eBin .Add (eBin .Add (eBin .Add (eBin .Add (eBin .Add (eIx (eName 11) (eD (.int 0))) (eIx (eName 11) (eD (.int 1)))) (eIx (eName 11) (eD (.int 2)))) (eCall (call "_law_back") [(eIx (eName 11) (eD (.int 0)))])) (eCall (call "_law_back") [(eIx (eName 11) (eD (.int 1)))])) (eCall (call "_law_back") [(eIx (eName 11) (eD (.int 2)))]))))
    (sSeq (sSet 13 (eTm (eBin .Mod (eIx (eName 1) (eD (.int 57))) (eBin .Add (eBi "len" [(eName 12)]) (eD (.int 1))))))
    (sIf (tOr' (tNot' (tV (eCall (call "_law_told") [(eBin .Add (eSl (eName 12) (some (eName 13)) none) (eSl (eName 12) none (some (eName 13)))), (eD (.bool true))]))) (tNot' (tV (eCall (call "_law_told") [(eBin .Add (eSl (eName 12) none (some (eNeg (eD (.int 2))))) (eSl (eName 12) (some (eNeg (eD (.int 1)))) none)), (eD (.bool false))]))))
    (sRet (eD (.bool false)))
    sNext))))
    sNext)
    (sSeq (sFor (.many [10, 14]) (iV (eList [(eTup [(eList []), (eD (.bool true))]), (eTup [(eList [(eD (.int 1))]), (eD (.bool false))]), (eTup [(eList [(eD (.int 1)), (eD (.int 2)), (eNeg (eD (.int 1))), (eNeg (eD (.int 2)))]), (eD (.bool true))]), (eTup [(eList [(eD (.int 1)), (eD (.int 1)), (eD (.int 2)), (eNeg (eD (.int 1))), (eNeg (eD (.int 1))), (eNeg (eD (.int 2)))]), (eD (.bool true))]), (eTup [(eBin .Mult (eList [(eD (.int 1)), (eD (.int 2)), (eNeg (eD (.int 1))), (eNeg (eD (.int 2)))]) (eD (.int 2))), (eD (.bool false))]), (eTup [(eList [(eD (.int 1)), (eD (.int 2))]), (eD (.bool false))]), (eTup [(eList [(eD (.int 1)), (eNeg (eD (.int 1)))]), (eD (.bool true))])])) (l_law_15_4 call))
    (sRet (eAnd (eCall (call "_law_same") [(eCall (call "one_commutator") [(eBin .Mult (eList [(eD (.int 1)), (eD (.int 2)), (eNeg (eD (.int 1))), (eNeg (eD (.int 2)))]) (eD (.int 2)))]), (eTup [(eD (.str "other"))])]) (eCall (call "_law_same") [(eCall (call "one_commutator") [(eList [(eD (.int 1)), (eD (.int 1))])]), (eTup [(eD (.str "other"))])])))))))))))))))))
theorem ba_law_15 (call : Str → List PyData → Option O) (e : Env) : b_law_15 call e = (sSeq (sSet 1 (eTm (eCall (call "_law_draws") [(eName 0), (eD (.int 60))])))
    (sSeq (sSet 2 (eTm (eBin .Add (eD (.int 1)) (eBin .Mod (eIx (eName 1) (eD (.int 50))) (eD (.int 4))))))
    (sSeq (sSet 3 (eTm (eCall (call "_law_word") [(eName 1), (eD (.int 0)), (eName 2), (eBin .Mod (eIx (eName 1) (eD (.int 51))) (eD (.int 6)))])))
    (sSeq (sSet 4 (eTm (eCall (call "_law_word") [(eName 1), (eD (.int 6)), (eName 2), (eBin .Mod (eIx (eName 1) (eD (.int 52))) (eD (.int 6)))])))
    (sSeq (sSet 5 (eTm (eCall (call "_law_word") [(eName 1), (eD (.int 12)), (eName 2), (eBin .Mod (eIx (eName 1) (eD (.int 53))) (eD (.int 4)))])))
    (sSeq (sSet 6 (eLC [15] (.one 15) (iR1 (eD (.int 3))) tTrue (l_law_15_1 call)))
    (sSeq (sSet 7 (eTm (eBin .Add (eBin .Add (eBin .Add (eBin .Add (eBin .Add (eIx (eName 6) (eD (.int 0))) (eIx (eName 6) (eD (.int 1)))) (eIx (eName 6) (eD (.int 2)))) (eCall (call "_law_back") [(eIx (eName 6) (eD (.int 0)))])) (eCall (call "_law_back") [(eIx (eName 6) (eD (.int 1)))])) (eCall (call "_law_back") [(eIx (eName 6) (eD (.int 2)))]))))
    (sSeq (sSet 8 (eTm (eBin .Mod (eIx (eName 1) (eD (.int 57))) (eBin .Add (eBi "len" [(eName 7)]) (eD (.int 1))))))
    (sSeq (sIf (tOr' (tNot' (tV (eCall (call "_law_told") [(eCall (call "_law_commutator") [(eName 3), (eName 4)]), (eD (.bool true))]))) (tNot' (tV (eCall (call "_law_told") [(eBin .Add (eBin .Add (eName 5) (eCall (call "_law_commutator") [(eName 3), (eName 4)])) (eCall (call "_law_back") [(eName 5)])), (eD (.bool true))]))))
    (sRet (eD (.bool false)))
    sNext)
    (sSeq (sIf (tOr' (tNot' (tV (eCall (call "_law_told") [(eBin .Add (eBin .Add (eBin .Add (eName 5) (eSl (eName 7) (some (eName 8)) none)) (eSl (eName 7) none (some (eName 8)))) (eCall (call "_law_back") [(eName 5)])), (eD (.bool true))]))) (tNot' (tV (eCall (call "_law_told") [(eName 7), (eD (.bool true))]))))
    (sRet (eD (.bool false)))
    sNext)
    (sSeq (sSet 9 (eTm (eCall (call "_law_some_word") [(eName 1), (eD (.int 30)), (eName 2)])))
    (sSeq (sFor (.one 10) (iV (eStp (eList [(eName 9), (eBin .Add (eCall (call "_law_commutator") [(eName 3), (eName 4)]) (eCall (call "_law_commutator") [(eIx (eName 6) (eD (.int 0))), (eIx (eName 6) (eD (.int 1)))])), (eSl (eName 7) none (some (eNeg (eD (.int 1))))), (eBin .Add (eName 7) (eName 7)), (eBin .Mult (eCall (call "_law_commutator") [(eName 3), (eName 4)]) (eD (.int 2)))]) (some (eBin .Mod (eIx (eName 1) (eD (.int 59))) (eD (.int 2)))) none 2)) (l_law_15_2 call))
    (sSeq (sIf (tV (eCmp .Eq (eBin .Mod (eIx (eName 1) (eD (.int 58))) (eD (.int 16))) (eD (.int 5))))
    (sSeq (sSet 11 (eLC [15] (.one 15) (iR1 (eD (.int 3))) tTrue (l_law_15_3 call)))
    (sSeq (sSet 12 (eTm (eBin .Add (eBin .Add (eBin .Add (eBin .Add (eBin .Add (eIx (eName 11) (eD (.int 0))) (eIx (eName 11) (eD (.int 1)))) (eIx (eName 11) (eD (.int 2)))) (eCall (call "_law_back") [(eIx (eName 11) (eD (.int 0)))])) (eCall (call "_law_back") [(eIx (eName 11) (eD (.int 1)))])) (eCall (call "_law_back") [(eIx (eName 11) (eD (.int 2)))]))))
    (sSeq (sSet 13 (eTm (eBin .Mod (eIx (eName 1) (eD (.int 57))) (eBin .Add (eBi "len" [(eName 12)]) (eD (.int 1))))))
    (sIf (tOr' (tNot' (tV (eCall (call "_law_told") [(eBin .Add (eSl (eName 12) (some (eName 13)) none) (eSl (eName 12) none (some (eName 13)))), (eD (.bool true))]))) (tNot' (tV (eCall (call "_law_told") [(eBin .Add (eSl (eName 12) none (some (eNeg (eD (.int 2))))) (eSl (eName 12) (some (eNeg (eD (.int 1)))) none)), (eD (.bool false))]))))
    (sRet (eD (.bool false)))
    sNext))))
    sNext)
    (sSeq (sFor (.many [10, 14]) (iV (eList [(eTup [(eList []), (eD (.bool true))]), (eTup [(eList [(eD (.int 1))]), (eD (.bool false))]), (eTup [(eList [(eD (.int 1)), (eD (.int 2)), (eNeg (eD (.int 1))), (eNeg (eD (.int 2)))]), (eD (.bool true))]), (eTup [(eList [(eD (.int 1)), (eD (.int 1)), (eD (.int 2)), (eNeg (eD (.int 1))), (eNeg (eD (.int 1))), (eNeg (eD (.int 2)))]), (eD (.bool true))]), (eTup [(eBin .Mult (eList [(eD (.int 1)), (eD (.int 2)), (eNeg (eD (.int 1))), (eNeg (eD (.int 2)))]) (eD (.int 2))), (eD (.bool false))]), (eTup [(eList [(eD (.int 1)), (eD (.int 2))]), (eD (.bool false))]), (eTup [(eList [(eD (.int 1)), (eNeg (eD (.int 1)))]), (eD (.bool true))])])) (l_law_15_4 call))
    (sRet (eAnd (eCall (call "_law_same") [(eCall (call "one_commutator") [(eBin .Mult (eList [(eD (.int 1)), (eD (.int 2)), (eNeg (eD (.int 1))), (eNeg (eD (.int 2)))]) (eD (.int 2)))]), (eTup [(eD (.str "other"))])]) (eCall (call "_law_same") [(eCall (call "one_commutator") [(eList [(eD (.int 1)), (eD (.int 1))])]), (eTup [(eD (.str "other"))])]))))))))))))))))) e := rfl
end PY
set_option maxHeartbeats 8000000
namespace PY
open PySem L2
/-! ### the six parts by their places -/
def sg (w : List Int) (i j : Nat) : List Int := (w.drop i).take (j - i)
def art (F S : List Int) (i j : Nat) : Bool := decide (sg S i j = bck (sg F i j))
def six3 (F S : List Int) (i j : Nat) : Bool := decide (i ≤ j) && art F S 0 i && art F S j F.length && art F S i j
theorem six3_six {F S : List Int} (hl : F.length = S.length) {i j : Nat} (hi : i ≤ F.length) (hj : j ≤ F.length) (h : six3 F S i j = true) : F ++ S = six (F.take i) (sg F i j) (F.drop j) := by
  unfold six3 art at h
  simp only [Bool.and_eq_true, decide_eq_true_eq] at h
  obtain ⟨⟨⟨ij, h1⟩, h2⟩, h3⟩ := h
  have cut : ∀ w : List Int, w.length = F.length → w = w.take i ++ (sg w i j ++ w.drop j) := fun w _ => by
    unfold sg
    have e1 : w.drop j = (w.drop i).drop (j - i) := by rw [List.drop_drop]; congr 1; omega
    rw [e1, List.take_append_drop, List.take_append_drop]
  have s1 : sg S 0 i = S.take i := by unfold sg; simp
  have f1 : sg F 0 i = F.take i := by unfold sg; simp
  have s2 : sg S j F.length = S.drop j := by unfold sg; exact List.take_of_length_le (by simp; omega)
  have f2 : sg F j F.length = F.drop j := by unfold sg; exact List.take_of_length_le (by simp)
  rw [s1, f1] at h1
  rw [s2, f2] at h2
  have eS := cut S hl.symm
  have eF := cut F rfl
  unfold six
  rw [h1, h2, h3] at eS
  calc F ++ S = (F.take i ++ (sg F i j ++ F.drop j)) ++ (bck (F.take i) ++ (bck (sg F i j) ++ bck (F.drop j))) := by rw [← eS, ← eF]
    _ = _ := by simp [List.append_assoc]
theorem six_six3 {F S : List Int} (hl : F.length = S.length) (h : SixP (F ++ S)) : ∃ i j, i ≤ F.length ∧ j ≤ F.length ∧ six3 F S i j = true := by
  obtain ⟨a, b, c, e⟩ := h
  have e2 : F ++ S = (a ++ b ++ c) ++ (bck a ++ bck b ++ bck c) := by rw [e]; unfold six; simp [List.append_assoc]
  have ll : F.length = (a ++ b ++ c).length := by
    have := congrArg List.length e2
    simp only [List.length_append, bck_len] at this ⊢
    omega
  obtain ⟨rfl, rfl⟩ := List.append_inj e2 ll
  refine ⟨a.length, a.length + b.length, by simp, by simp, ?_⟩
  unfold six3 art sg
  simp only [Bool.and_eq_true, decide_eq_true_eq]
  have d1 : (a ++ b ++ c).drop a.length = b ++ c := by rw [List.append_assoc, List.drop_left]
  have d2 : (a ++ b ++ c).drop (a.length + b.length) = c := by rw [show a.length + b.length = (a ++ b).length by simp, List.drop_left]
  have d3 : (bck a ++ bck b ++ bck c).drop a.length = bck b ++ bck c := by rw [List.append_assoc, show a.length = (bck a).length by simp, List.drop_left]
  have d4 : (bck a ++ bck b ++ bck c).drop (a.length + b.length) = bck c := by rw [show a.length + b.length = (bck a ++ bck b).length by simp, List.drop_left]
  refine ⟨⟨⟨by omega, ?_⟩, ?_⟩, ?_⟩
  · rw [List.drop_zero, List.drop_zero, Nat.sub_zero, List.append_assoc, List.append_assoc, List.take_left, show a.length = (bck a).length by simp, List.take_left]
  · rw [d2, d4, List.take_of_length_le (by simp; omega), List.take_of_length_le (by simp; omega)]
  · rw [d1, d3, Nat.add_sub_cancel_left, List.take_left, show b.length = (bck b).length by simp, List.take_left]
def sixB (w : List Int) : Bool := decide (w.length % 2 = 0) && (List.range (w.length / 2 + 1)).any fun i => (List.range (w.length / 2 + 1)).any fun j => six3 (w.take (w.length / 2)) (w.drop (w.length / 2)) i j
theorem halves {w : List Int} (h : w.length % 2 = 0) : (w.take (w.length / 2)).length = w.length / 2 ∧ (w.drop (w.length / 2)).length = w.length / 2 := by
  rw [List.length_take, List.length_drop]
  omega
theorem sixB_iff (w : List Int) : sixB w = true ↔ SixP w := by
  constructor
  · intro h
    unfold sixB at h
    rw [Bool.and_eq_true, decide_eq_true_eq] at h
    obtain ⟨h0, h⟩ := h
    obtain ⟨h1, h2⟩ := halves h0
    obtain ⟨i, hi, h⟩ := List.any_eq_true.mp h
    obtain ⟨j, hj, h⟩ := List.any_eq_true.mp h
    have hi := List.mem_range.mp hi
    have hj := List.mem_range.mp hj
    have := six3_six (by rw [h1, h2]) (by rw [h1]; omega) (by rw [h1]; omega) h
    rw [List.take_append_drop] at this
    exact ⟨_, _, _, this⟩
  · intro h
    have h0 : w.length % 2 = 0 := by
      obtain ⟨a, b, c, rfl⟩ := h
      rw [six_len]
      omega
    obtain ⟨h1, h2⟩ := halves h0
    obtain ⟨i, j, hi, hj, h3⟩ := six_six3 (F := w.take (w.length / 2)) (S := w.drop (w.length / 2)) (by rw [h1, h2]) (by rw [List.take_append_drop]; exact h)
    rw [h1] at hi hj
    unfold sixB
    rw [Bool.and_eq_true, decide_eq_true_eq]
    exact ⟨h0, List.any_eq_true.mpr ⟨i, List.mem_range.mpr (by omega), List.any_eq_true.mpr ⟨j, List.mem_range.mpr (by omega), h3⟩⟩⟩
def dueB (w : List Int) : Bool := (rots (core w)).any sixB
theorem dueB_of {w : List Int} (h : CSix (core w)) : dueB w = true := by
  obtain ⟨v, hv, s⟩ := h
  exact List.any_eq_true.mpr ⟨v, isRot_rots hv, (sixB_iff v).mpr s⟩
section
variable (call : Cal)
theorem R_are (F S : List Int) (i j : Nat) (hF : F.length ≤ 10000) (h1 : call "turned_round" [L (sg F i j)] = some (ow (bck (sg F i j)))) :
    outO (b_are_turned_round call [some (.frz (L F)), some (.frz (L S)), some (.frz (.int (i : Nat))), some (.frz (.int (j : Nat)))]) = some (.frz (.bool (art F S i j))) := by
  rw [ba_are_turned_round]
  unfold art
  have c1 : cutI S (some (i : Int)) (some (j : Int)) = sg S i j := by rw [cut_two (by omega) (by omega)]; unfold sg; simp
  have c2 : cutI F (some (i : Int)) (some (j : Int)) = sg F i j := by rw [cut_two (by omega) (by omega)]; unfold sg; simp
  generalize sg S i j = x at *
  generalize sg F i j = y at *
  generalize bck y = z at *
  simp [c1, c2, h1]
abbrev AreF (call : Cal) (F S : List Int) : Prop := ∀ i j : Nat, i ≤ 10000 → j ≤ 10000 → call "are_turned_round" [L F, L S, .int (i : Nat), .int (j : Nat)] = some (.frz (.bool (art F S i j)))
end
end PY
set_option maxHeartbeats 8000000
namespace PY
open PySem L2
def nD (ks : List Nat) : List D := ks.map fun k => .int (k : Nat)
def nI (ks : List Nat) : List O := ks.map fun k => .frz (.int (k : Nat))
theorem nI_ds (ks : List Nat) : O.ds (nI ks) = nD ks := by
  rw [O.ds_map]
  unfold nI nD
  rw [List.map_map]
  rfl
theorem sg_take {w : List Int} {h i j : Nat} (hj : j ≤ h) : sg (w.take h) i j = sg w i j := by
  unfold sg
  rw [List.drop_take, List.take_take]
  congr 1
  omega
theorem rangeD_nD : ∀ m : Nat, rangeD 0 m = nD (List.range m) := fun m => by
  have h : ∀ (m k : Nat), rangeD (k : Int) m = (List.range' k m).map fun i => PyData.int (i : Nat) := fun m => by
    induction m with
    | zero => intro k; rfl
    | succ m ih =>
      intro k
      rw [rangeD_succ, List.range'_succ, List.map_cons]
      have := ih (k + 1)
      rw [show (((k + 1 : Nat)) : Int) = (k : Int) + 1 by omega] at this
      rw [this]
  have h0 := h m 0
  rw [← List.range_eq_range'] at h0
  exact h0
section
variable (call : Cal)
theorem in_six (F S : List Int) (i : Nat) (hi : i ≤ 10000) (ha : AreF call F S) {e0 e1 e4 e5 : Option O} : ∀ (js : List Nat) (y : Option O), (∀ j ∈ js, j ≤ 10000) →
    (∃ j ∈ js, i ≤ j ∧ art F S i j = true ∧ forGo (.one 7) (l_six_parts_5 call) (nD js) [e0, e1, some (ow F), some (ow S), e4, e5, some (.frz (.int (i : Nat))), y] = some (.ret (.otup [.frz (.int (i : Nat)), .frz (.int (j : Nat))]))) ∨
    ((∀ j ∈ js, ¬ (i ≤ j ∧ art F S i j = true)) ∧ ∃ y', forGo (.one 7) (l_six_parts_5 call) (nD js) [e0, e1, some (ow F), some (ow S), e4, e5, some (.frz (.int (i : Nat))), y] = some (.next [e0, e1, some (ow F), some (ow S), e4, e5, some (.frz (.int (i : Nat))), y']))
  | [], y, _ => .inr ⟨(fun _ m => nomatch m), y, rfl⟩
  | j :: js, y, hj => by
    have hj0 := hj j List.mem_cons_self
    have a := ha i j hi hj0
    have st : l_six_parts_5 call [e0, e1, some (ow F), some (ow S), e4, e5, some (.frz (.int (i : Nat))), some (.frz (.int (j : Nat)))] = if i ≤ j ∧ art F S i j = true then some (.ret (.otup [.frz (.int (i : Nat)), .frz (.int (j : Nat))])) else some (.next [e0, e1, some (ow F), some (ow S), e4, e5, some (.frz (.int (i : Nat))), some (.frz (.int (j : Nat)))]) := by
      rw [la_six_parts_5]
      have z2 : 2 ≤ sizeLine := Nat.le_of_lt (line_lt (by omega))
      by_cases q : i ≤ j
      · have q' : (i : Int) ≤ (j : Int) := by omega
        cases hb : art F S i j with
        | true => rw [hb] at a; simp [q, q', a, z2]
        | false => rw [hb] at a; simp [q, q', a]
      · have q' : ¬ ((i : Int) ≤ (j : Int)) := by omega
        simp [q, q']
    have hd : nD (j :: js) = .int (j : Nat) :: nD js := rfl
    rw [hd]
    by_cases q : i ≤ j ∧ art F S i j = true
    · refine .inl ⟨j, List.mem_cons_self, q.1, q.2, ?_⟩
      rw [forGo_cons]
      show go1 _ (l_six_parts_5 call [e0, e1, some (ow F), some (ow S), e4, e5, some (.frz (.int (i : Nat))), some (.frz (.int (j : Nat)))]) = _
      rw [st, if_pos q]
      rfl
    · rcases in_six F S i hi ha (e0 := e0) (e1 := e1) (e4 := e4) (e5 := e5) js (some (.frz (.int (j : Nat)))) (fun x m => hj x (List.mem_cons_of_mem _ m)) with ⟨k, mk, k1, k2, k3⟩ | ⟨n1, y', n2⟩
      · refine .inl ⟨k, List.mem_cons_of_mem _ mk, k1, k2, ?_⟩
        rw [forGo_cons]
        show go1 _ (l_six_parts_5 call [e0, e1, some (ow F), some (ow S), e4, e5, some (.frz (.int (i : Nat))), some (.frz (.int (j : Nat)))]) = _
        rw [st, if_neg q]
        exact k3
      · refine .inr ⟨fun k mk => ?_, y', ?_⟩
        · rcases List.mem_cons.mp mk with rfl | mk
          · exact q
          · exact n1 k mk
        rw [forGo_cons]
        show go1 _ (l_six_parts_5 call [e0, e1, some (ow F), some (ow S), e4, e5, some (.frz (.int (i : Nat))), some (.frz (.int (j : Nat)))]) = _
        rw [st, if_neg q]
        exact n2
theorem out_six (F S : List Int) (ha : AreF call F S) {e0 e1 e4 : Option O} (js : List Nat) (hj : ∀ j ∈ js, j ≤ 10000) (hl : js.length ≤ 10000) : ∀ (is : List Nat) (y6 y7 : Option O) (o5 : O), (o5 = .own (nI js) ∨ o5 = .frz (.list (nD js))) → (∀ i ∈ is, i ≤ 10000) →
    (∃ i ∈ is, ∃ j ∈ js, i ≤ j ∧ art F S i j = true ∧ forGo (.one 6) (l_six_parts_6 call) (nD is) [e0, e1, some (ow F), some (ow S), e4, some o5, y6, y7] = some (.ret (.otup [.frz (.int (i : Nat)), .frz (.int (j : Nat))]))) ∨
    ((∀ i ∈ is, ∀ j ∈ js, ¬ (i ≤ j ∧ art F S i j = true)) ∧ ∃ y' y'' o', forGo (.one 6) (l_six_parts_6 call) (nD is) [e0, e1, some (ow F), some (ow S), e4, some o5, y6, y7] = some (.next [e0, e1, some (ow F), some (ow S), e4, some o', y', y'']))
  | [], y6, y7, o5, _, _ => .inr ⟨(fun _ m => nomatch m), y6, y7, o5, rfl⟩
  | i :: is, y6, y7, o5, h5, hi => by
    have hi0 := hi i List.mem_cons_self
    have hd : nD (i :: is) = .int (i : Nat) :: nD is := rfl
    have st : l_six_parts_6 call [e0, e1, some (ow F), some (ow S), e4, some o5, some (.frz (.int (i : Nat))), y7] = forGo (.one 7) (l_six_parts_5 call) (nD js) [e0, e1, some (ow F), some (ow S), e4, some (.frz (.list (nD js))), some (.frz (.int (i : Nat))), y7] := by
      have nd := nI_ds js
      rw [la_six_parts_6]
      rcases h5 with rfl | rfl
      · generalize nI js = o at *
        generalize nD js = d at *
        simp [nd]
      · generalize nD js = d at *
        simp
    rcases in_six call F S i hi0 ha (e0 := e0) (e1 := e1) (e4 := e4) (e5 := some (.frz (.list (nD js)))) js y7 hj with ⟨j, mj, j1, j2, j3⟩ | ⟨n1, y', n2⟩
    · refine .inl ⟨i, List.mem_cons_self, j, mj, j1, j2, ?_⟩
      rw [hd, forGo_cons]
      show go1 _ (l_six_parts_6 call [e0, e1, some (ow F), some (ow S), e4, some o5, some (.frz (.int (i : Nat))), y7]) = _
      rw [st, j3]
      rfl
    · rcases out_six F S ha (e0 := e0) (e1 := e1) (e4 := e4) js hj hl is (some (.frz (.int (i : Nat)))) y' (.frz (.list (nD js))) (.inr rfl) (fun x m => hi x (List.mem_cons_of_mem _ m)) with ⟨k, mk, j, mj, k1, k2, k3⟩ | ⟨m1, y1, y2, o', m2⟩
      · refine .inl ⟨k, List.mem_cons_of_mem _ mk, j, mj, k1, k2, ?_⟩
        rw [hd, forGo_cons]
        show go1 _ (l_six_parts_6 call [e0, e1, some (ow F), some (ow S), e4, some o5, some (.frz (.int (i : Nat))), y7]) = _
        rw [st, n2]
        exact k3
      · refine .inr ⟨fun k mk => ?_, y1, y2, o', ?_⟩
        · rcases List.mem_cons.mp mk with rfl | mk
          · exact n1
          · exact m1 k mk
        rw [hd, forGo_cons]
        show go1 _ (l_six_parts_6 call [e0, e1, some (ow F), some (ow S), e4, some o5, some (.frz (.int (i : Nat))), y7]) = _
        rw [st, n2]
        exact m2
def stL (F S : List Int) (h : Nat) : List Nat := (List.range (h + 1)).filter fun i => art F S 0 i
def enL (F S : List Int) (h : Nat) : List Nat := (List.range (h + 1)).filter fun j => art F S j h
/-- what is told of the six parts -/
def SixO (w : List Int) (o : O) : Prop := (∃ i j, i ≤ w.length / 2 ∧ j ≤ w.length / 2 ∧ six3 (w.take (w.length / 2)) (w.drop (w.length / 2)) i j = true ∧ o = .otup [.frz (.int (i : Nat)), .frz (.int (j : Nat))]) ∨ (o = .frz .none ∧ sixB w = false)
theorem R_six_parts (w : List Int) (h0 : w.length % 2 = 0) (hw : w.length ≤ 10000) (ha : ∀ F S : List Int, F.length ≤ 10000 → AreF call F S) : ∃ o, SixO w o ∧ outO (b_six_parts call [some (.frz (L w)), none, none, none, none, none, none, none]) = some o := by
  obtain ⟨h, eh⟩ : ∃ h, h = w.length / 2 := ⟨_, rfl⟩
  obtain ⟨l1, l2⟩ := halves h0
  rw [← eh] at l1 l2
  have aF := ha (w.take h) (w.drop h) (by omega)
  have fd : (w.length : Int).fdiv 2 = ((h : Nat) : Int) := by rw [Int.fdiv_eq_ediv_of_nonneg _ (by omega)]; omega
  have c1 : cutI w none (some (h : Int)) = w.take h := by rw [cut_to (by omega)]; simp
  have c2 : cutI w (some (h : Int)) none = w.drop h := by rw [cut_from (by omega)]; simp
  rw [ba_six_parts]
  have q0 : sSet 1 (eTm (eBin .FloorDiv (eBi "len" [(eName 0)]) (eD (.int 2)))) [some (.frz (L w)), none, none, none, none, none, none, none] = some (.next [some (.frz (L w)), some (.frz (.int (h : Nat))), none, none, none, none, none, none]) := by
    simp [fd]
  rw [sSeq_nx q0]
  have q1 : sSet 2 (eTm (eSl (eName 0) none (some (eName 1)))) [some (.frz (L w)), some (.frz (.int (h : Nat))), none, none, none, none, none, none] = some (.next [some (.frz (L w)), some (.frz (.int (h : Nat))), some (ow (w.take h)), none, none, none, none, none]) := by
    simp [c1]
  rw [sSeq_nx q1]
  have q2 : sSet 3 (eTm (eSl (eName 0) (some (eName 1)) none)) [some (.frz (L w)), some (.frz (.int (h : Nat))), some (ow (w.take h)), none, none, none, none, none] = some (.next [some (.frz (L w)), some (.frz (.int (h : Nat))), some (ow (w.take h)), some (ow (w.drop h)), none, none, none, none]) := by
    generalize w.take h = F at *
    simp [c2]
  rw [sSeq_nx q2]
  have hs : ∀ (F S : List Int), (six3 F S = fun i j => decide (i ≤ j) && art F S 0 i && art F S j F.length && art F S i j) := fun F S => rfl
  have rk : Rk ((h : Int) + 1) := Rk_of (by omega) (by omega)
  have tn : ((h : Int) + 1).toNat = h + 1 := by omega
  have hB : sixB w = ((List.range (h + 1)).any fun i => (List.range (h + 1)).any fun j => six3 (w.take h) (w.drop h) i j) := by
    unfold sixB
    rw [← eh, decide_eq_true h0, Bool.true_and]
  unfold SixO
  rw [← eh, hB]
  clear hB
  generalize w.take h = F at *
  generalize w.drop h = S at *
  have q3 : sSet 4 (eLC [6] (.one 6) (iR1 (eBin .Add (eName 1) (eD (.int 1)))) (l_six_parts_1 call) (l_six_parts_2 call)) [some (.frz (L w)), some (.frz (.int (h : Nat))), some (ow F), some (ow S), none, none, none, none] = some (.next [some (.frz (L w)), some (.frz (.int (h : Nat))), some (ow F), some (ow S), some (.own (nI (stL F S h))), none, none, none]) := by
    have key := eLC_fgen (E := [some (.frz (L w)), some (.frz (.int (h : Nat))), some (ow F), some (ow S), none, none, none, none]) (E0 := [some (.frz (L w)), some (.frz (.int (h : Nat))), some (ow F), some (ow S), none, none, none, none]) (i := 6) (tst := l_six_parts_1 call) (elt := l_six_parts_2 call) (it := iR1 (eBin .Add (eName 1) (eD (.int 1)))) (ds := nD (List.range (h + 1))) (by simp [rk, tn]; rw [rangeD_nD]) rfl (fun k : Nat => .int (k : Nat)) (fun i => art F S 0 i) (fun k => .frz (.int (k : Nat))) (ks := List.range (h + 1)) rfl (fun k mk => by
        have a := aF 0 k (by omega) (by have := List.mem_range.mp mk; omega)
        show l_six_parts_1 call [some (.frz (L w)), some (.frz (.int (h : Nat))), some (ow F), some (ow S), none, none, some (.frz (.int (k : Nat))), none] = some (_, [some (.frz (L w)), some (.frz (.int (h : Nat))), some (ow F), some (ow S), none, none, some (.frz (.int (k : Nat))), none])
        rw [la_six_parts_1]
        rw [show ((0 : Nat) : Int) = 0 from rfl] at a
        generalize art F S 0 k = b at *
        simp [a]) (fun k _ _ => ⟨.frz (.int (k : Nat)), [some (.frz (L w)), some (.frz (.int (h : Nat))), some (ow F), some (ow S), none, none, some (.frz (.int (k : Nat))), none], rfl, rfl⟩) (by simp; omega)
    have mm : ((List.range (h + 1)).filter fun i => art F S 0 i).map (fun k => O.frz (.int (k : Nat))) = nI (stL F S h) := rfl
    rw [mm] at key
    generalize nI (stL F S h) = us at *
    simp [-eLC_ap, key]
  rw [sSeq_nx q3]
  have q4 : sSet 5 (eLC [7] (.one 7) (iR1 (eBin .Add (eName 1) (eD (.int 1)))) (l_six_parts_3 call) (l_six_parts_4 call)) [some (.frz (L w)), some (.frz (.int (h : Nat))), some (ow F), some (ow S), some (.own (nI (stL F S h))), none, none, none] = some (.next [some (.frz (L w)), some (.frz (.int (h : Nat))), some (ow F), some (ow S), some (.own (nI (stL F S h))), some (.own (nI (enL F S h))), none, none]) := by
    have ndS := nI_ds (stL F S h)
    have key := eLC_fgen (E := [some (.frz (L w)), some (.frz (.int (h : Nat))), some (ow F), some (ow S), some (.own (nI (stL F S h))), none, none, none]) (E0 := [some (.frz (L w)), some (.frz (.int (h : Nat))), some (ow F), some (ow S), some (.own (nI (stL F S h))), none, none, none]) (i := 7) (tst := l_six_parts_3 call) (elt := l_six_parts_4 call) (it := iR1 (eBin .Add (eName 1) (eD (.int 1)))) (ds := nD (List.range (h + 1))) (by generalize nI (stL F S h) = us at *; simp [rk, tn]; rw [rangeD_nD]) rfl (fun k : Nat => .int (k : Nat)) (fun j => art F S j h) (fun k => .frz (.int (k : Nat))) (ks := List.range (h + 1)) rfl (fun k mk => by
        have a := aF k h (by have := List.mem_range.mp mk; omega) (by omega)
        show l_six_parts_3 call [some (.frz (L w)), some (.frz (.int (h : Nat))), some (ow F), some (ow S), some (.own (nI (stL F S h))), none, none, some (.frz (.int (k : Nat)))] = some (_, [some (.frz (L w)), some (.frz (.int (h : Nat))), some (ow F), some (ow S), some (.own (nI (stL F S h))), none, none, some (.frz (.int (k : Nat)))])
        rw [la_six_parts_3]
        generalize nI (stL F S h) = us at *
        generalize art F S k h = b at *
        simp [a]) (fun k _ _ => ⟨.frz (.int (k : Nat)), [some (.frz (L w)), some (.frz (.int (h : Nat))), some (ow F), some (ow S), some (.own (nI (stL F S h))), none, none, some (.frz (.int (k : Nat)))], rfl, rfl⟩) (by simp; omega)
    have mm : ((List.range (h + 1)).filter fun i => art F S i h).map (fun k => O.frz (.int (k : Nat))) = nI (enL F S h) := rfl
    rw [mm] at key
    generalize nI (enL F S h) = vs at *
    generalize nI (stL F S h) = us at *
    simp [-eLC_ap, key]
  rw [sSeq_nx q4]
  have hst : ∀ i ∈ stL F S h, i ≤ h ∧ art F S 0 i = true := fun i m => by
    have := List.mem_filter.mp m
    exact ⟨by have := List.mem_range.mp this.1; omega, this.2⟩
  have hen : ∀ i ∈ enL F S h, i ≤ h ∧ art F S i h = true := fun i m => by
    have := List.mem_filter.mp m
    exact ⟨by have := List.mem_range.mp this.1; omega, this.2⟩
  have lel : (enL F S h).length ≤ 10000 := Nat.le_trans (List.length_filter_le _ _) (by simp; omega)
  have q5 : ∀ r, forGo (.one 6) (l_six_parts_6 call) (nD (stL F S h)) [some (.frz (L w)), some (.frz (.int (h : Nat))), some (ow F), some (ow S), some (.frz (.list (nD (stL F S h)))), some (.own (nI (enL F S h))), none, none] = r → sFor (.one 6) (iV (eName 4)) (l_six_parts_6 call) [some (.frz (L w)), some (.frz (.int (h : Nat))), some (ow F), some (ow S), some (.own (nI (stL F S h))), some (.own (nI (enL F S h))), none, none] = r := by
    intro r hr
    have ndS := nI_ds (stL F S h)
    rw [← hr]
    generalize nI (enL F S h) = vs at *
    generalize nI (stL F S h) = us at *
    generalize nD (stL F S h) = ds at *
    simp [ndS]
  rcases out_six call F S aF (e0 := some (.frz (L w))) (e1 := some (.frz (.int (h : Nat)))) (e4 := some (.frz (.list (nD (stL F S h))))) (enL F S h) (fun j m => by have := (hen j m).1; omega) lel (stL F S h) none none (.own (nI (enL F S h))) (.inl rfl) (fun i m => by have := (hst i m).1; omega) with ⟨i, mi, j, mj, k1, k2, k3⟩ | ⟨m1, y1, y2, o', m2⟩
  · refine ⟨.otup [.frz (.int (i : Nat)), .frz (.int (j : Nat))], .inl ⟨i, j, (hst i mi).1, (hen j mj).1, ?_, rfl⟩, ?_⟩
    · unfold six3
      rw [l1, decide_eq_true k1, (hst i mi).2, (hen j mj).2, k2]
      rfl
    · unfold sSeq
      rw [q5 _ k3]
      rfl
  · refine ⟨.frz .none, .inr ⟨rfl, ?_⟩, ?_⟩
    · rw [← Bool.not_eq_true]
      intro z
      obtain ⟨i, hi, z⟩ := List.any_eq_true.mp z
      obtain ⟨j, hj, z⟩ := List.any_eq_true.mp z
      unfold six3 at z
      rw [l1] at z
      simp only [Bool.and_eq_true, decide_eq_true_eq] at z
      exact m1 i (List.mem_filter.mpr ⟨hi, z.1.1.2⟩) j (List.mem_filter.mpr ⟨hj, z.1.2⟩) ⟨z.1.1.1, z.2⟩
    · rw [sSeq_nx (q5 _ m2)]
      rfl
/-! ### the law's look -/
theorem six_in_law (w : List Int) (h i : Nat) (l0 : w.length = 2 * h) (hi : i ≤ h) (hh : h ≤ 5000) (hb : ∀ v : List Int, v.length < 900000 → call "_law_back" [L v] = some (ow (bck v))) : ∀ (m j : Nat) (y : Option O), j + m = h + 1 → i ≤ j →
    ((∃ k, j ≤ k ∧ k ≤ h ∧ art (w.take h) (w.drop h) i k = true ∧ art (w.take h) (w.drop h) k h = true) ∧ forGo (.one 3) (l_f_law_is_six_1 call) (rangeD (j : Int) m) [some (.frz (L w)), some (.frz (.int (h : Nat))), some (.frz (.int (i : Nat))), y] = some (.ret (.frz (.bool true)))) ∨
    ((¬ ∃ k, j ≤ k ∧ k ≤ h ∧ art (w.take h) (w.drop h) i k = true ∧ art (w.take h) (w.drop h) k h = true) ∧ ∃ y', forGo (.one 3) (l_f_law_is_six_1 call) (rangeD (j : Int) m) [some (.frz (L w)), some (.frz (.int (h : Nat))), some (.frz (.int (i : Nat))), y] = some (.next [some (.frz (L w)), some (.frz (.int (h : Nat))), some (.frz (.int (i : Nat))), y']))
  | 0, j, y, hj, _ => .inr ⟨fun ⟨k, k1, k2, _⟩ => by omega, y, rfl⟩
  | m + 1, j, y, hj, ij => by
    have c1 : cutI w (some ((h : Int) + i)) (some ((h : Int) + j)) = sg (w.drop h) i j := by
      rw [cut_two (by omega) (by omega)]
      unfold sg
      rw [List.drop_drop, show ((h : Int) + j).toNat - ((h : Int) + i).toNat = j - i by omega, show ((h : Int) + i).toNat = h + i by omega]
    have c2 : cutI w (some (i : Int)) (some (j : Int)) = sg (w.take h) i j := by
      rw [cut_two (by omega) (by omega), sg_take (by omega)]
      unfold sg
      simp
    have c3 : cutI w (some ((h : Int) + j)) none = sg (w.drop h) j h := by
      rw [cut_from (by omega)]
      unfold sg
      rw [List.drop_drop, List.take_of_length_le (by simp; omega)]
      congr 1
    have c4 : cutI w (some (j : Int)) (some (h : Int)) = sg (w.take h) j h := by
      rw [cut_two (by omega) (by omega), sg_take (by omega)]
      unfold sg
      simp
    have b1 := hb (sg (w.take h) i j) (by unfold sg; simp; omega)
    have b2 := hb (sg (w.take h) j h) (by unfold sg; simp; omega)
    have st : l_f_law_is_six_1 call [some (.frz (L w)), some (.frz (.int (h : Nat))), some (.frz (.int (i : Nat))), some (.frz (.int (j : Nat)))] = if art (w.take h) (w.drop h) i j = true ∧ art (w.take h) (w.drop h) j h = true then some (.ret (.frz (.bool true))) else some (.next [some (.frz (L w)), some (.frz (.int (h : Nat))), some (.frz (.int (i : Nat))), some (.frz (.int (j : Nat)))]) := by
      rw [la_f_law_is_six_1]
      unfold art
      generalize sg (w.take h) i j = x1 at *
      generalize sg (w.drop h) i j = x2 at *
      generalize sg (w.take h) j h = x3 at *
      generalize sg (w.drop h) j h = x4 at *
      generalize bck x1 = z1 at *
      generalize bck x3 = z3 at *
      by_cases p : x2 = z1
      · by_cases q : x4 = z3
        · simp [c1, c2, c3, c4, b1, b2, p, q]
        · simp [c1, c2, c3, c4, b1, b2, p, q]
      · simp [c1, c2, c3, c4, b1, b2, p]
    rw [rangeD_succ, forGo_cons]
    show (_ ∧ go1 _ (l_f_law_is_six_1 call [some (.frz (L w)), some (.frz (.int (h : Nat))), some (.frz (.int (i : Nat))), some (.frz (.int (j : Nat)))]) = _) ∨ (_ ∧ ∃ y', go1 _ (l_f_law_is_six_1 call [some (.frz (L w)), some (.frz (.int (h : Nat))), some (.frz (.int (i : Nat))), some (.frz (.int (j : Nat)))]) = _)
    rw [st]
    by_cases q : art (w.take h) (w.drop h) i j = true ∧ art (w.take h) (w.drop h) j h = true
    · exact .inl ⟨⟨j, Nat.le_refl _, by omega, q⟩, by rw [if_pos q]; rfl⟩
    · rw [if_neg q, go1_next]
      rcases six_in_law w h i l0 hi hh hb m (j + 1) (some (.frz (.int (j : Nat)))) (by omega) (by omega) with ⟨⟨k, k1, k2, k3⟩, e⟩ | ⟨n, y', e⟩
      · rw [show (((j + 1 : Nat)) : Int) = (j : Int) + 1 by omega] at e
        exact .inl ⟨⟨k, by omega, k2, k3⟩, e⟩
      · rw [show (((j + 1 : Nat)) : Int) = (j : Int) + 1 by omega] at e
        refine .inr ⟨fun ⟨k, k1, k2, k3⟩ => ?_, y', e⟩
        by_cases z : k = j
        · subst z; exact q k3
        · exact n ⟨k, by omega, k2, k3⟩
theorem six_out_law (w : List Int) (h : Nat) (l0 : w.length = 2 * h) (hh : h ≤ 5000) (hb : ∀ v : List Int, v.length < 900000 → call "_law_back" [L v] = some (ow (bck v))) : ∀ (m i : Nat) (y2 y3 : Option O), i + m = h + 1 →
    ((∃ a b, i ≤ a ∧ a ≤ h ∧ b ≤ h ∧ six3 (w.take h) (w.drop h) a b = true) ∧ forGo (.one 2) (l_f_law_is_six_2 call) (rangeD (i : Int) m) [some (.frz (L w)), some (.frz (.int (h : Nat))), y2, y3] = some (.ret (.frz (.bool true)))) ∨
    ((¬ ∃ a b, i ≤ a ∧ a ≤ h ∧ b ≤ h ∧ six3 (w.take h) (w.drop h) a b = true) ∧ ∃ y' y'', forGo (.one 2) (l_f_law_is_six_2 call) (rangeD (i : Int) m) [some (.frz (L w)), some (.frz (.int (h : Nat))), y2, y3] = some (.next [some (.frz (L w)), some (.frz (.int (h : Nat))), y', y'']))
  | 0, i, y2, y3, hi => .inr ⟨fun ⟨a, b, k1, k2, _⟩ => by omega, y2, y3, rfl⟩
  | m + 1, i, y2, y3, hi => by
    have fl : (w.take h).length = h := by rw [List.length_take]; omega
    have c1 : cutI w (some (h : Int)) (some ((h : Int) + i)) = sg (w.drop h) 0 i := by
      rw [cut_two (by omega) (by omega)]
      unfold sg
      rw [List.drop_zero, show ((h : Int) + i).toNat - ((h : Int)).toNat = i - 0 by omega, show ((h : Int)).toNat = h by omega]
    have c2 : cutI w none (some (i : Int)) = sg (w.take h) 0 i := by
      rw [cut_to (by omega), sg_take (by omega)]
      unfold sg
      simp
    have b1 := hb (sg (w.take h) 0 i) (by unfold sg; simp; omega)
    have rl : Rk (i : Int) := Rk_of (by omega) (by omega)
    have rl1 : Rk ((h : Int) + 1) := Rk_of (by omega) (by omega)
    have tn : ((h : Int) + 1 - (i : Int)).toNat = h + 1 - i := by omega
    have st : l_f_law_is_six_2 call [some (.frz (L w)), some (.frz (.int (h : Nat))), some (.frz (.int (i : Nat))), y3] = if art (w.take h) (w.drop h) 0 i = true then forGo (.one 3) (l_f_law_is_six_1 call) (rangeD (i : Int) (h + 1 - i)) [some (.frz (L w)), some (.frz (.int (h : Nat))), some (.frz (.int (i : Nat))), y3] else some (.next [some (.frz (L w)), some (.frz (.int (h : Nat))), some (.frz (.int (i : Nat))), y3]) := by
      rw [la_f_law_is_six_2]
      unfold art
      generalize sg (w.take h) 0 i = x1 at *
      generalize sg (w.drop h) 0 i = x2 at *
      generalize bck x1 = z1 at *
      by_cases p : x2 = z1
      · simp [c1, c2, b1, p, rl, rl1, tn]
      · simp [c1, c2, b1, p]
    have six_of : ∀ b, six3 (w.take h) (w.drop h) i b = true ↔ i ≤ b ∧ art (w.take h) (w.drop h) 0 i = true ∧ art (w.take h) (w.drop h) b h = true ∧ art (w.take h) (w.drop h) i b = true := fun b => by
      unfold six3
      rw [fl]
      simp only [Bool.and_eq_true, decide_eq_true_eq, and_assoc]
    rw [rangeD_succ, forGo_cons]
    show (_ ∧ go1 _ (l_f_law_is_six_2 call [some (.frz (L w)), some (.frz (.int (h : Nat))), some (.frz (.int (i : Nat))), y3]) = _) ∨ (_ ∧ ∃ y' y'', go1 _ (l_f_law_is_six_2 call [some (.frz (L w)), some (.frz (.int (h : Nat))), some (.frz (.int (i : Nat))), y3]) = _)
    rw [st]
    have rest : ∀ y3' : Option O, (¬ ∃ b, b ≤ h ∧ six3 (w.take h) (w.drop h) i b = true) →
        ((∃ a b, i ≤ a ∧ a ≤ h ∧ b ≤ h ∧ six3 (w.take h) (w.drop h) a b = true) ∧ forGo (.one 2) (l_f_law_is_six_2 call) (rangeD ((i : Int) + 1) m) [some (.frz (L w)), some (.frz (.int (h : Nat))), some (.frz (.int (i : Nat))), y3'] = some (.ret (.frz (.bool true)))) ∨
        ((¬ ∃ a b, i ≤ a ∧ a ≤ h ∧ b ≤ h ∧ six3 (w.take h) (w.drop h) a b = true) ∧ ∃ y' y'', forGo (.one 2) (l_f_law_is_six_2 call) (rangeD ((i : Int) + 1) m) [some (.frz (L w)), some (.frz (.int (h : Nat))), some (.frz (.int (i : Nat))), y3'] = some (.next [some (.frz (L w)), some (.frz (.int (h : Nat))), y', y''])) := fun y3' hn => by
      rcases six_out_law w h l0 hh hb m (i + 1) (some (.frz (.int (i : Nat)))) y3' (by omega) with ⟨⟨a, b, k1, k2, k3, k4⟩, e⟩ | ⟨n, y', y'', e⟩
      · rw [show (((i + 1 : Nat)) : Int) = (i : Int) + 1 by omega] at e
        exact .inl ⟨⟨a, b, by omega, k2, k3, k4⟩, e⟩
      · rw [show (((i + 1 : Nat)) : Int) = (i : Int) + 1 by omega] at e
        refine .inr ⟨fun ⟨a, b, k1, k2, k3, k4⟩ => ?_, y', y'', e⟩
        by_cases z : a = i
        · subst z; exact hn ⟨b, k3, k4⟩
        · exact n ⟨a, b, by omega, k2, k3, k4⟩
    by_cases q : art (w.take h) (w.drop h) 0 i = true
    · rw [if_pos q]
      rcases six_in_law call w h i l0 (by omega) hh hb (h + 1 - i) i y3 (by omega) (Nat.le_refl _) with ⟨⟨k, k1, k2, k3, k4⟩, e⟩ | ⟨n, y', e⟩
      · rw [e]
        exact .inl ⟨⟨i, k, Nat.le_refl _, by omega, k2, (six_of k).mpr ⟨k1, q, k4, k3⟩⟩, rfl⟩
      · rw [e, go1_next]
        exact rest y' fun ⟨b, b1, b2⟩ => by
          have := (six_of b).mp b2
          exact n ⟨b, this.1, b1, this.2.2.2, this.2.2.1⟩
    · rw [if_neg q, go1_next]
      exact rest y3 fun ⟨b, b1, b2⟩ => q ((six_of b).mp b2).2.1
theorem R_is_six (w : List Int) (hw : w.length ≤ 10000) (hb : ∀ v : List Int, v.length < 900000 → call "_law_back" [L v] = some (ow (bck v))) : outO (b_f_law_is_six call [some (.frz (L w)), none, none, none]) = some (.frz (.bool (sixB w))) := by
  obtain ⟨h, eh⟩ : ∃ h, h = w.length / 2 := ⟨_, rfl⟩
  have fd : (w.length : Int).fdiv 2 = ((h : Nat) : Int) := by rw [Int.fdiv_eq_ediv_of_nonneg _ (by omega)]; omega
  have md : (w.length : Int).fmod 2 = ((w.length % 2 : Nat) : Int) := by rw [Int.fmod_eq_emod_of_nonneg _ (by omega)]; exact (Int.natCast_emod _ 2).symm
  have rk : Rk ((h : Int) + 1) := Rk_of (by omega) (by omega)
  have tn : ((h : Int) + 1).toNat = h + 1 := by omega
  rw [ba_f_law_is_six]
  have q0 : sSet 1 (eTm (eBin .FloorDiv (eBi "len" [(eName 0)]) (eD (.int 2)))) [some (.frz (L w)), none, none, none] = some (.next [some (.frz (L w)), some (.frz (.int (h : Nat))), none, none]) := by
    simp [fd]
  rw [sSeq_nx q0]
  rcases Nat.mod_two_eq_zero_or_one w.length with h0 | h0
  · rw [h0] at md
    have hB : sixB w = ((List.range (h + 1)).any fun i => (List.range (h + 1)).any fun j => six3 (w.take h) (w.drop h) i j) := by
      unfold sixB
      rw [← eh, decide_eq_true h0, Bool.true_and]
    have q1 : ∀ (B : Stm), sSeq (sIf (tV (eCmp .Eq (eBin .Mod (eBi "len" [(eName 0)]) (eD (.int 2))) (eD (.int 1)))) (sRet (eD (.bool false))) sNext) B [some (.frz (L w)), some (.frz (.int (h : Nat))), none, none] = B [some (.frz (L w)), some (.frz (.int (h : Nat))), none, none] := fun B => by
      refine sSeq_nx ?_
      simp [md]
    rw [q1]
    have q2 : ∀ r, forGo (.one 2) (l_f_law_is_six_2 call) (rangeD ((0 : Nat) : Int) (h + 1)) [some (.frz (L w)), some (.frz (.int (h : Nat))), none, none] = r → sFor (.one 2) (iR1 (eBin .Add (eName 1) (eD (.int 1)))) (l_f_law_is_six_2 call) [some (.frz (L w)), some (.frz (.int (h : Nat))), none, none] = r := fun r hr => by
      rw [← hr, show ((0 : Nat) : Int) = 0 from rfl]
      simp [rk, tn]
    rcases six_out_law call w h (by omega) (by omega) hb (h + 1) 0 none none (by omega) with ⟨⟨a, b, _, k2, k3, k4⟩, e⟩ | ⟨n, y', y'', e⟩
    · have t : sixB w = true := by
        rw [hB]
        exact List.any_eq_true.mpr ⟨a, List.mem_range.mpr (by omega), List.any_eq_true.mpr ⟨b, List.mem_range.mpr (by omega), k4⟩⟩
      rw [t]
      unfold sSeq
      rw [q2 _ e]
      rfl
    · have t : sixB w = false := by
        rw [hB, ← Bool.not_eq_true]
        intro z
        obtain ⟨i, hi, z⟩ := List.any_eq_true.mp z
        obtain ⟨j, hj, z⟩ := List.any_eq_true.mp z
        have hi := List.mem_range.mp hi
        have hj := List.mem_range.mp hj
        exact n ⟨i, j, by omega, by omega, by omega, z⟩
      rw [t, sSeq_nx (q2 _ e)]
      rfl
  · rw [h0] at md
    have t : sixB w = false := by
      unfold sixB
      rw [decide_eq_false (by omega), Bool.false_and]
    rw [t]
    simp [md]
end
end PY
set_option maxHeartbeats 8000000
namespace PY
open PySem L2
/-! ### one commutator -/
theorem mid_nil (a c : List Int) {b : List Int} (h : Eqv b []) : Eqv (a ++ b ++ c) (a ++ c) := Eqv.mid a c h
/-- a commutator of words turned by one word -/
theorem com_turn (h x y : List Int) : Eqv (red (h ++ x ++ bck h) ++ red (h ++ y ++ bck h) ++ bck (red (h ++ x ++ bck h)) ++ bck (red (h ++ y ++ bck h))) (h ++ (x ++ y ++ bck x ++ bck y) ++ bck h) := by
  have e1 := Eqv.red (h ++ x ++ bck h)
  have e2 := Eqv.red (h ++ y ++ bck h)
  refine (((e1.app e2).app e1.bck).app e2.bck).trans ?_
  have b1 : bck (h ++ x ++ bck h) = h ++ bck x ++ bck h := by simp [bck_app, bck_bck]
  have b2 : bck (h ++ y ++ bck h) = h ++ bck y ++ bck h := by simp [bck_app, bck_bck]
  rw [b1, b2]
  have i1 := Eqv.mid (h ++ x) (y ++ bck h ++ (h ++ bck x ++ bck h) ++ (h ++ bck y ++ bck h)) (Eqv.inv' h)
  have i2 := Eqv.mid (h ++ x ++ y) (bck x ++ bck h ++ (h ++ bck y ++ bck h)) (Eqv.inv' h)
  have i3 := Eqv.mid (h ++ x ++ y ++ bck x) (bck y ++ bck h) (Eqv.inv' h)
  simp only [List.append_assoc] at i1 i2 i3 ⊢
  exact i1.trans (i2.trans i3)
/-- x = a b, y = c A -/
theorem com_six (a b c y : List Int) (hy : Eqv y (c ++ bck a)) : Eqv (a ++ b ++ y ++ bck (a ++ b) ++ bck y) (six a b c) := by
  have e := (((Eqv.refl (a ++ b)).app hy).app (Eqv.refl (bck (a ++ b)))).app hy.bck
  refine e.trans ?_
  have b1 : bck (a ++ b) = bck b ++ bck a := bck_app a b
  have b2 : bck (c ++ bck a) = a ++ bck c := by rw [bck_app, bck_bck]
  rw [b1, b2]
  have i1 := Eqv.mid (a ++ b ++ c ++ bck a ++ bck b) (bck c) (Eqv.inv' a)
  unfold six
  simp only [List.append_assoc] at i1 ⊢
  exact i1
theorem rot_front (f c : List Int) (k : Nat) : Eqv (f ++ c.take k ++ rot c k ++ bck (f ++ c.take k)) (f ++ c ++ bck f) := by
  unfold rot
  have e : f ++ c.take k ++ (c.drop k ++ c.take k) ++ bck (f ++ c.take k) = (f ++ c) ++ (c.take k ++ bck (c.take k)) ++ bck f := by
    rw [bck_app]
    have t : c.take k ++ c.drop k = c := List.take_append_drop k c
    calc f ++ c.take k ++ (c.drop k ++ c.take k) ++ (bck (c.take k) ++ bck f) = f ++ (c.take k ++ c.drop k) ++ (c.take k ++ bck (c.take k)) ++ bck f := by simp only [List.append_assoc]
      _ = _ := by rw [t]
  rw [e]
  exact Eqv.mid (f ++ c) (bck f) (Eqv.inv _)
theorem red_lens (w : List Int) : (red w).length ≤ w.length := red_len w
/-- what is told -/
def OneO (w : List Int) (o : O) : Prop := (dueB w = true ∧ ∃ X Y : List Int, o = .otup [.frz (.str "one"), ow X, ow Y] ∧ X.length ≤ 50000 ∧ Y.length ≤ 50000 ∧ Eqv (X ++ Y ++ bck X ++ bck Y) w ∧ ∀ l : Int, Wd l w → Wd l X ∧ Wd l Y) ∨ (dueB w = false ∧ o = .otup [.frz (.str "other")])
section
variable (call : Cal)
theorem R_made (w : List Int) (i j : Nat) (hw : w.length ≤ 10000) (ht : ∀ v : List Int, v.length < 900000 → call "turned_round" [L v] = some (ow (bck v))) (hp : ∀ a b : List Int, a.length ≤ 100000 → b.length ≤ 100000 → call "product" [L a, L b] = some (ow (red (a ++ b)))) :
    outO (b_made_from_parts call [some (.frz (L w)), some (.frz (.int (i : Nat))), some (.frz (.int (j : Nat))), none]) = some (.otup [ow (w.take j), ow (red (sg w j (w.length / 2) ++ bck (w.take i)))]) := by
  obtain ⟨h, eh⟩ : ∃ h, h = w.length / 2 := ⟨_, rfl⟩
  rw [← eh]
  have fd : (w.length : Int).fdiv 2 = ((h : Nat) : Int) := by rw [Int.fdiv_eq_ediv_of_nonneg _ (by omega)]; omega
  have c1 : cutI w none (some (j : Int)) = w.take j := by rw [cut_to (by omega)]; simp
  have c2 : cutI w none (some (i : Int)) = w.take i := by rw [cut_to (by omega)]; simp
  have c3 : cutI w (some (j : Int)) (some (h : Int)) = sg w j h := by rw [cut_two (by omega) (by omega)]; unfold sg; simp
  have t := ht (w.take i) (by simp; omega)
  have p := hp (sg w j h) (bck (w.take i)) (by unfold sg; simp; omega) (by simp; omega)
  have z2 : 2 ≤ sizeLine := Nat.le_of_lt (line_lt (by omega))
  rw [ba_made_from_parts]
  generalize w.take j = x at *
  generalize w.take i = y at *
  generalize sg w j h = z at *
  generalize bck y = v at *
  generalize red (z ++ v) = u at *
  simp [fd, c1, c2, c3, t, p, z2]
theorem one_turn (w f c : List Int) (k : Nat) (hf : f.length ≤ 1000) (hc : c.length ≤ 1000) (h0 : c.length % 2 = 0)
    (hpb : ∀ (c : List Int) (k : Nat), c.length ≤ 100000 → call "put_back" [L c, .int (k : Nat)] = some (ow (rot c k)))
    (h6 : ∀ w : List Int, w.length % 2 = 0 → w.length ≤ 10000 → ∃ o, SixO w o ∧ call "six_parts" [L w] = some o)
    (hm : ∀ (w : List Int) (i j : Nat), w.length ≤ 10000 → call "made_from_parts" [L w, .int (i : Nat), .int (j : Nat)] = some (.otup [ow (w.take j), ow (red (sg w j (w.length / 2) ++ bck (w.take i)))]))
    (htb : ∀ w h : List Int, w.length ≤ 50000 → h.length ≤ 50000 → call "turned_by" [L w, L h] = some (ow (red (h ++ w ++ bck h)))) (y4 y5 y6 y7 : Option O) :
    (sixB (rot c k) = true ∧ ∃ X Y : List Int, X.length ≤ 50000 ∧ Y.length ≤ 50000 ∧ Eqv (X ++ Y ++ bck X ++ bck Y) (f ++ c ++ bck f) ∧ (∀ l : Int, Wd l f → Wd l c → Wd l X ∧ Wd l Y) ∧
      l_one_commutator_1 call [some (.frz (L w)), some (ow f), some (ow c), some (.frz (.int (k : Nat))), y4, y5, y6, y7] = some (.ret (.otup [.frz (.str "one"), ow X, ow Y]))) ∨
    (sixB (rot c k) = false ∧ l_one_commutator_1 call [some (.frz (L w)), some (ow f), some (ow c), some (.frz (.int (k : Nat))), y4, y5, y6, y7] = some (.next [some (.frz (L w)), some (ow f), some (ow c), some (.frz (.int (k : Nat))), some (.frz .none), y5, y6, y7])) := by
  have rl := rot_len c k
  have pb := hpb c k (by omega)
  obtain ⟨o, so, so2⟩ := h6 (rot c k) (by rw [rl]; exact h0) (by omega)
  rcases so with ⟨i, j, hi, hj, s3, rfl⟩ | ⟨rfl, sf⟩
  · obtain ⟨v, ev⟩ : ∃ v, v = rot c k := ⟨_, rfl⟩
    have m := hm (rot c k) i j (by omega)
    rw [← ev] at m s3 pb so2 rl hi hj
    have v0 : v.length % 2 = 0 := by rw [rl]; exact h0
    obtain ⟨l1, l2⟩ := halves v0
    have sx := six3_six (by rw [l1, l2]) (by rw [l1]; exact hi) (by rw [l1]; exact hj) s3
    rw [List.take_append_drop] at sx
    obtain ⟨h, eh⟩ : ∃ h, h = v.length / 2 := ⟨_, rfl⟩
    rw [← eh] at sx m hi hj l1 l2
    have ij : i ≤ j := by
      unfold six3 at s3
      simp only [Bool.and_eq_true, decide_eq_true_eq] at s3
      exact s3.1.1.1
    have t1 : (v.take h).take i ++ sg (v.take h) i j = v.take j := by
      rw [sg_take hj, List.take_take, Nat.min_eq_left hi]
      unfold sg
      have : v.take j = v.take (i + (j - i)) := by congr 1; omega
      rw [this, List.take_add]
    have t2 : (v.take h).drop j = sg v j h := by
      unfold sg
      rw [List.drop_take]
    have t3 : (v.take h).take i = v.take i := by rw [List.take_take, Nat.min_eq_left hi]
    have e6 := com_six ((v.take h).take i) (sg (v.take h) i j) ((v.take h).drop j) (red (sg v j h ++ bck (v.take i))) (by rw [t2, t3]; exact Eqv.red _)
    rw [← sx, t1] at e6
    obtain ⟨x, ex⟩ : ∃ x, x = v.take j := ⟨_, rfl⟩
    obtain ⟨y, ey⟩ : ∃ y, y = red (sg v j h ++ bck (v.take i)) := ⟨_, rfl⟩
    have xl : x.length ≤ 1000 := by rw [ex]; simp; omega
    have yl : y.length ≤ 3000 := by
      rw [ey]
      have := red_len (sg v j h ++ bck (v.take i))
      have z : (sg v j h ++ bck (v.take i)).length ≤ 2000 := by unfold sg; simp; omega
      omega
    have wx : ∀ l : Int, Wd l c → Wd l x ∧ Wd l y := fun l hl => by
      have hv : Wd l v := by rw [ev]; exact Wd_app (Wd_drop _ hl) (Wd_take _ hl)
      refine ⟨by rw [ex]; exact Wd_take _ hv, ?_⟩
      rw [ey]
      exact Wd_red (Wd_app (Wd_take _ (Wd_drop _ hv)) (Wd_bck (Wd_take _ hv)))
    rw [← ex, ← ey] at e6 m
    obtain ⟨g, eg⟩ : ∃ g, g = f ++ c.take k := ⟨_, rfl⟩
    have gl : g.length ≤ 2000 := by rw [eg]; simp; omega
    have tx := htb x g (by omega) (by omega)
    have ty := htb y g (by omega) (by omega)
    have ct := com_turn g x y
    have rf := rot_front f c k
    rw [← eg, ← ev] at rf
    have ee : Eqv (g ++ (x ++ y ++ bck x ++ bck y) ++ bck g) (g ++ v ++ bck g) := ((Eqv.refl g).app e6).app (Eqv.refl _)
    have tot := (ct.trans ee).trans rf
    have wg : ∀ l : Int, Wd l f → Wd l c → Wd l g := fun l h1 h2 => by rw [eg]; exact Wd_app h1 (Wd_take _ h2)
    have lX := red_len (g ++ x ++ bck g)
    have lY := red_len (g ++ y ++ bck g)
    have lX2 : (g ++ x ++ bck g).length ≤ 8000 := by simp; omega
    have lY2 : (g ++ y ++ bck g).length ≤ 8000 := by simp; omega
    refine .inl ⟨by rw [← ev]; exact (sixB_iff v).mpr ⟨_, _, _, sx⟩, red (g ++ x ++ bck g), red (g ++ y ++ bck g), by omega, by omega, tot, fun l h1 h2 => ?_, ?_⟩
    · exact ⟨Wd_red (Wd_app (Wd_app (wg l h1 h2) (wx l h2).1) (Wd_bck (wg l h1 h2))), Wd_red (Wd_app (Wd_app (wg l h1 h2) (wx l h2).2) (Wd_bck (wg l h1 h2)))⟩
    · have c1 : cutI c none (some (k : Int)) = c.take k := by rw [cut_to (by omega)]; simp
      have ad : binV .Add (L f) (L (c.take k)) = some (.own (ow g)) := by rw [eg]; exact add_l (by simp; omega)
      have z3 : 3 ≤ sizeLine := Nat.le_of_lt (line_lt (by omega))
      rw [la_one_commutator_1]
      generalize red (g ++ x ++ bck g) = X at *
      generalize red (g ++ y ++ bck g) = Y at *
      generalize c.take k = ck at *
      clear sx e6 ct ee tot lX lY lX2 lY2 ex ey eg ev rf t1 t2 t3
      simp [pb, so2, m, c1, ad, tx, ty, z3]
  · refine .inr ⟨sf, ?_⟩
    rw [la_one_commutator_1]
    generalize rot c k = v at *
    simp [pb, so2]
theorem one_loop (w f c : List Int) (hf : f.length ≤ 1000) (hc : c.length ≤ 1000) (h0 : c.length % 2 = 0)
    (hpb : ∀ (c : List Int) (k : Nat), c.length ≤ 100000 → call "put_back" [L c, .int (k : Nat)] = some (ow (rot c k)))
    (h6 : ∀ w : List Int, w.length % 2 = 0 → w.length ≤ 10000 → ∃ o, SixO w o ∧ call "six_parts" [L w] = some o)
    (hm : ∀ (w : List Int) (i j : Nat), w.length ≤ 10000 → call "made_from_parts" [L w, .int (i : Nat), .int (j : Nat)] = some (.otup [ow (w.take j), ow (red (sg w j (w.length / 2) ++ bck (w.take i)))]))
    (htb : ∀ w h : List Int, w.length ≤ 50000 → h.length ≤ 50000 → call "turned_by" [L w, L h] = some (ow (red (h ++ w ++ bck h)))) : ∀ (m k : Nat) (y3 y4 y5 y6 y7 : Option O), k + m = max 1 c.length →
    ((∃ k', k' < max 1 c.length ∧ sixB (rot c k') = true) ∧ ∃ X Y : List Int, X.length ≤ 50000 ∧ Y.length ≤ 50000 ∧ Eqv (X ++ Y ++ bck X ++ bck Y) (f ++ c ++ bck f) ∧ (∀ l : Int, Wd l f → Wd l c → Wd l X ∧ Wd l Y) ∧
      forGo (.one 3) (l_one_commutator_1 call) (rangeD (k : Int) m) [some (.frz (L w)), some (ow f), some (ow c), y3, y4, y5, y6, y7] = some (.ret (.otup [.frz (.str "one"), ow X, ow Y]))) ∨
    ((∀ k', k ≤ k' → k' < max 1 c.length → sixB (rot c k') = false) ∧ ∃ t3 t4 t5 t6 t7, forGo (.one 3) (l_one_commutator_1 call) (rangeD (k : Int) m) [some (.frz (L w)), some (ow f), some (ow c), y3, y4, y5, y6, y7] = some (.next [some (.frz (L w)), some (ow f), some (ow c), t3, t4, t5, t6, t7]))
  | 0, k, y3, y4, y5, y6, y7, h => .inr ⟨fun k' h1 h2 => by omega, y3, y4, y5, y6, y7, rfl⟩
  | m + 1, k, y3, y4, y5, y6, y7, h => by
    rw [rangeD_succ, forGo_cons]
    show (_ ∧ ∃ X Y : List Int, _ ∧ _ ∧ _ ∧ _ ∧ go1 _ (l_one_commutator_1 call [some (.frz (L w)), some (ow f), some (ow c), some (.frz (.int (k : Nat))), y4, y5, y6, y7]) = _) ∨ (_ ∧ ∃ t3 t4 t5 t6 t7, go1 _ (l_one_commutator_1 call [some (.frz (L w)), some (ow f), some (ow c), some (.frz (.int (k : Nat))), y4, y5, y6, y7]) = _)
    rcases one_turn call w f c k hf hc h0 hpb h6 hm htb y4 y5 y6 y7 with ⟨s, X, Y, x1, x2, x3, x4, e⟩ | ⟨s, e⟩
    · rw [e]
      exact .inl ⟨⟨k, by omega, s⟩, X, Y, x1, x2, x3, x4, rfl⟩
    · rw [e, go1_next]
      rcases one_loop w f c hf hc h0 hpb h6 hm htb m (k + 1) (some (.frz (.int (k : Nat)))) (some (.frz .none)) y5 y6 y7 (by omega) with ⟨q, X, Y, x1, x2, x3, x4, e2⟩ | ⟨q, t3, t4, t5, t6, t7, e2⟩
      · rw [show (((k + 1 : Nat)) : Int) = (k : Int) + 1 by omega] at e2
        exact .inl ⟨q, X, Y, x1, x2, x3, x4, e2⟩
      · rw [show (((k + 1 : Nat)) : Int) = (k : Int) + 1 by omega] at e2
        refine .inr ⟨fun k' h1 h2 => ?_, t3, t4, t5, t6, t7, e2⟩
        by_cases z : k' = k
        · rw [z]; exact s
        · exact q k' (by omega) h2
theorem R_one_commutator (w : List Int) (hw : w.length ≤ 1000) (hco : call "core_of" [L w] = some (.otup [ow (front w), ow (core w)]))
    (hpb : ∀ (c : List Int) (k : Nat), c.length ≤ 100000 → call "put_back" [L c, .int (k : Nat)] = some (ow (rot c k)))
    (h6 : ∀ w : List Int, w.length % 2 = 0 → w.length ≤ 10000 → ∃ o, SixO w o ∧ call "six_parts" [L w] = some o)
    (hm : ∀ (w : List Int) (i j : Nat), w.length ≤ 10000 → call "made_from_parts" [L w, .int (i : Nat), .int (j : Nat)] = some (.otup [ow (w.take j), ow (red (sg w j (w.length / 2) ++ bck (w.take i)))]))
    (htb : ∀ w h : List Int, w.length ≤ 50000 → h.length ≤ 50000 → call "turned_by" [L w, L h] = some (ow (red (h ++ w ++ bck h)))) :
    ∃ o, OneO w o ∧ outO (b_one_commutator call [some (.frz (L w)), none, none, none, none, none, none, none]) = some o := by
  have cl := core_len w
  have fl : (front w).length ≤ 1000 := by
    unfold front
    have := red_len w
    rw [List.length_take]
    omega
  have pt := parts (w := w) (by omega)
  have ew : Eqv (front w ++ core w ++ bck (front w)) w := by rw [pt]; exact Eqv.red w
  have wf : ∀ l : Int, Wd l w → Wd l (front w) ∧ Wd l (core w) := fun l h => ⟨Wd_front h, Wd_core h⟩
  have dB : dueB w = (rots (core w)).any sixB := rfl
  unfold OneO
  rw [dB]
  have z1 : 1 ≤ sizeLine := Nat.le_of_lt (line_lt (by omega))
  rw [ba_one_commutator]
  generalize front w = f at *
  generalize core w = c at *
  have q0 : sSets [1, 2] (eTm (eCall (call "core_of") [(eName 0)])) [some (.frz (L w)), none, none, none, none, none, none, none] = some (.next [some (.frz (L w)), some (ow f), some (ow c), none, none, none, none, none]) := by
    simp [hco]
  rw [sSeq_nx q0]
  have md : (c.length : Int).fmod 2 = ((c.length % 2 : Nat) : Int) := by rw [Int.fmod_eq_emod_of_nonneg _ (by omega)]; exact (Int.natCast_emod _ 2).symm
  rcases Nat.mod_two_eq_zero_or_one c.length with h0 | h0
  · rw [h0] at md
    have q1 : ∀ B : Stm, sSeq (sIf (tV (eCmp .Eq (eBin .Mod (eBi "len" [(eName 2)]) (eD (.int 2))) (eD (.int 1)))) (sRetT [(eD (.str "other"))]) sNext) B [some (.frz (L w)), some (ow f), some (ow c), none, none, none, none, none] = B [some (.frz (L w)), some (ow f), some (ow c), none, none, none, none, none] := fun B => by
      refine sSeq_nx ?_
      simp [md]
    rw [q1]
    have rk : Rk ((max 1 c.length : Nat) : Int) := Rk_of (by omega) (by omega)
    have q2 : ∀ r, forGo (.one 3) (l_one_commutator_1 call) (rangeD ((0 : Nat) : Int) (max 1 c.length)) [some (.frz (L w)), some (ow f), some (ow c), none, none, none, none, none] = r → sFor (.one 3) (iR1 (eBi "max" [(eD (.int 1)), (eBi "len" [(eName 2)])])) (l_one_commutator_1 call) [some (.frz (L w)), some (ow f), some (ow c), none, none, none, none, none] = r := fun r hr => by
      rw [← hr, show ((0 : Nat) : Int) = 0 from rfl]
      have em : (if (c.length : Int) > 1 then (c.length : Int) else 1) = ((max 1 c.length : Nat) : Int) := by split <;> omega
      generalize max 1 c.length = n at *
      have em' : (if 1 < c.length then (c.length : Int) else 1) = (n : Int) := by
        rw [← em]
        by_cases q : 1 < c.length
        · rw [if_pos q, if_pos (by omega)]
        · rw [if_neg q, if_neg (by omega)]
      have em2 : (if (1 : Int) < (c.length : Int) then (c.length : Int) else 1) = (n : Int) := em
      simp [em', em2, rk]
    rcases one_loop call w f c fl (by omega) h0 hpb h6 hm htb (max 1 c.length) 0 none none none none none (by omega) with ⟨⟨k, k1, k2⟩, X, Y, x1, x2, x3, x4, e⟩ | ⟨n, t3, t4, t5, t6, t7, e⟩
    · refine ⟨_, .inl ⟨List.any_eq_true.mpr ⟨rot c k, mem_rots.mpr ⟨k, k1, rfl⟩, k2⟩, X, Y, rfl, x1, x2, x3.trans ew, fun l h => x4 l (wf l h).1 (wf l h).2⟩, ?_⟩
      unfold sSeq
      rw [q2 _ e]
      rfl
    · refine ⟨_, .inr ⟨?_, rfl⟩, ?_⟩
      · rw [← Bool.not_eq_true]
        intro z
        obtain ⟨v, mv, z⟩ := List.any_eq_true.mp z
        obtain ⟨k, k1, rfl⟩ := mem_rots.mp mv
        rw [n k (by omega) k1] at z
        cases z
      · rw [sSeq_nx (q2 _ e)]
        simp [z1]
  · rw [h0] at md
    refine ⟨_, .inr ⟨?_, rfl⟩, ?_⟩
    · rw [← Bool.not_eq_true]
      intro z
      obtain ⟨v, mv, z⟩ := List.any_eq_true.mp z
      obtain ⟨k, k1, rfl⟩ := mem_rots.mp mv
      unfold sixB at z
      rw [rot_len, h0] at z
      simp at z
    · simp [md, z1]
end
end PY
set_option maxHeartbeats 8000000
namespace PY
open PySem L2
abbrev T3 (X Y : List Int) : D := .tuple [.str "one", L X, L Y]
section
variable (call : Cal)
theorem R_told14 (w : List Int) (sure : Bool) (hw : w.length ≤ 1000) (wd : Wd 4 w) (hsu : sure = true → dueB w = true) (hcore : call "_law_core" [L w] = some (.otup [ow (front w), ow (core w)])) (hturn : call "_law_turns" [L (core w)] = some (.own (mO (rots (core w)))))
    (hsix : ∀ v : List Int, v.length ≤ 10000 → call "_law_is_six" [L v] = some (.frz (.bool (sixB v)))) (hone : ∃ o, OneO w o ∧ call "one_commutator" [L w] = some o)
    (hs1 : Same1 call (.tuple [.str "other"])) (hs2 : ∀ X Y : List Int, X.length ≤ 50000 → Y.length ≤ 50000 → Same1 call (T3 X Y)) (hs3 : Same1 call (.str "one"))
    (hiw : ∀ v : List Int, Wd 4 v → call "_law_is_word" [.int 4, L v] = some (.frz (.bool true))) (hfr : ∀ X Y : List Int, X.length ≤ 50000 → Y.length ≤ 50000 → ∃ o, call "_law_fresh" [T3 X Y] = some o ∧ o.d = T3 X Y ∧ o.self = true)
    (hb : ∀ v : List Int, v.length < 900000 → call "_law_back" [L v] = some (ow (bck v))) (hr : ∀ v : List Int, v.length < 900000 → call "_law_reduced" [L v] = some (ow (red v))) :
    outO (b_f_law_told_14 call [some (.frz (L w)), some (.frz (.bool sure)), none, none, none, none, none, none]) = some (.frz (.bool true)) := by
  obtain ⟨o, ho, h1⟩ := hone
  have cl := core_len w
  have rl : ∀ v ∈ rots (core w), v.length ≤ 1000 := fun v mv => by
    obtain ⟨k, _, rfl⟩ := mem_rots.mp mv
    rw [rot_len]
    omega
  have rn : (rots (core w)).length ≤ 1001 := by
    have g : ∀ m k : Nat, (rotsGo (core w) k m).length = m := fun m => by
      induction m with
      | zero => intro k; rfl
      | succ m ih => intro k; show (rot _ k :: rotsGo _ (k + 1) m).length = _; rw [List.length_cons, ih]
    show (rotsGo (core w) 0 (max 1 (core w).length)).length ≤ 1001
    rw [g]
    omega
  have dB : dueB w = decide ((rots (core w)).filter sixB ≠ []) := by
    unfold dueB
    cases hx : (rots (core w)).any sixB with
    | true =>
      obtain ⟨v, mv, sv⟩ := List.any_eq_true.mp hx
      exact (decide_eq_true (List.ne_nil_of_mem (List.mem_filter.mpr ⟨mv, sv⟩))).symm
    | false =>
      refine (decide_eq_false fun z => z ?_).symm
      rw [List.filter_eq_nil_iff]
      intro v mv sv
      rw [List.any_eq_true.mpr ⟨v, mv, sv⟩] at hx
      cases hx
  have z3 : 3 ≤ sizeLine := Nat.le_of_lt (line_lt (by omega))
  have z1 : 1 ≤ sizeLine := Nat.le_of_lt (line_lt (by omega))
  unfold Same1 at hs1 hs2 hs3
  rw [ba_f_law_told_14]
  have q0 : (sSet 2 (eTm (eCmp .NotEq (eLC [7] (.one 7) (iV (eCall (call "_law_turns") [(eIx (eCall (call "_law_core") [(eName 0)]) (eD (.int 1)))])) (l_f_law_told_14_1 call) (l_f_law_told_14_2 call)) (eList [])))) [some (.frz (L w)), some (.frz (.bool sure)), none, none, none, none, none, none] = some (.next [some (.frz (L w)), some (.frz (.bool sure)), some (.frz (.bool (dueB w))), none, none, none, none, none]) := by
    have key := eLC_fgen (E := [some (.frz (L w)), some (.frz (.bool sure)), none, none, none, none, none, none]) (E0 := [some (.frz (L w)), some (.frz (.bool sure)), none, none, none, none, none, none]) (i := 7) (tst := l_f_law_told_14_1 call) (elt := l_f_law_told_14_2 call) (it := iV (eCall (call "_law_turns") [(eIx (eCall (call "_law_core") [(eName 0)]) (eD (.int 1)))])) (ds := dL (rots (core w))) (by
      generalize rots (core w) = rs at *
      generalize core w = c at *
      simp [hcore, hturn]) rfl L sixB (fun v => .frz (L v)) (ks := rots (core w)) rfl (fun v mv => by
      have s := hsix v (by have := rl v mv; omega)
      show l_f_law_told_14_1 call [some (.frz (L w)), some (.frz (.bool sure)), none, none, none, none, none, some (.frz (L v))] = some (_, [some (.frz (L w)), some (.frz (.bool sure)), none, none, none, none, none, some (.frz (L v))])
      rw [la_f_law_told_14_1]
      generalize sixB v = b at *
      simp [s]) (fun v _ _ => ⟨.frz (L v), [some (.frz (L w)), some (.frz (.bool sure)), none, none, none, none, none, some (.frz (L v))], rfl, rfl⟩) (by omega)
    have mm : ((rots (core w)).filter sixB).map (fun v => O.frz (L v)) = mL ((rots (core w)).filter sixB) := rfl
    rw [mm] at key
    rw [dB]
    generalize (rots (core w)).filter sixB = fs at *
    have eq0 : eqD (.list (dL fs)) (.list []) = some (decide (fs = [])) := eqD_dL fs []
    by_cases q : fs = []
    · subst q
      simp [-eLC_ap, key]
    · simp [-eLC_ap, key, eq0, q]
  rw [sSeq_nx q0]
  have q1 : (sSet 3 (eTm (eBiS "list" (eName 0)))) [some (.frz (L w)), some (.frz (.bool sure)), some (.frz (.bool (dueB w))), none, none, none, none, none] = some (.next [some (.frz (L w)), some (.frz (.bool sure)), some (.frz (.bool (dueB w))), some (ow w), none, none, none, none]) := by
    generalize dueB w = b at *
    simp
  rw [sSeq_nx q1]
  clear dB rl rn hcore hturn hsix
  rcases ho with ⟨du, X, Y, rfl, lX, lY, ee, wXY⟩ | ⟨du, rfl⟩
  · obtain ⟨wX, wY⟩ := wXY 4 wd
    have i1 := hiw X wX
    have i2 := hiw Y wY
    have s2 := hs2 X Y lX lY
    obtain ⟨o5, f1, f2, f3⟩ := hfr X Y lX lY
    obtain ⟨os5, rfl, f4, f5⟩ : ∃ os, o5 = .otup os ∧ O.ds os = [.str "one", L X, L Y] ∧ O.selfs os = true := by
      cases o5 with
      | frz d =>
        have f2 : d = T3 X Y := f2
        subst f2
        cases f3
      | own os => cases f2
      | otup os => exact ⟨os, rfl, by injection f2, f3⟩
    have it : isInst "tuple" (T3 X Y) = some true := rfl
    have b1 := hb X (by omega)
    have b2 := hb Y (by omega)
    have r0 := hr w (by omega)
    have ml : (X ++ Y ++ bck X ++ bck Y).length ≤ 200000 := by simp; omega
    have r1 := hr (X ++ Y ++ bck X ++ bck Y) (by omega)
    have er : red (X ++ Y ++ bck X ++ bck Y) = red w := ee
    rw [er] at r1
    have a1 : binV .Add (L X) (L Y) = some (.own (ow (X ++ Y))) := add_l (by omega)
    have a2 : binV .Add (L (X ++ Y)) (L (bck X)) = some (.own (ow (X ++ Y ++ bck X))) := add_l (by simp; omega)
    have a3 : binV .Add (L (X ++ Y ++ bck X)) (L (bck Y)) = some (.own (ow (X ++ Y ++ bck X ++ bck Y))) := add_l (by simp; omega)
    have lx : X.length < sizeLine := line_lt (by omega)
    have ly : Y.length < sizeLine := line_lt (by omega)
    rw [du]
    clear hiw hs2 hfr hb hr hs1 hsu ee wXY wX wY er ml
    generalize X ++ Y ++ bck X ++ bck Y = M at *
    generalize X ++ Y ++ bck X = M3 at *
    generalize X ++ Y = M2 at *
    generalize bck X = BX at *
    generalize bck Y = BY at *
    generalize red w = R at *
    have q2 : (sSet 4 (eTm (eCall (call "one_commutator") [(eName 3)]))) [some (.frz (L w)), some (.frz (.bool sure)), some (.frz (.bool true)), some (ow w), none, none, none, none] = some (.next [some (.frz (L w)), some (.frz (.bool sure)), some (.frz (.bool true)), some (ow w), some (.otup [.frz (.str "one"), ow X, ow Y]), none, none, none]) := by
      simp [h1]
    rw [sSeq_nx q2]
    have q3 : (sIf (tOr' (tV (eCmp .NotEq (eName 3) (eName 0))) (tAnd' (tV (eName 1)) (tNot' (tV (eName 2)))))
      (sRet (eD (.bool false)))
      sNext) [some (.frz (L w)), some (.frz (.bool sure)), some (.frz (.bool true)), some (ow w), some (.otup [.frz (.str "one"), ow X, ow Y]), none, none, none] = some (.next [some (.frz (L w)), some (.frz (.bool sure)), some (.frz (.bool true)), some (ow w), some (.otup [.frz (.str "one"), ow X, ow Y]), none, none, none]) := by
      cases sure <;> simp
    rw [sSeq_nx q3]
    have q4 : (sIf (tNot' (tV (eName 2)))
      (sRet (eCall (call "_law_same") [(eName 4), (eTup [(eD (.str "other"))])]))
      sNext) [some (.frz (L w)), some (.frz (.bool sure)), some (.frz (.bool true)), some (ow w), some (.otup [.frz (.str "one"), ow X, ow Y]), none, none, none] = some (.next [some (.frz (L w)), some (.frz (.bool sure)), some (.frz (.bool true)), some (ow w), some (.otup [.frz (.str "one"), ow X, ow Y]), none, none, none]) := by
      simp
    rw [sSeq_nx q4]
    have q5 : (sIf (tOr' (tNot' (tV (eIsi "tuple" (eName 4)))) (tOr' (tV (eCmp .NotEq (eBi "len" [(eName 4)]) (eD (.int 3)))) (tOr' (tNot' (tV (eCall (call "_law_same") [(eIx (eName 4) (eD (.int 0))), (eD (.str "one"))]))) (tOr' (tNot' (tV (eCall (call "_law_is_word") [(eD (.int 4)), (eIx (eName 4) (eD (.int 1)))]))) (tNot' (tV (eCall (call "_law_is_word") [(eD (.int 4)), (eIx (eName 4) (eD (.int 2)))])))))))
      (sRet (eD (.bool false)))
      sNext) [some (.frz (L w)), some (.frz (.bool sure)), some (.frz (.bool true)), some (ow w), some (.otup [.frz (.str "one"), ow X, ow Y]), none, none, none] = some (.next [some (.frz (L w)), some (.frz (.bool sure)), some (.frz (.bool true)), some (ow w), some (.otup [.frz (.str "one"), ow X, ow Y]), none, none, none]) := by
      simp [hs3, i1, i2, it]
    rw [sSeq_nx q5]
    have q6 : (sSet 5 (eTm (eCall (call "_law_fresh") [(eName 4)]))) [some (.frz (L w)), some (.frz (.bool sure)), some (.frz (.bool true)), some (ow w), some (.otup [.frz (.str "one"), ow X, ow Y]), none, none, none] = some (.next [some (.frz (L w)), some (.frz (.bool sure)), some (.frz (.bool true)), some (ow w), some (.otup [.frz (.str "one"), ow X, ow Y]), some (.otup os5), none, none]) := by
      simp [f1, f5]
    rw [sSeq_nx q6]
    have q7 : (sSet 6 (eTm (eBin .Add (eBin .Add (eBin .Add (eIx (eName 4) (eD (.int 1))) (eIx (eName 4) (eD (.int 2)))) (eCall (call "_law_back") [(eIx (eName 4) (eD (.int 1)))])) (eCall (call "_law_back") [(eIx (eName 4) (eD (.int 2)))])))) [some (.frz (L w)), some (.frz (.bool sure)), some (.frz (.bool true)), some (ow w), some (.otup [.frz (.str "one"), ow X, ow Y]), some (.otup os5), none, none] = some (.next [some (.frz (L w)), some (.frz (.bool sure)), some (.frz (.bool true)), some (ow w), some (.otup [.frz (.str "one"), ow X, ow Y]), some (.otup os5), some (ow M), none]) := by
      simp [a1, a2, a3, b1, b2, -List.append_assoc]
    rw [sSeq_nx q7]
    have q8 : (sIf (tV (eCmp .NotEq (eCall (call "_law_reduced") [(eName 6)]) (eCall (call "_law_reduced") [(eName 0)])))
      (sRet (eD (.bool false)))
      sNext) [some (.frz (L w)), some (.frz (.bool sure)), some (.frz (.bool true)), some (ow w), some (.otup [.frz (.str "one"), ow X, ow Y]), some (.otup os5), some (ow M), none] = some (.next [some (.frz (L w)), some (.frz (.bool sure)), some (.frz (.bool true)), some (ow w), some (.otup [.frz (.str "one"), ow X, ow Y]), some (.otup os5), some (ow M), none]) := by
      simp [r0, r1]
    rw [sSeq_nx q8]
    have q9 : (sAppend1 4 (eD (.int 1)) (eD (.int 1))) [some (.frz (L w)), some (.frz (.bool sure)), some (.frz (.bool true)), some (ow w), some (.otup [.frz (.str "one"), ow X, ow Y]), some (.otup os5), some (ow M), none] = some (.next [some (.frz (L w)), some (.frz (.bool sure)), some (.frz (.bool true)), some (ow w), some (.otup [.frz (.str "one"), ow (X ++ [1]), ow Y]), some (.otup os5), some (ow M), none]) := by
      have hx : ixN 3 1 = some 1 := rfl
      simp [hx, lx]
    rw [sSeq_nx q9]
    have q10 : (sAppend1 4 (eD (.int 2)) (eD (.int 1))) [some (.frz (L w)), some (.frz (.bool sure)), some (.frz (.bool true)), some (ow w), some (.otup [.frz (.str "one"), ow (X ++ [1]), ow Y]), some (.otup os5), some (ow M), none] = some (.next [some (.frz (L w)), some (.frz (.bool sure)), some (.frz (.bool true)), some (ow w), some (.otup [.frz (.str "one"), ow (X ++ [1]), ow (Y ++ [1])]), some (.otup os5), some (ow M), none]) := by
      have hx : ixN 3 2 = some 2 := rfl
      simp [hx, ly]
    rw [sSeq_nx q10]
    simp [h1, f4, s2]
  · clear hiw hs2 hfr hb hr hs3
    rw [du]
    have q2 : (sSet 4 (eTm (eCall (call "one_commutator") [(eName 3)]))) [some (.frz (L w)), some (.frz (.bool sure)), some (.frz (.bool false)), some (ow w), none, none, none, none] = some (.next [some (.frz (L w)), some (.frz (.bool sure)), some (.frz (.bool false)), some (ow w), some (.otup [.frz (.str "other")]), none, none, none]) := by
      simp [h1]
    rw [sSeq_nx q2]
    have q3 : (sIf (tOr' (tV (eCmp .NotEq (eName 3) (eName 0))) (tAnd' (tV (eName 1)) (tNot' (tV (eName 2)))))
      (sRet (eD (.bool false)))
      sNext) [some (.frz (L w)), some (.frz (.bool sure)), some (.frz (.bool false)), some (ow w), some (.otup [.frz (.str "other")]), none, none, none] = some (.next [some (.frz (L w)), some (.frz (.bool sure)), some (.frz (.bool false)), some (ow w), some (.otup [.frz (.str "other")]), none, none, none]) := by
      cases sure with
      | true => exact absurd (hsu rfl) (by rw [du]; decide)
      | false => simp
    rw [sSeq_nx q3]
    simp [hs1, z1]
end
end PY
set_option maxHeartbeats 8000000
namespace PY
open PySem L2
theorem cs_six {a b c : List Int} (ha : nz a) (hb : nz b) (hc : nz c) (h : a.length + b.length + c.length < 100000) : dueB (six a b c) = true := dueB_of (wicks a b c ha hb hc h)
theorem cs_com {a b : List Int} (ha : nz a) (hb : nz b) (h : a.length + b.length < 100000) : CSix (core (a ++ b ++ bck a ++ bck b)) := by
  have e : six a b [] = a ++ b ++ bck a ++ bck b := by unfold six bck; simp
  rw [← e]
  exact wicks a b [] ha hb nz_nil6 (by simpa using h)
theorem cs_conj {h w : List Int} (hh : nz h) (hw : nz w) (c : CSix (core w)) (hl : w.length + 2 * h.length < 700000) : CSix (core (h ++ w ++ bck h)) := c.rot (core_conj h w hh hw hl)
theorem cs_cut {w : List Int} (k : Nat) (hw : nz w) (c : CSix (core w)) (hl : 4 * w.length < 700000) : CSix (core (w.drop k ++ w.take k)) := by
  refine CSix.rot ?_ (core_swap (w.take k) (w.drop k) (fun x m => hw x (List.mem_of_mem_take m)) (fun x m => hw x (List.mem_of_mem_drop m)) (by
    have h1 : (w.take k).length ≤ w.length := by rw [List.length_take]; omega
    have h2 : (w.drop k).length ≤ w.length := by rw [List.length_drop]; omega
    omega))
  rw [List.take_append_drop]
  exact c
theorem Wd_cut14 {l : Int} {w : List Int} (h : Wd l w) (lo hi : Option Int) : Wd l (cutI w lo hi) := fun x m => h x (List.mem_of_mem_drop (List.mem_of_mem_take m))
theorem cut_le14 (w : List Int) (lo hi : Option Int) : (cutI w lo hi).length ≤ w.length := by
  unfold cutI
  rw [List.length_take, List.length_drop]
  omega
theorem Wd_le {l : Int} {w : List Int} (hl : l ≤ 4) (h : Wd l w) : Wd 4 w := fun x m => ⟨(h x m).1, by have := (h x m).2; omega, by have := (h x m).2; omega⟩
theorem p14_0 (a b c d e : D) : pickL [a, b, c, d, e] (some 0) none 2 = [a, c, e] := by kernel_rfl
theorem p14_1 (a b c d e : D) : pickL [a, b, c, d, e] (some 1) none 2 = [b, d] := by kernel_rfl
theorem rep_two (w : List Int) : (List.replicate 2 w).flatten = w ++ w := by simp [List.replicate]
theorem due_l0 : dueB [] = true := by decide +kernel
theorem due_l1 : dueB [1, 2, -1, -2] = true := by decide +kernel
theorem due_l2 : dueB [1, 1, 2, -1, -1, -2] = true := by decide +kernel
theorem due_l3 : dueB [1, -1] = true := by decide +kernel
theorem due_n1 : dueB [1, 2, -1, -2, 1, 2, -1, -2] = false := by decide +kernel
theorem due_n2 : dueB [1, 1] = false := by decide +kernel
section
variable (call : Cal)
abbrev Told14 (call : Cal) : Prop := ∀ (w : List Int) (b : Bool), w.length ≤ 1000 → Wd 4 w → (b = true → dueB w = true) → call "_law_told" [L w, .bool b] = some (.frz (.bool true))
abbrev Word14 (call : Cal) : Prop := ∀ (ds : List Int) (a l c : Int), 0 < ds.length → ds.length < 1000000 → 1 ≤ l → l ≤ 1000 → 0 ≤ c → c < 100000 → ∃ ws : List Int, ws.length = c.toNat ∧ Wd l ws ∧ call "_law_word" [L ds, .int a, .int l, .int c] = some (ow ws)
theorem loop14 (ht : Told14 call) {e0 e1 e2 e3 e4 e5 e6 e7 e8 e9 e11 e12 e13 e14 e15 : Option O} : ∀ (ws : List (List Int)) (y : Option O), (∀ w ∈ ws, w.length ≤ 1000 ∧ Wd 4 w) →
    ∃ y', forGo (.one 10) (l_law_15_2 call) (dL ws) [e0, e1, e2, e3, e4, e5, e6, e7, e8, e9, y, e11, e12, e13, e14, e15] = some (.next [e0, e1, e2, e3, e4, e5, e6, e7, e8, e9, y', e11, e12, e13, e14, e15])
  | [], y, _ => ⟨y, rfl⟩
  | w :: ws, y, h => by
    have h0 := h w List.mem_cons_self
    obtain ⟨y', e⟩ := loop14 ht (e0 := e0) (e1 := e1) (e2 := e2) (e3 := e3) (e4 := e4) (e5 := e5) (e6 := e6) (e7 := e7) (e8 := e8) (e9 := e9) (e11 := e11) (e12 := e12) (e13 := e13) (e14 := e14) (e15 := e15) ws (some (.frz (L w))) (fun x m => h x (List.mem_cons_of_mem _ m))
    have t := ht w false h0.1 h0.2 (fun z => nomatch z)
    refine ⟨y', ?_⟩
    rw [dL_cons, forGo_cons]
    show go1 _ (l_law_15_2 call [e0, e1, e2, e3, e4, e5, e6, e7, e8, e9, some (.frz (L w)), e11, e12, e13, e14, e15]) = _
    have st : l_law_15_2 call [e0, e1, e2, e3, e4, e5, e6, e7, e8, e9, some (.frz (L w)), e11, e12, e13, e14, e15] = some (.next [e0, e1, e2, e3, e4, e5, e6, e7, e8, e9, some (.frz (L w)), e11, e12, e13, e14, e15]) := by
      rw [la_law_15_2]
      simp [t]
    rw [st]
    exact e
def ls14 : List (List Int × Bool) := [([], true), ([1], false), ([1, 2, -1, -2], true), ([1, 1, 2, -1, -1, -2], true), ([1, 2, -1, -2, 1, 2, -1, -2], false), ([1, 2], false), ([1, -1], true)]
theorem lit14 (ht : Told14 call) {e0 e1 e2 e3 e4 e5 e6 e7 e8 e9 e11 e12 e13 e15 : Option O} : ∀ (ps : List (List Int × Bool)) (y z : Option O), (∀ p ∈ ps, p.1.length ≤ 1000 ∧ Wd 4 p.1 ∧ (p.2 = true → dueB p.1 = true)) →
    ∃ y' z', forGo (.many [10, 14]) (l_law_15_4 call) (ps.map fun p => .tuple [L p.1, .bool p.2]) [e0, e1, e2, e3, e4, e5, e6, e7, e8, e9, y, e11, e12, e13, z, e15] = some (.next [e0, e1, e2, e3, e4, e5, e6, e7, e8, e9, y', e11, e12, e13, z', e15])
  | [], y, z, _ => ⟨y, z, rfl⟩
  | (w, b) :: ps, y, z, h => by
    have h0 := h (w, b) List.mem_cons_self
    obtain ⟨y', z', e⟩ := lit14 ht (e0 := e0) (e1 := e1) (e2 := e2) (e3 := e3) (e4 := e4) (e5 := e5) (e6 := e6) (e7 := e7) (e8 := e8) (e9 := e9) (e11 := e11) (e12 := e12) (e13 := e13) (e15 := e15) ps (some (.frz (L w))) (some (.frz (.bool b))) (fun x m => h x (List.mem_cons_of_mem _ m))
    have t := ht w b h0.1 h0.2.1 h0.2.2
    refine ⟨y', z', ?_⟩
    rw [List.map_cons, forGo_cons]
    show go1 _ (l_law_15_4 call [e0, e1, e2, e3, e4, e5, e6, e7, e8, e9, some (.frz (L w)), e11, e12, e13, some (.frz (.bool b)), e15]) = _
    have st : l_law_15_4 call [e0, e1, e2, e3, e4, e5, e6, e7, e8, e9, some (.frz (L w)), e11, e12, e13, some (.frz (.bool b)), e15] = some (.next [e0, e1, e2, e3, e4, e5, e6, e7, e8, e9, some (.frz (L w)), e11, e12, e13, some (.frz (.bool b)), e15]) := by
      rw [la_law_15_4]
      simp [t]
    rw [st]
    exact e
theorem R_law14 (ns : List Int) (hdr : ∃ ds : List Int, ds.length = 60 ∧ Dr ds ∧ call "_law_draws" [L ns, .int 60] = some (ow ds)) (hwo : Word14 call)
    (hso : ∀ (ds : List Int) (a l : Int), 0 ≤ a → a + 5 ≤ ds.length → ds.length < 1000000 → 1 ≤ l → l ≤ 1000 → ∃ ws : List Int, ws.length ≤ 20 ∧ Wd l ws ∧ call "_law_some_word" [L ds, .int a, .int l] = some (ow ws))
    (hco : ∀ a b : List Int, a.length ≤ 10000 → b.length ≤ 10000 → call "_law_commutator" [L a, L b] = some (ow (a ++ b ++ bck a ++ bck b))) (hb : ∀ v : List Int, v.length < 900000 → call "_law_back" [L v] = some (ow (bck v))) (ht : Told14 call)
    (hone : ∀ w : List Int, w.length ≤ 1000 → ∃ o, OneO w o ∧ call "one_commutator" [L w] = some o) (hs1 : Same1 call (.tuple [.str "other"])) :
    outO (b_law_15 call [some (.frz (L ns)), none, none, none, none, none, none, none, none, none, none, none, none, none, none, none]) = some (.frz (.bool true)) := by
  obtain ⟨ds, hd1, hd2, hd3⟩ := hdr
  have at1 : ∀ k : Nat, k < 60 → ∃ d : Int, atI ds (k : Int) = some d := fun k hk => ⟨_, by rw [atI_nat']; exact List.getElem?_eq_getElem (by omega)⟩
  obtain ⟨d50, ed50⟩ := at1 50 (by omega)
  rw [show ((50 : Nat) : Int) = 50 from rfl] at ed50
  obtain ⟨d51, ed51⟩ := at1 51 (by omega)
  rw [show ((51 : Nat) : Int) = 51 from rfl] at ed51
  obtain ⟨d52, ed52⟩ := at1 52 (by omega)
  rw [show ((52 : Nat) : Int) = 52 from rfl] at ed52
  obtain ⟨d53, ed53⟩ := at1 53 (by omega)
  rw [show ((53 : Nat) : Int) = 53 from rfl] at ed53
  obtain ⟨d54, ed54⟩ := at1 54 (by omega)
  rw [show ((54 : Nat) : Int) = 54 from rfl] at ed54
  obtain ⟨d55, ed55⟩ := at1 55 (by omega)
  rw [show ((55 : Nat) : Int) = 55 from rfl] at ed55
  obtain ⟨d56, ed56⟩ := at1 56 (by omega)
  rw [show ((56 : Nat) : Int) = 56 from rfl] at ed56
  obtain ⟨d57, ed57⟩ := at1 57 (by omega)
  rw [show ((57 : Nat) : Int) = 57 from rfl] at ed57
  obtain ⟨d58, ed58⟩ := at1 58 (by omega)
  rw [show ((58 : Nat) : Int) = 58 from rfl] at ed58
  obtain ⟨d59, ed59⟩ := at1 59 (by omega)
  rw [show ((59 : Nat) : Int) = 59 from rfl] at ed59
  have dl0 : 0 < ds.length := by omega
  have dl1 : ds.length < 1000000 := by omega
  obtain ⟨l, hl⟩ : ∃ l : Int, l = 1 + d50.fmod 4 := ⟨_, rfl⟩
  have lr : 1 ≤ l ∧ l ≤ 4 := by
    have := fmod_rng d50 (n := 4) (by omega)
    omega
  have wo : ∀ (a c : Int) (n : Int), 0 < n → n ≤ 100 → ∃ ws : List Int, ws.length ≤ n.toNat ∧ Wd 4 ws ∧ call "_law_word" [L ds, .int a, .int l, .int (c.fmod n)] = some (ow ws) := fun a c n h1 h2 => by
    have := fmod_rng c h1
    obtain ⟨ws, w1, w2, w3⟩ := hwo ds a l (c.fmod n) dl0 dl1 lr.1 (by omega) this.1 (by omega)
    exact ⟨ws, by omega, Wd_le lr.2 w2, w3⟩
  obtain ⟨one, o1, o2, o3⟩ := wo 0 d51 6 (by omega) (by omega)
  obtain ⟨oth, t1, t2, t3⟩ := wo 6 d52 6 (by omega) (by omega)
  obtain ⟨h, h1, h2, h3⟩ := wo 12 d53 4 (by omega) (by omega)
  obtain ⟨pa, pa1, pa2, pa3⟩ := wo 16 d54 5 (by omega) (by omega)
  obtain ⟨pb, pb1, pb2, pb3⟩ := wo 20 d55 5 (by omega) (by omega)
  obtain ⟨pc, pc1, pc2, pc3⟩ := wo 24 d56 5 (by omega) (by omega)
  obtain ⟨wa, wa1, wa2, wa3⟩ := wo 0 d54 20 (by omega) (by omega)
  obtain ⟨wb, wb1, wb2, wb3⟩ := wo 9 d55 20 (by omega) (by omega)
  obtain ⟨wc, wc1, wc2, wc3⟩ := wo 18 d56 20 (by omega) (by omega)
  obtain ⟨fr, fr1, fr2', fr3⟩ := hso ds 30 l (by omega) (by omega) dl1 lr.1 (by omega)
  have fr2 := Wd_le lr.2 fr2'
  have e6 : (6 : Int).toNat = 6 := rfl
  have e4 : (4 : Int).toNat = 4 := rfl
  have e5 : (5 : Int).toNat = 5 := rfl
  have e20 : (20 : Int).toNat = 20 := rfl
  rw [e6] at o1 t1
  rw [e4] at h1
  rw [e5] at pa1 pb1 pc1
  rw [e20] at wa1 wb1 wc1
  have cm := hco one oth (by omega) (by omega)
  have cmp := hco pa pb (by omega) (by omega)
  have bh := hb h (by omega)
  have six_sum : ∀ a b c : List Int, a.length ≤ 100 → b.length ≤ 100 → c.length ≤ 100 → binV .Add (L a) (L b) = some (.own (ow (a ++ b))) ∧ binV .Add (L (a ++ b)) (L c) = some (.own (ow (a ++ b ++ c))) ∧ binV .Add (L (a ++ b ++ c)) (L (bck a)) = some (.own (ow (a ++ b ++ c ++ bck a))) ∧
      binV .Add (L (a ++ b ++ c ++ bck a)) (L (bck b)) = some (.own (ow (a ++ b ++ c ++ bck a ++ bck b))) ∧ binV .Add (L (a ++ b ++ c ++ bck a ++ bck b)) (L (bck c)) = some (.own (ow (six a b c))) := fun a b c ha hb hc => by
    refine ⟨add_l (by omega), add_l (by simp; omega), add_l (by simp; omega), add_l (by simp; omega), ?_⟩
    have := add_l (xs := a ++ b ++ c ++ bck a ++ bck b) (ys := bck c) (by simp; omega)
    exact this
  obtain ⟨sa1, sa2, sa3, sa4, sa5⟩ := six_sum pa pb pc (by omega) (by omega) (by omega)
  obtain ⟨sb1, sb2, sb3, sb4, sb5⟩ := six_sum wa wb wc (by omega) (by omega) (by omega)
  have Wsix : ∀ a b c : List Int, Wd 4 a → Wd 4 b → Wd 4 c → Wd 4 (six a b c) := fun a b c h1 h2 h3 => Wd_app (Wd_app (Wd_app (Wd_app (Wd_app h1 h2) h3) (Wd_bck h1)) (Wd_bck h2)) (Wd_bck h3)
  obtain ⟨s, es⟩ : ∃ s, s = six pa pb pc := ⟨_, rfl⟩
  obtain ⟨g, eg⟩ : ∃ g, g = six wa wb wc := ⟨_, rfl⟩
  have s2 : Wd 4 s := by rw [es]; exact Wsix pa pb pc pa2 pb2 pc2
  have g2 : Wd 4 g := by rw [eg]; exact Wsix wa wb wc wa2 wb2 wc2
  have s1 : s.length ≤ 100 := by rw [es, six_len]; omega
  have g1 : g.length ≤ 200 := by rw [eg, six_len]; omega
  have scs : CSix (core s) := by rw [es]; exact wicks pa pb pc pa2.nz pb2.nz pc2.nz (by omega)
  have gcs : CSix (core g) := by rw [eg]; exact wicks wa wb wc wa2.nz wb2.nz wc2.nz (by omega)
  rw [← es] at sa5
  rw [← eg] at sb5
  obtain ⟨C, eC⟩ : ∃ C, C = one ++ oth ++ bck one ++ bck oth := ⟨_, rfl⟩
  obtain ⟨P, eP⟩ : ∃ P, P = pa ++ pb ++ bck pa ++ bck pb := ⟨_, rfl⟩
  have C1 : C.length ≤ 100 := by rw [eC]; simp; omega
  have P1 : P.length ≤ 100 := by rw [eP]; simp; omega
  have C2 : Wd 4 C := by rw [eC]; exact Wd_app (Wd_app (Wd_app o2 t2) (Wd_bck o2)) (Wd_bck t2)
  have P2 : Wd 4 P := by rw [eP]; exact Wd_app (Wd_app (Wd_app pa2 pb2) (Wd_bck pa2)) (Wd_bck pb2)
  have Ccs : CSix (core C) := by rw [eC]; exact cs_com o2.nz t2.nz (by omega)
  rw [← eC] at cm
  rw [← eP] at cmp
  obtain ⟨k, ek, kl⟩ : ∃ k : Nat, d57.fmod ((s.length : Int) + 1) = (k : Int) ∧ k ≤ s.length := by
    have := fmod_rng d57 (n := (s.length : Int) + 1) (by omega)
    exact ⟨(d57.fmod ((s.length : Int) + 1)).toNat, by omega, by omega⟩
  obtain ⟨k2, ek2, kl2⟩ : ∃ k : Nat, d57.fmod ((g.length : Int) + 1) = (k : Int) ∧ k ≤ g.length := by
    have := fmod_rng d57 (n := (g.length : Int) + 1) (by omega)
    exact ⟨(d57.fmod ((g.length : Int) + 1)).toNat, by omega, by omega⟩
  have nk : ¬ ((s.length : Int) + 1 = 0) := by omega
  have nk2 : ¬ ((g.length : Int) + 1 = 0) := by omega
  have lh : ∀ w : List Int, w.length ≤ 200 → (h ++ w ++ bck h).length ≤ 1000 := fun w hw => by simp; omega
  have Wh : ∀ w : List Int, Wd 4 w → Wd 4 (h ++ w ++ bck h) := fun w hw => Wd_app (Wd_app h2 hw) (Wd_bck h2)
  -- what is told
  have tC := ht C true (by omega) C2 fun _ => dueB_of Ccs
  have tC2 := ht (h ++ C ++ bck h) true (lh C (by omega)) (Wh C C2) fun _ => dueB_of (cs_conj h2.nz C2.nz Ccs (by omega))
  have ts := ht s true (by omega) s2 fun _ => dueB_of scs
  obtain ⟨z, ez⟩ : ∃ z, z = s.drop k ++ s.take k := ⟨_, rfl⟩
  have z1' : z.length = s.length := by rw [ez]; simp; omega
  have z2 : Wd 4 z := by rw [ez]; exact Wd_app (Wd_drop _ s2) (Wd_take _ s2)
  have zcs : CSix (core z) := by rw [ez]; exact cs_cut k s2.nz scs (by omega)
  have tz := ht (h ++ z ++ bck h) true (lh z (by omega)) (Wh z z2) fun _ => dueB_of (cs_conj h2.nz z2.nz zcs (by omega))
  obtain ⟨y, ey⟩ : ∃ y, y = g.drop k2 ++ g.take k2 := ⟨_, rfl⟩
  have y1 : y.length = g.length := by rw [ey]; simp; omega
  have y2 : Wd 4 y := by rw [ey]; exact Wd_app (Wd_drop _ g2) (Wd_take _ g2)
  have ty := ht y true (by omega) y2 fun _ => by rw [ey]; exact dueB_of (cs_cut k2 g2.nz gcs (by omega))
  obtain ⟨v1, ev1⟩ : ∃ v, v = cutI g none (some (-2)) := ⟨_, rfl⟩
  obtain ⟨v2, ev2⟩ : ∃ v, v = cutI g (some (-1)) none := ⟨_, rfl⟩
  have v1l : v1.length ≤ 200 := by rw [ev1]; have := cut_le14 g none (some (-2)); omega
  have v2l : v2.length ≤ 200 := by rw [ev2]; have := cut_le14 g (some (-1)) none; omega
  have v12 : Wd 4 (v1 ++ v2) := by rw [ev1, ev2]; exact Wd_app (Wd_cut14 g2 _ _) (Wd_cut14 g2 _ _)
  have tv := ht (v1 ++ v2) false (by simp; omega) v12 (fun q => nomatch q)
  obtain ⟨s', es'⟩ : ∃ s', s' = cutI s none (some (-1)) := ⟨_, rfl⟩
  have s'1 : s'.length ≤ 100 := by rw [es']; have := cut_le14 s none (some (-1)); omega
  have s'2 : Wd 4 s' := by rw [es']; exact Wd_cut14 s2 _ _
  -- sums
  have b1 := hb pa (by omega)
  have b2 := hb pb (by omega)
  have b3 := hb pc (by omega)
  have b4 := hb wa (by omega)
  have b5 := hb wb (by omega)
  have b6 := hb wc (by omega)
  have ah1 : binV .Add (L h) (L C) = some (.own (ow (h ++ C))) := add_l (by omega)
  have ah2 : binV .Add (L (h ++ C)) (L (bck h)) = some (.own (ow (h ++ C ++ bck h))) := add_l (by simp; omega)
  have c1 : cutI s (some (k : Int)) none = s.drop k := by rw [cut_from (by omega)]; simp
  have c2 : cutI s none (some (k : Int)) = s.take k := by rw [cut_to (by omega)]; simp
  have c3 : cutI g (some (k2 : Int)) none = g.drop k2 := by rw [cut_from (by omega)]; simp
  have c4 : cutI g none (some (k2 : Int)) = g.take k2 := by rw [cut_to (by omega)]; simp
  have az1 : binV .Add (L h) (L (s.drop k)) = some (.own (ow (h ++ s.drop k))) := add_l (by simp; omega)
  have az2 : binV .Add (L (h ++ s.drop k)) (L (s.take k)) = some (.own (ow (h ++ z))) := by
    have := add_l (xs := h ++ s.drop k) (ys := s.take k) (by simp; omega)
    rw [List.append_assoc, ← ez] at this
    exact this
  have az3 : binV .Add (L (h ++ z)) (L (bck h)) = some (.own (ow (h ++ z ++ bck h))) := add_l (by simp; omega)
  have ay : binV .Add (L (g.drop k2)) (L (g.take k2)) = some (.own (ow y)) := by rw [ey]; exact add_l (by simp; omega)
  have av : binV .Add (L v1) (L v2) = some (.own (ow (v1 ++ v2))) := add_l (by omega)
  have aCP : binV .Add (L C) (L P) = some (.own (ow (C ++ P))) := add_l (by omega)
  have ass : binV .Add (L s) (L s) = some (.own (ow (s ++ s))) := add_l (by omega)
  have mC : binV .Mult (L C) (.int 2) = some (.own (ow (C ++ C))) := by
    have := rep_li (xs := C) (i := 2) (by omega) (by omega) (by omega)
    rw [show (2 : Int).toNat = 2 from rfl, rep_two] at this
    exact this
  have mL1 : binV .Mult (L [1, 2, -1, -2]) (.int 2) = some (.own (ow [1, 2, -1, -2, 1, 2, -1, -2])) := by
    have := rep_li (xs := [1, 2, -1, -2]) (i := 2) (by omega) (by omega) (by simp)
    rw [show (2 : Int).toNat = 2 from rfl, rep_two] at this
    exact this
  obtain ⟨q1, hq1, hc1⟩ := hone [1, 2, -1, -2, 1, 2, -1, -2] (by simp)
  obtain ⟨q2, hq2, hc2⟩ := hone [1, 1] (by simp)
  have hq1 : q1 = .otup [.frz (.str "other")] := by
    rcases hq1 with ⟨d, _⟩ | ⟨_, e⟩
    · rw [due_n1] at d; cases d
    · exact e
  have hq2 : q2 = .otup [.frz (.str "other")] := by
    rcases hq2 with ⟨d, _⟩ | ⟨_, e⟩
    · rw [due_n2] at d; cases d
    · exact e
  subst hq1
  subst hq2
  have z9 : 9 ≤ sizeLine := Nat.le_of_lt (line_lt (by omega))
  have zz : ∀ n : Nat, n ≤ 9 → n ≤ sizeLine := fun n hn => by omega
  have sm4 : Sm 4 := Sm_of (by omega) (by omega)
  have sm9 : Sm 9 := Sm_of (by omega) (by omega)
  have zs1 := zz 1 (by omega)
  have zs2 := zz 2 (by omega)
  have zs3 := zz 3 (by omega)
  have zs4 := zz 4 (by omega)
  have zs5 := zz 5 (by omega)
  have zs6 := zz 6 (by omega)
  have zs7 := zz 7 (by omega)
  unfold Same1 at hs1
  clear hso hco hb hone six_sum Wsix lh Wh hwo wo
  rw [ba_law_15]
  have q0 : (sSet 1 (eTm (eCall (call "_law_draws") [(eName 0), (eD (.int 60))]))) [some (.frz (L ns)), none, none, none, none, none, none, none, none, none, none, none, none, none, none, none] = some (.next [some (.frz (L ns)), some (ow ds), none, none, none, none, none, none, none, none, none, none, none, none, none, none]) := by
    clear ht
    simp [hd3]
  rw [sSeq_nx q0]
  have q1 : (sSet 2 (eTm (eBin .Add (eD (.int 1)) (eBin .Mod (eIx (eName 1) (eD (.int 50))) (eD (.int 4)))))) [some (.frz (L ns)), some (ow ds), none, none, none, none, none, none, none, none, none, none, none, none, none, none] = some (.next [some (.frz (L ns)), some (ow ds), some (.frz (.int l)), none, none, none, none, none, none, none, none, none, none, none, none, none]) := by
    clear ht
    simp [ed50, ← hl]
  rw [sSeq_nx q1]
  have q2 : (sSet 3 (eTm (eCall (call "_law_word") [(eName 1), (eD (.int 0)), (eName 2), (eBin .Mod (eIx (eName 1) (eD (.int 51))) (eD (.int 6)))]))) [some (.frz (L ns)), some (ow ds), some (.frz (.int l)), none, none, none, none, none, none, none, none, none, none, none, none, none] = some (.next [some (.frz (L ns)), some (ow ds), some (.frz (.int l)), some (ow one), none, none, none, none, none, none, none, none, none, none, none, none]) := by
    clear ht
    simp [ed51, o3]
  rw [sSeq_nx q2]
  have q3 : (sSet 4 (eTm (eCall (call "_law_word") [(eName 1), (eD (.int 6)), (eName 2), (eBin .Mod (eIx (eName 1) (eD (.int 52))) (eD (.int 6)))]))) [some (.frz (L ns)), some (ow ds), some (.frz (.int l)), some (ow one), none, none, none, none, none, none, none, none, none, none, none, none] = some (.next [some (.frz (L ns)), some (ow ds), some (.frz (.int l)), some (ow one), some (ow oth), none, none, none, none, none, none, none, none, none, none, none]) := by
    clear ht
    simp [ed52, t3]
  rw [sSeq_nx q3]
  have q4 : (sSet 5 (eTm (eCall (call "_law_word") [(eName 1), (eD (.int 12)), (eName 2), (eBin .Mod (eIx (eName 1) (eD (.int 53))) (eD (.int 4)))]))) [some (.frz (L ns)), some (ow ds), some (.frz (.int l)), some (ow one), some (ow oth), none, none, none, none, none, none, none, none, none, none, none] = some (.next [some (.frz (L ns)), some (ow ds), some (.frz (.int l)), some (ow one), some (ow oth), some (ow h), none, none, none, none, none, none, none, none, none, none]) := by
    clear ht
    simp [ed53, h3]
  rw [sSeq_nx q4]
  have q5 : (sSet 6 (eLC [15] (.one 15) (iR1 (eD (.int 3))) tTrue (l_law_15_1 call))) [some (.frz (L ns)), some (ow ds), some (.frz (.int l)), some (ow one), some (ow oth), some (ow h), none, none, none, none, none, none, none, none, none, none] = some (.next [some (.frz (L ns)), some (ow ds), some (.frz (.int l)), some (ow one), some (ow oth), some (ow h), some (.own [ow pa, ow pb, ow pc]), none, none, none, none, none, none, none, none, none]) := by
    clear ht
    have key := eLC_gen (E := [some (.frz (L ns)), some (ow ds), some (.frz (.int l)), some (ow one), some (ow oth), some (ow h), none, none, none, none, none, none, none, none, none, none]) (E0 := [some (.frz (L ns)), some (ow ds), some (.frz (.int l)), some (ow one), some (ow oth), some (ow h), none, none, none, none, none, none, none, none, none, none]) (i := 15) (elt := l_law_15_1 call) (it := iR1 (eD (.int 3))) (ds := [.int ((0 : Nat) : Int), .int ((1 : Nat) : Int), .int ((2 : Nat) : Int)]) (by
      have rk : Rk 3 := Rk_of (by omega) (by omega)
      simp [rk]
      rfl) rfl (fun k : Nat => .int (k : Nat)) (fun k => ow (if k = 0 then pa else if k = 1 then pb else pc)) (ks := [0, 1, 2]) rfl (fun k mk => by
      have hk : k = 0 ∨ k = 1 ∨ k = 2 := by simpa using mk
      rcases hk with rfl | rfl | rfl
      · refine ⟨.own (ow pa), [some (.frz (L ns)), some (ow ds), some (.frz (.int l)), some (ow one), some (ow oth), some (ow h), none, none, none, none, none, none, none, none, none, some (.frz (.int ((0 : Nat) : Int)))], ?_, rfl⟩
        show l_law_15_1 call [some (.frz (L ns)), some (ow ds), some (.frz (.int l)), some (ow one), some (ow oth), some (ow h), none, none, none, none, none, none, none, none, none, some (.frz (.int ((0 : Nat) : Int)))] = _
        rw [la_law_15_1]
        simp [ed54, ed55, ed56, mul_l sm4, mul_l sm9, pa3]
      · refine ⟨.own (ow pb), [some (.frz (L ns)), some (ow ds), some (.frz (.int l)), some (ow one), some (ow oth), some (ow h), none, none, none, none, none, none, none, none, none, some (.frz (.int ((1 : Nat) : Int)))], ?_, rfl⟩
        show l_law_15_1 call [some (.frz (L ns)), some (ow ds), some (.frz (.int l)), some (ow one), some (ow oth), some (ow h), none, none, none, none, none, none, none, none, none, some (.frz (.int ((1 : Nat) : Int)))] = _
        rw [la_law_15_1]
        simp [ed54, ed55, ed56, mul_l sm4, mul_l sm9, pb3]
      · refine ⟨.own (ow pc), [some (.frz (L ns)), some (ow ds), some (.frz (.int l)), some (ow one), some (ow oth), some (ow h), none, none, none, none, none, none, none, none, none, some (.frz (.int ((2 : Nat) : Int)))], ?_, rfl⟩
        show l_law_15_1 call [some (.frz (L ns)), some (ow ds), some (.frz (.int l)), some (ow one), some (ow oth), some (ow h), none, none, none, none, none, none, none, none, none, some (.frz (.int ((2 : Nat) : Int)))] = _
        rw [la_law_15_1]
        simp [ed54, ed55, ed56, mul_l sm4, mul_l sm9, pc3]) (by simp)
    have mm : ([0, 1, 2] : List Nat).map (fun k => ow (if k = 0 then pa else if k = 1 then pb else pc)) = [ow pa, ow pb, ow pc] := rfl
    rw [mm] at key
    simp [-eLC_ap, key]
  rw [sSeq_nx q5]
  have q6 : (sSet 7 (eTm (eBin .Add (eBin .Add (eBin .Add (eBin .Add (eBin .Add (eIx (eName 6) (eD (.int 0))) (eIx (eName 6) (eD (.int 1)))) (eIx (eName 6) (eD (.int 2)))) (eCall (call "_law_back") [(eIx (eName 6) (eD (.int 0)))])) (eCall (call "_law_back") [(eIx (eName 6) (eD (.int 1)))])) (eCall (call "_law_back") [(eIx (eName 6) (eD (.int 2)))])))) [some (.frz (L ns)), some (ow ds), some (.frz (.int l)), some (ow one), some (ow oth), some (ow h), some (.own [ow pa, ow pb, ow pc]), none, none, none, none, none, none, none, none, none] = some (.next [some (.frz (L ns)), some (ow ds), some (.frz (.int l)), some (ow one), some (ow oth), some (ow h), some (.own [ow pa, ow pb, ow pc]), some (ow s), none, none, none, none, none, none, none, none]) := by
    clear ht
    simp [b1, b2, b3, sa1, sa2, sa3, sa4, sa5, -List.append_assoc]
  rw [sSeq_nx q6]
  have q7 : (sSet 8 (eTm (eBin .Mod (eIx (eName 1) (eD (.int 57))) (eBin .Add (eBi "len" [(eName 7)]) (eD (.int 1)))))) [some (.frz (L ns)), some (ow ds), some (.frz (.int l)), some (ow one), some (ow oth), some (ow h), some (.own [ow pa, ow pb, ow pc]), some (ow s), none, none, none, none, none, none, none, none] = some (.next [some (.frz (L ns)), some (ow ds), some (.frz (.int l)), some (ow one), some (ow oth), some (ow h), some (.own [ow pa, ow pb, ow pc]), some (ow s), some (.frz (.int (k : Nat))), none, none, none, none, none, none, none]) := by
    clear ht
    simp [ed57, ek, nk]
  rw [sSeq_nx q7]
  have q8 : (sIf (tOr' (tNot' (tV (eCall (call "_law_told") [(eCall (call "_law_commutator") [(eName 3), (eName 4)]), (eD (.bool true))]))) (tNot' (tV (eCall (call "_law_told") [(eBin .Add (eBin .Add (eName 5) (eCall (call "_law_commutator") [(eName 3), (eName 4)])) (eCall (call "_law_back") [(eName 5)])), (eD (.bool true))]))))
    (sRet (eD (.bool false)))
    sNext) [some (.frz (L ns)), some (ow ds), some (.frz (.int l)), some (ow one), some (ow oth), some (ow h), some (.own [ow pa, ow pb, ow pc]), some (ow s), some (.frz (.int (k : Nat))), none, none, none, none, none, none, none] = some (.next [some (.frz (L ns)), some (ow ds), some (.frz (.int l)), some (ow one), some (ow oth), some (ow h), some (.own [ow pa, ow pb, ow pc]), some (ow s), some (.frz (.int (k : Nat))), none, none, none, none, none, none, none]) := by
    clear ht
    simp [cm, tC, ah1, ah2, bh, tC2, -List.append_assoc]
  rw [sSeq_nx q8]
  have q9 : (sIf (tOr' (tNot' (tV (eCall (call "_law_told") [(eBin .Add (eBin .Add (eBin .Add (eName 5) (eSl (eName 7) (some (eName 8)) none)) (eSl (eName 7) none (some (eName 8)))) (eCall (call "_law_back") [(eName 5)])), (eD (.bool true))]))) (tNot' (tV (eCall (call "_law_told") [(eName 7), (eD (.bool true))]))))
    (sRet (eD (.bool false)))
    sNext) [some (.frz (L ns)), some (ow ds), some (.frz (.int l)), some (ow one), some (ow oth), some (ow h), some (.own [ow pa, ow pb, ow pc]), some (ow s), some (.frz (.int (k : Nat))), none, none, none, none, none, none, none] = some (.next [some (.frz (L ns)), some (ow ds), some (.frz (.int l)), some (ow one), some (ow oth), some (ow h), some (.own [ow pa, ow pb, ow pc]), some (ow s), some (.frz (.int (k : Nat))), none, none, none, none, none, none, none]) := by
    clear ht
    generalize s.drop k = sd at *
    generalize s.take k = st at *
    simp [c1, c2, az1, az2, az3, bh, tz, ts, -List.append_assoc]
  rw [sSeq_nx q9]
  have q10 : (sSet 9 (eTm (eCall (call "_law_some_word") [(eName 1), (eD (.int 30)), (eName 2)]))) [some (.frz (L ns)), some (ow ds), some (.frz (.int l)), some (ow one), some (ow oth), some (ow h), some (.own [ow pa, ow pb, ow pc]), some (ow s), some (.frz (.int (k : Nat))), none, none, none, none, none, none, none] = some (.next [some (.frz (L ns)), some (ow ds), some (.frz (.int l)), some (ow one), some (ow oth), some (ow h), some (.own [ow pa, ow pb, ow pc]), some (ow s), some (.frz (.int (k : Nat))), some (ow fr), none, none, none, none, none, none]) := by
    clear ht
    simp [fr3]
  rw [sSeq_nx q10]
  obtain ⟨y10, q11⟩ : ∃ y10, (sFor (.one 10) (iV (eStp (eList [(eName 9), (eBin .Add (eCall (call "_law_commutator") [(eName 3), (eName 4)]) (eCall (call "_law_commutator") [(eIx (eName 6) (eD (.int 0))), (eIx (eName 6) (eD (.int 1)))])), (eSl (eName 7) none (some (eNeg (eD (.int 1))))), (eBin .Add (eName 7) (eName 7)), (eBin .Mult (eCall (call "_law_commutator") [(eName 3), (eName 4)]) (eD (.int 2)))]) (some (eBin .Mod (eIx (eName 1) (eD (.int 59))) (eD (.int 2)))) none 2)) (l_law_15_2 call)) [some (.frz (L ns)), some (ow ds), some (.frz (.int l)), some (ow one), some (ow oth), some (ow h), some (.own [ow pa, ow pb, ow pc]), some (ow s), some (.frz (.int (k : Nat))), some (ow fr), none, none, none, none, none, none] = some (.next [some (.frz (L ns)), some (ow ds), some (.frz (.int l)), some (ow one), some (ow oth), some (ow h), some (.frz (.list [L pa, L pb, L pc])), some (ow s), some (.frz (.int (k : Nat))), some (.frz (L fr)), y10, none, none, none, none, none]) := by
    have par := fmod_rng d59 (n := 2) (by omega)
    have w5 : Wd 4 (C ++ P) := Wd_app C2 P2
    have w6 : Wd 4 (s ++ s) := Wd_app s2 s2
    have w7 : Wd 4 (C ++ C) := Wd_app C2 C2
    have it : iV (eStp (eList [(eName 9), (eBin .Add (eCall (call "_law_commutator") [(eName 3), (eName 4)]) (eCall (call "_law_commutator") [(eIx (eName 6) (eD (.int 0))), (eIx (eName 6) (eD (.int 1)))])), (eSl (eName 7) none (some (eNeg (eD (.int 1))))), (eBin .Add (eName 7) (eName 7)), (eBin .Mult (eCall (call "_law_commutator") [(eName 3), (eName 4)]) (eD (.int 2)))]) (some (eBin .Mod (eIx (eName 1) (eD (.int 59))) (eD (.int 2)))) none 2) [some (.frz (L ns)), some (ow ds), some (.frz (.int l)), some (ow one), some (ow oth), some (ow h), some (.own [ow pa, ow pb, ow pc]), some (ow s), some (.frz (.int (k : Nat))), some (ow fr), none, none, none, none, none, none] = some (dL (if d59.fmod 2 = 0 then [fr, s', C ++ C] else [C ++ P, s ++ s]), [some (.frz (L ns)), some (ow ds), some (.frz (.int l)), some (ow one), some (ow oth), some (ow h), some (.frz (.list [L pa, L pb, L pc])), some (ow s), some (.frz (.int (k : Nat))), some (.frz (L fr)), none, none, none, none, none, none]) := by
      clear ht
      rcases (show d59.fmod 2 = 0 ∨ d59.fmod 2 = 1 by omega) with q | q
      · rw [q, if_pos rfl]
        simp [cm, cmp, aCP, ← es', ass, mC, ed59, q, zs5, p14_0, stpV_list, mkL, zs3, -List.append_assoc]
        rfl
      · rw [q, if_neg (by decide)]
        simp [cm, cmp, aCP, ← es', ass, mC, ed59, q, zs5, p14_1, stpV_list, mkL, zs2, -List.append_assoc]
        rfl
    obtain ⟨y', e⟩ := loop14 call ht (e0 := some (.frz (L ns))) (e1 := some (ow ds)) (e2 := some (.frz (.int l))) (e3 := some (ow one)) (e4 := some (ow oth)) (e5 := some (ow h)) (e6 := some (.frz (.list [L pa, L pb, L pc]))) (e7 := some (ow s)) (e8 := some (.frz (.int (k : Nat)))) (e9 := some (.frz (L fr))) (e11 := none) (e12 := none) (e13 := none) (e14 := none) (e15 := none) (if d59.fmod 2 = 0 then [fr, s', C ++ C] else [C ++ P, s ++ s]) none (fun w mw => by
      split at mw
      · simp only [List.mem_cons, List.not_mem_nil, or_false] at mw
        rcases mw with rfl | rfl | rfl
        · exact ⟨by omega, fr2⟩
        · exact ⟨by omega, s'2⟩
        · exact ⟨by simp; omega, w7⟩
      · simp only [List.mem_cons, List.not_mem_nil, or_false] at mw
        rcases mw with rfl | rfl
        · exact ⟨by simp; omega, w5⟩
        · exact ⟨by simp; omega, w6⟩)
    refine ⟨y', ?_⟩
    show for1 _ _ (iV _ _) = _
    rw [it, for1_s]
    exact e
  rw [sSeq_nx q11]
  have ti : (tV (eCmp .Eq (eBin .Mod (eIx (eName 1) (eD (.int 58))) (eD (.int 16))) (eD (.int 5)))) [some (.frz (L ns)), some (ow ds), some (.frz (.int l)), some (ow one), some (ow oth), some (ow h), some (.frz (.list [L pa, L pb, L pc])), some (ow s), some (.frz (.int (k : Nat))), some (.frz (L fr)), y10, none, none, none, none, none] = some (decide (d58.fmod 16 = 5), [some (.frz (L ns)), some (ow ds), some (.frz (.int l)), some (ow one), some (ow oth), some (ow h), some (.frz (.list [L pa, L pb, L pc])), some (ow s), some (.frz (.int (k : Nat))), some (.frz (L fr)), y10, none, none, none, none, none]) := by
    clear ht
    simp [ed58]
  obtain ⟨f11, f12, f13, q12⟩ : ∃ f11 f12 f13, (sIf (tV (eCmp .Eq (eBin .Mod (eIx (eName 1) (eD (.int 58))) (eD (.int 16))) (eD (.int 5))))
    (sSeq (sSet 11 (eLC [15] (.one 15) (iR1 (eD (.int 3))) tTrue (l_law_15_3 call)))
    (sSeq (sSet 12 (eTm (eBin .Add (eBin .Add (eBin .Add (eBin .Add (eBin .Add (eIx (eName 11) (eD (.int 0))) (eIx (eName 11) (eD (.int 1)))) (eIx (eName 11) (eD (.int 2)))) (eCall (call "_law_back") [(eIx (eName 11) (eD (.int 0)))])) (eCall (call "_law_back") [(eIx (eName 11) (eD (.int 1)))])) (eCall (call "_law_back") [(eIx (eName 11) (eD (.int 2)))]))))
    (sSeq (sSet 13 (eTm (eBin .Mod (eIx (eName 1) (eD (.int 57))) (eBin .Add (eBi "len" [(eName 12)]) (eD (.int 1))))))
    (sIf (tOr' (tNot' (tV (eCall (call "_law_told") [(eBin .Add (eSl (eName 12) (some (eName 13)) none) (eSl (eName 12) none (some (eName 13)))), (eD (.bool true))]))) (tNot' (tV (eCall (call "_law_told") [(eBin .Add (eSl (eName 12) none (some (eNeg (eD (.int 2))))) (eSl (eName 12) (some (eNeg (eD (.int 1)))) none)), (eD (.bool false))]))))
    (sRet (eD (.bool false)))
    sNext))))
    sNext) [some (.frz (L ns)), some (ow ds), some (.frz (.int l)), some (ow one), some (ow oth), some (ow h), some (.frz (.list [L pa, L pb, L pc])), some (ow s), some (.frz (.int (k : Nat))), some (.frz (L fr)), y10, none, none, none, none, none] = some (.next [some (.frz (L ns)), some (ow ds), some (.frz (.int l)), some (ow one), some (ow oth), some (ow h), some (.frz (.list [L pa, L pb, L pc])), some (ow s), some (.frz (.int (k : Nat))), some (.frz (L fr)), y10, f11, f12, f13, none, none]) := by
    by_cases q : d58.fmod 16 = 5
    · refine ⟨some (.own [ow wa, ow wb, ow wc]), some (ow g), some (.frz (.int (k2 : Nat))), ?_⟩
      rw [decide_eq_true q] at ti
      show if1 _ _ (_) = _
      rw [ti]
      show (sSeq (sSet 11 (eLC [15] (.one 15) (iR1 (eD (.int 3))) tTrue (l_law_15_3 call)))
    (sSeq (sSet 12 (eTm (eBin .Add (eBin .Add (eBin .Add (eBin .Add (eBin .Add (eIx (eName 11) (eD (.int 0))) (eIx (eName 11) (eD (.int 1)))) (eIx (eName 11) (eD (.int 2)))) (eCall (call "_law_back") [(eIx (eName 11) (eD (.int 0)))])) (eCall (call "_law_back") [(eIx (eName 11) (eD (.int 1)))])) (eCall (call "_law_back") [(eIx (eName 11) (eD (.int 2)))]))))
    (sSeq (sSet 13 (eTm (eBin .Mod (eIx (eName 1) (eD (.int 57))) (eBin .Add (eBi "len" [(eName 12)]) (eD (.int 1))))))
    (sIf (tOr' (tNot' (tV (eCall (call "_law_told") [(eBin .Add (eSl (eName 12) (some (eName 13)) none) (eSl (eName 12) none (some (eName 13)))), (eD (.bool true))]))) (tNot' (tV (eCall (call "_law_told") [(eBin .Add (eSl (eName 12) none (some (eNeg (eD (.int 2))))) (eSl (eName 12) (some (eNeg (eD (.int 1)))) none)), (eD (.bool false))]))))
    (sRet (eD (.bool false)))
    sNext)))) [some (.frz (L ns)), some (ow ds), some (.frz (.int l)), some (ow one), some (ow oth), some (ow h), some (.frz (.list [L pa, L pb, L pc])), some (ow s), some (.frz (.int (k : Nat))), some (.frz (L fr)), y10, none, none, none, none, none] = _
      have q0 : (sSet 11 (eLC [15] (.one 15) (iR1 (eD (.int 3))) tTrue (l_law_15_3 call))) [some (.frz (L ns)), some (ow ds), some (.frz (.int l)), some (ow one), some (ow oth), some (ow h), some (.frz (.list [L pa, L pb, L pc])), some (ow s), some (.frz (.int (k : Nat))), some (.frz (L fr)), y10, none, none, none, none, none] = some (.next [some (.frz (L ns)), some (ow ds), some (.frz (.int l)), some (ow one), some (ow oth), some (ow h), some (.frz (.list [L pa, L pb, L pc])), some (ow s), some (.frz (.int (k : Nat))), some (.frz (L fr)), y10, some (.own [ow wa, ow wb, ow wc]), none, none, none, none]) := by
        clear ht
        have key := eLC_gen (E := [some (.frz (L ns)), some (ow ds), some (.frz (.int l)), some (ow one), some (ow oth), some (ow h), some (.frz (.list [L pa, L pb, L pc])), some (ow s), some (.frz (.int (k : Nat))), some (.frz (L fr)), y10, none, none, none, none, none]) (E0 := [some (.frz (L ns)), some (ow ds), some (.frz (.int l)), some (ow one), some (ow oth), some (ow h), some (.frz (.list [L pa, L pb, L pc])), some (ow s), some (.frz (.int (k : Nat))), some (.frz (L fr)), y10, none, none, none, none, none]) (i := 15) (elt := l_law_15_3 call) (it := iR1 (eD (.int 3))) (ds := [.int ((0 : Nat) : Int), .int ((1 : Nat) : Int), .int ((2 : Nat) : Int)]) (by
          have rk : Rk 3 := Rk_of (by omega) (by omega)
          simp [rk]
          rfl) rfl (fun k : Nat => .int (k : Nat)) (fun k => ow (if k = 0 then wa else if k = 1 then wb else wc)) (ks := [0, 1, 2]) rfl (fun k mk => by
          have hk : k = 0 ∨ k = 1 ∨ k = 2 := by simpa using mk
          rcases hk with rfl | rfl | rfl
          · refine ⟨.own (ow wa), [some (.frz (L ns)), some (ow ds), some (.frz (.int l)), some (ow one), some (ow oth), some (ow h), some (.frz (.list [L pa, L pb, L pc])), some (ow s), some (.frz (.int (k : Nat))), some (.frz (L fr)), y10, none, none, none, none, some (.frz (.int ((0 : Nat) : Int)))], ?_, rfl⟩
            show l_law_15_3 call [some (.frz (L ns)), some (ow ds), some (.frz (.int l)), some (ow one), some (ow oth), some (ow h), some (.frz (.list [L pa, L pb, L pc])), some (ow s), some (.frz (.int (k : Nat))), some (.frz (L fr)), y10, none, none, none, none, some (.frz (.int ((0 : Nat) : Int)))] = _
            rw [la_law_15_3]
            simp [ed54, ed55, ed56, mul_l sm4, mul_l sm9, wa3]
          · refine ⟨.own (ow wb), [some (.frz (L ns)), some (ow ds), some (.frz (.int l)), some (ow one), some (ow oth), some (ow h), some (.frz (.list [L pa, L pb, L pc])), some (ow s), some (.frz (.int (k : Nat))), some (.frz (L fr)), y10, none, none, none, none, some (.frz (.int ((1 : Nat) : Int)))], ?_, rfl⟩
            show l_law_15_3 call [some (.frz (L ns)), some (ow ds), some (.frz (.int l)), some (ow one), some (ow oth), some (ow h), some (.frz (.list [L pa, L pb, L pc])), some (ow s), some (.frz (.int (k : Nat))), some (.frz (L fr)), y10, none, none, none, none, some (.frz (.int ((1 : Nat) : Int)))] = _
            rw [la_law_15_3]
            simp [ed54, ed55, ed56, mul_l sm4, mul_l sm9, wb3]
          · refine ⟨.own (ow wc), [some (.frz (L ns)), some (ow ds), some (.frz (.int l)), some (ow one), some (ow oth), some (ow h), some (.frz (.list [L pa, L pb, L pc])), some (ow s), some (.frz (.int (k : Nat))), some (.frz (L fr)), y10, none, none, none, none, some (.frz (.int ((2 : Nat) : Int)))], ?_, rfl⟩
            show l_law_15_3 call [some (.frz (L ns)), some (ow ds), some (.frz (.int l)), some (ow one), some (ow oth), some (ow h), some (.frz (.list [L pa, L pb, L pc])), some (ow s), some (.frz (.int (k : Nat))), some (.frz (L fr)), y10, none, none, none, none, some (.frz (.int ((2 : Nat) : Int)))] = _
            rw [la_law_15_3]
            simp [ed54, ed55, ed56, mul_l sm4, mul_l sm9, wc3]) (by simp)
        have mm : ([0, 1, 2] : List Nat).map (fun k => ow (if k = 0 then wa else if k = 1 then wb else wc)) = [ow wa, ow wb, ow wc] := rfl
        rw [mm] at key
        simp [-eLC_ap, key]
      rw [sSeq_nx q0]
      have q1 : (sSet 12 (eTm (eBin .Add (eBin .Add (eBin .Add (eBin .Add (eBin .Add (eIx (eName 11) (eD (.int 0))) (eIx (eName 11) (eD (.int 1)))) (eIx (eName 11) (eD (.int 2)))) (eCall (call "_law_back") [(eIx (eName 11) (eD (.int 0)))])) (eCall (call "_law_back") [(eIx (eName 11) (eD (.int 1)))])) (eCall (call "_law_back") [(eIx (eName 11) (eD (.int 2)))])))) [some (.frz (L ns)), some (ow ds), some (.frz (.int l)), some (ow one), some (ow oth), some (ow h), some (.frz (.list [L pa, L pb, L pc])), some (ow s), some (.frz (.int (k : Nat))), some (.frz (L fr)), y10, some (.own [ow wa, ow wb, ow wc]), none, none, none, none] = some (.next [some (.frz (L ns)), some (ow ds), some (.frz (.int l)), some (ow one), some (ow oth), some (ow h), some (.frz (.list [L pa, L pb, L pc])), some (ow s), some (.frz (.int (k : Nat))), some (.frz (L fr)), y10, some (.own [ow wa, ow wb, ow wc]), some (ow g), none, none, none]) := by
        clear ht
        simp [b4, b5, b6, sb1, sb2, sb3, sb4, sb5, -List.append_assoc]
      rw [sSeq_nx q1]
      have q2 : (sSet 13 (eTm (eBin .Mod (eIx (eName 1) (eD (.int 57))) (eBin .Add (eBi "len" [(eName 12)]) (eD (.int 1)))))) [some (.frz (L ns)), some (ow ds), some (.frz (.int l)), some (ow one), some (ow oth), some (ow h), some (.frz (.list [L pa, L pb, L pc])), some (ow s), some (.frz (.int (k : Nat))), some (.frz (L fr)), y10, some (.own [ow wa, ow wb, ow wc]), some (ow g), none, none, none] = some (.next [some (.frz (L ns)), some (ow ds), some (.frz (.int l)), some (ow one), some (ow oth), some (ow h), some (.frz (.list [L pa, L pb, L pc])), some (ow s), some (.frz (.int (k : Nat))), some (.frz (L fr)), y10, some (.own [ow wa, ow wb, ow wc]), some (ow g), some (.frz (.int (k2 : Nat))), none, none]) := by
        clear ht
        simp [ed57, ek2, nk2]
      rw [sSeq_nx q2]
      clear ht
      generalize g.drop k2 = gd at *
      generalize g.take k2 = gt at *
      simp [c3, c4, ay, ty, ← ev1, ← ev2, av, tv, -List.append_assoc]
    · refine ⟨none, none, none, ?_⟩
      rw [decide_eq_false q] at ti
      show if1 _ _ (_) = _
      rw [ti]
      rfl
  rw [sSeq_nx q12]
  obtain ⟨y10', z14, q13⟩ : ∃ y10' z14, (sFor (.many [10, 14]) (iV (eList [(eTup [(eList []), (eD (.bool true))]), (eTup [(eList [(eD (.int 1))]), (eD (.bool false))]), (eTup [(eList [(eD (.int 1)), (eD (.int 2)), (eNeg (eD (.int 1))), (eNeg (eD (.int 2)))]), (eD (.bool true))]), (eTup [(eList [(eD (.int 1)), (eD (.int 1)), (eD (.int 2)), (eNeg (eD (.int 1))), (eNeg (eD (.int 1))), (eNeg (eD (.int 2)))]), (eD (.bool true))]), (eTup [(eBin .Mult (eList [(eD (.int 1)), (eD (.int 2)), (eNeg (eD (.int 1))), (eNeg (eD (.int 2)))]) (eD (.int 2))), (eD (.bool false))]), (eTup [(eList [(eD (.int 1)), (eD (.int 2))]), (eD (.bool false))]), (eTup [(eList [(eD (.int 1)), (eNeg (eD (.int 1)))]), (eD (.bool true))])])) (l_law_15_4 call)) [some (.frz (L ns)), some (ow ds), some (.frz (.int l)), some (ow one), some (ow oth), some (ow h), some (.frz (.list [L pa, L pb, L pc])), some (ow s), some (.frz (.int (k : Nat))), some (.frz (L fr)), y10, f11, f12, f13, none, none] = some (.next [some (.frz (L ns)), some (ow ds), some (.frz (.int l)), some (ow one), some (ow oth), some (ow h), some (.frz (.list [L pa, L pb, L pc])), some (ow s), some (.frz (.int (k : Nat))), some (.frz (L fr)), y10', f11, f12, f13, z14, none]) := by
    have it : iV (eList [(eTup [(eList []), (eD (.bool true))]), (eTup [(eList [(eD (.int 1))]), (eD (.bool false))]), (eTup [(eList [(eD (.int 1)), (eD (.int 2)), (eNeg (eD (.int 1))), (eNeg (eD (.int 2)))]), (eD (.bool true))]), (eTup [(eList [(eD (.int 1)), (eD (.int 1)), (eD (.int 2)), (eNeg (eD (.int 1))), (eNeg (eD (.int 1))), (eNeg (eD (.int 2)))]), (eD (.bool true))]), (eTup [(eBin .Mult (eList [(eD (.int 1)), (eD (.int 2)), (eNeg (eD (.int 1))), (eNeg (eD (.int 2)))]) (eD (.int 2))), (eD (.bool false))]), (eTup [(eList [(eD (.int 1)), (eD (.int 2))]), (eD (.bool false))]), (eTup [(eList [(eD (.int 1)), (eNeg (eD (.int 1)))]), (eD (.bool true))])]) [some (.frz (L ns)), some (ow ds), some (.frz (.int l)), some (ow one), some (ow oth), some (ow h), some (.frz (.list [L pa, L pb, L pc])), some (ow s), some (.frz (.int (k : Nat))), some (.frz (L fr)), y10, f11, f12, f13, none, none] = some (ls14.map fun p => .tuple [L p.1, .bool p.2], [some (.frz (L ns)), some (ow ds), some (.frz (.int l)), some (ow one), some (ow oth), some (ow h), some (.frz (.list [L pa, L pb, L pc])), some (ow s), some (.frz (.int (k : Nat))), some (.frz (L fr)), y10, f11, f12, f13, none, none]) := by
      clear ht
      have hd : dI [1, 2, -1, -2, 1, 2, -1, -2] = dI [1, 2, -1, -2, 1, 2, -1, -2] := rfl
      simp [zs1, zs2, zs4, zs6, zs7, mL1]
      rfl
    obtain ⟨y', z', e⟩ := lit14 call ht (e0 := some (.frz (L ns))) (e1 := some (ow ds)) (e2 := some (.frz (.int l))) (e3 := some (ow one)) (e4 := some (ow oth)) (e5 := some (ow h)) (e6 := some (.frz (.list [L pa, L pb, L pc]))) (e7 := some (ow s)) (e8 := some (.frz (.int (k : Nat)))) (e9 := some (.frz (L fr))) (e11 := f11) (e12 := f12) (e13 := f13) (e15 := none) ls14 y10 none (fun p mp => by
      have W : ∀ w : List Int, (w.all fun i => decide (i ≠ 0 ∧ -4 ≤ i ∧ i ≤ 4)) = true → Wd 4 w := fun w hw x mx => of_decide_eq_true (List.all_eq_true.mp hw x mx)
      unfold ls14 at mp
      simp only [List.mem_cons, List.not_mem_nil, or_false] at mp
      rcases mp with rfl | rfl | rfl | rfl | rfl | rfl | rfl
      · exact ⟨by decide, W _ (by decide), fun _ => due_l0⟩
      · exact ⟨by decide, W _ (by decide), fun z => nomatch z⟩
      · exact ⟨by decide, W _ (by decide), fun _ => due_l1⟩
      · exact ⟨by decide, W _ (by decide), fun _ => due_l2⟩
      · exact ⟨by decide, W _ (by decide), fun z => nomatch z⟩
      · exact ⟨by decide, W _ (by decide), fun z => nomatch z⟩
      · exact ⟨by decide, W _ (by decide), fun _ => due_l3⟩)
    refine ⟨y', z', ?_⟩
    show for1 _ _ (iV _ _) = _
    rw [it, for1_s]
    exact e
  rw [sSeq_nx q13]
  clear ht
  simp [zs4, zs2, zs1, mL1, hc1, hc2, hs1]

end
end PY
set_option maxHeartbeats 8000000
namespace Lw
open PySem L2 PY
def topS (i : Nat) : Stmt := PySem.Challenge.pw_wordscancel_k14_one_commutator.main.body.getD i (.Pass ⟨0, 0, 0, 0⟩)
def d_reduced : DefI := ⟨"reduced", ["word", "found", "number"], ["word"], topS 1⟩
theorem st_reduced : DefStat d_reduced := ⟨⟨rfl, rfl, rfl, by decide +kernel, rfl, by decide +kernel, by decide +kernel⟩, fun _ _ _ _ _ _ us hl => match us, hl with | [_], _ => rfl⟩
def d_product : DefI := ⟨"product", ["first", "second"], ["first", "second"], topS 2⟩
theorem st_product : DefStat d_product := ⟨⟨rfl, rfl, rfl, by decide +kernel, rfl, by decide +kernel, by decide +kernel⟩, fun _ _ _ _ _ _ us hl => match us, hl with | [_, _], _ => rfl⟩
def d_turned_round : DefI := ⟨"turned_round", ["word", "number"], ["word"], topS 3⟩
theorem st_turned_round : DefStat d_turned_round := ⟨⟨rfl, rfl, rfl, by decide +kernel, rfl, by decide +kernel, by decide +kernel⟩, fun _ _ _ _ _ _ us hl => match us, hl with | [_], _ => rfl⟩
def d_turned_by : DefI := ⟨"turned_by", ["word", "h"], ["word", "h"], topS 4⟩
theorem st_turned_by : DefStat d_turned_by := ⟨⟨rfl, rfl, rfl, by decide +kernel, rfl, by decide +kernel, by decide +kernel⟩, fun _ _ _ _ _ _ us hl => match us, hl with | [_, _], _ => rfl⟩
def d_front_length : DefI := ⟨"front_length", ["word", "length"], ["word"], topS 6⟩
theorem st_front_length : DefStat d_front_length := ⟨⟨rfl, rfl, rfl, by decide +kernel, rfl, by decide +kernel, by decide +kernel⟩, fun _ _ _ _ _ _ us hl => match us, hl with | [_], _ => rfl⟩
def d_core_of : DefI := ⟨"core_of", ["word", "whole", "length"], ["word"], topS 7⟩
theorem st_core_of : DefStat d_core_of := ⟨⟨rfl, rfl, rfl, by decide +kernel, rfl, by decide +kernel, by decide +kernel⟩, fun _ _ _ _ _ _ us hl => match us, hl with | [_], _ => rfl⟩
def d_put_back : DefI := ⟨"put_back", ["word", "count"], ["word", "count"], topS 8⟩
theorem st_put_back : DefStat d_put_back := ⟨⟨rfl, rfl, rfl, by decide +kernel, rfl, by decide +kernel, by decide +kernel⟩, fun _ _ _ _ _ _ us hl => match us, hl with | [_, _], _ => rfl⟩
def d_are_turned_round : DefI := ⟨"are_turned_round", ["word", "other", "start", "end"], ["word", "other", "start", "end"], topS 10⟩
theorem st_are_turned_round : DefStat d_are_turned_round := ⟨⟨rfl, rfl, rfl, by decide +kernel, rfl, by decide +kernel, by decide +kernel⟩, fun _ _ _ _ _ _ us hl => match us, hl with | [_, _, _, _], _ => rfl⟩
def d_six_parts : DefI := ⟨"six_parts", ["word", "half", "first", "second", "starts", "ends", "i", "j"], ["word"], topS 11⟩
theorem st_six_parts : DefStat d_six_parts := ⟨⟨rfl, rfl, rfl, by decide +kernel, rfl, by decide +kernel, by decide +kernel⟩, fun _ _ _ _ _ _ us hl => match us, hl with | [_], _ => rfl⟩
def d_made_from_parts : DefI := ⟨"made_from_parts", ["word", "i", "j", "half"], ["word", "i", "j"], topS 12⟩
theorem st_made_from_parts : DefStat d_made_from_parts := ⟨⟨rfl, rfl, rfl, by decide +kernel, rfl, by decide +kernel, by decide +kernel⟩, fun _ _ _ _ _ _ us hl => match us, hl with | [_, _, _], _ => rfl⟩
def d_one_commutator : DefI := ⟨"one_commutator", ["word", "front", "core", "count", "parts", "x", "y", "h"], ["word"], topS 13⟩
theorem st_one_commutator : DefStat d_one_commutator := ⟨⟨rfl, rfl, rfl, by decide +kernel, rfl, by decide +kernel, by decide +kernel⟩, fun _ _ _ _ _ _ us hl => match us, hl with | [_], _ => rfl⟩
def d_f_law_draws : DefI := ⟨"_law_draws", ["script", "many", "found", "cell", "number", "k", "mixed", "base"], ["script", "many"], topS 15⟩
theorem st_f_law_draws : DefStat d_f_law_draws := ⟨⟨rfl, rfl, rfl, by decide +kernel, rfl, by decide +kernel, by decide +kernel⟩, fun _ _ _ _ _ _ us hl => match us, hl with | [_, _], _ => rfl⟩
def d_f_law_is_number : DefI := ⟨"_law_is_number", ["value"], ["value"], topS 16⟩
theorem st_f_law_is_number : DefStat d_f_law_is_number := ⟨⟨rfl, rfl, rfl, by decide +kernel, rfl, by decide +kernel, by decide +kernel⟩, fun _ _ _ _ _ _ us hl => match us, hl with | [_], _ => rfl⟩
def d_f_law_same : DefI := ⟨"_law_same", ["told", "due", "k"], ["told", "due"], topS 17⟩
theorem st_f_law_same : DefStat d_f_law_same := ⟨⟨rfl, rfl, rfl, by decide +kernel, rfl, by decide +kernel, by decide +kernel⟩, fun _ _ _ _ _ _ us hl => match us, hl with | [_, _], _ => rfl⟩
def d_f_law_fresh : DefI := ⟨"_law_fresh", ["value", "item"], ["value"], topS 18⟩
theorem st_f_law_fresh : DefStat d_f_law_fresh := ⟨⟨rfl, rfl, rfl, by decide +kernel, rfl, by decide +kernel, by decide +kernel⟩, fun _ _ _ _ _ _ us hl => match us, hl with | [_], _ => rfl⟩
def d_f_law_word : DefI := ⟨"_law_word", ["draws", "at", "letters", "many", "found", "k", "cell"], ["draws", "at", "letters", "many"], topS 19⟩
theorem st_f_law_word : DefStat d_f_law_word := ⟨⟨rfl, rfl, rfl, by decide +kernel, rfl, by decide +kernel, by decide +kernel⟩, fun _ _ _ _ _ _ us hl => match us, hl with | [_, _, _, _], _ => rfl⟩
def d_f_law_core : DefI := ⟨"_law_core", ["word", "core", "front"], ["word"], topS 20⟩
theorem st_f_law_core : DefStat d_f_law_core := ⟨⟨rfl, rfl, rfl, by decide +kernel, rfl, by decide +kernel, by decide +kernel⟩, fun _ _ _ _ _ _ us hl => match us, hl with | [_], _ => rfl⟩
def d_f_law_back : DefI := ⟨"_law_back", ["word", "number"], ["word"], topS 21⟩
theorem st_f_law_back : DefStat d_f_law_back := ⟨⟨rfl, rfl, rfl, by decide +kernel, rfl, by decide +kernel, by decide +kernel⟩, fun _ _ _ _ _ _ us hl => match us, hl with | [_], _ => rfl⟩
def d_f_law_reduced : DefI := ⟨"_law_reduced", ["word", "found", "number"], ["word"], topS 22⟩
theorem st_f_law_reduced : DefStat d_f_law_reduced := ⟨⟨rfl, rfl, rfl, by decide +kernel, rfl, by decide +kernel, by decide +kernel⟩, fun _ _ _ _ _ _ us hl => match us, hl with | [_], _ => rfl⟩
def d_f_law_some_word : DefI := ⟨"_law_some_word", ["draws", "at", "letters", "kind", "many", "word", "cut", "more", "front", "one", "other"], ["draws", "at", "letters"], topS 23⟩
theorem st_f_law_some_word : DefStat d_f_law_some_word := ⟨⟨rfl, rfl, rfl, by decide +kernel, rfl, by decide +kernel, by decide +kernel⟩, fun _ _ _ _ _ _ us hl => match us, hl with | [_, _, _], _ => rfl⟩
def d_f_law_is_word : DefI := ⟨"_law_is_word", ["letters", "value", "item"], ["letters", "value"], topS 24⟩
theorem st_f_law_is_word : DefStat d_f_law_is_word := ⟨⟨rfl, rfl, rfl, by decide +kernel, rfl, by decide +kernel, by decide +kernel⟩, fun _ _ _ _ _ _ us hl => match us, hl with | [_, _], _ => rfl⟩
def d_f_law_turns : DefI := ⟨"_law_turns", ["core", "k"], ["core"], topS 25⟩
theorem st_f_law_turns : DefStat d_f_law_turns := ⟨⟨rfl, rfl, rfl, by decide +kernel, rfl, by decide +kernel, by decide +kernel⟩, fun _ _ _ _ _ _ us hl => match us, hl with | [_], _ => rfl⟩
def d_f_law_is_six : DefI := ⟨"_law_is_six", ["word", "half", "i", "j"], ["word"], topS 26⟩
theorem st_f_law_is_six : DefStat d_f_law_is_six := ⟨⟨rfl, rfl, rfl, by decide +kernel, rfl, by decide +kernel, by decide +kernel⟩, fun _ _ _ _ _ _ us hl => match us, hl with | [_], _ => rfl⟩
def d_f_law_told : DefI := ⟨"_law_told", ["word", "sure", "due", "passed", "told", "kept", "made", "core"], ["word", "sure"], topS 27⟩
theorem st_f_law_told : DefStat d_f_law_told := ⟨⟨rfl, rfl, rfl, by decide +kernel, rfl, by decide +kernel, by decide +kernel⟩, fun _ _ _ _ _ _ us hl => match us, hl with | [_, _], _ => rfl⟩
def d_f_law_commutator : DefI := ⟨"_law_commutator", ["one", "other"], ["one", "other"], topS 28⟩
theorem st_f_law_commutator : DefStat d_f_law_commutator := ⟨⟨rfl, rfl, rfl, by decide +kernel, rfl, by decide +kernel, by decide +kernel⟩, fun _ _ _ _ _ _ us hl => match us, hl with | [_, _], _ => rfl⟩
def d_law : DefI := ⟨"law", ["script", "draws", "letters", "one", "other", "h", "parts", "six", "cut", "free", "word", "wide", "great", "spot", "sure", "k"], ["script"], topS 29⟩
theorem st_law : DefStat d_law := ⟨⟨rfl, rfl, rfl, by decide +kernel, rfl, by decide +kernel, by decide +kernel⟩, fun _ _ _ _ _ _ us hl => match us, hl with | [_], _ => rfl⟩
def defs : List DefI := [d_reduced, d_product, d_turned_round, d_turned_by, d_front_length, d_core_of, d_put_back, d_are_turned_round, d_six_parts, d_made_from_parts, d_one_commutator, d_f_law_draws, d_f_law_is_number, d_f_law_same, d_f_law_fresh, d_f_law_word, d_f_law_core, d_f_law_back, d_f_law_reduced, d_f_law_some_word, d_f_law_is_word, d_f_law_turns, d_f_law_is_six, d_f_law_told, d_f_law_commutator, d_law]
theorem stats : Stats defs := ⟨st_reduced, st_product, st_turned_round, st_turned_by, st_front_length, st_core_of, st_put_back, st_are_turned_round, st_six_parts, st_made_from_parts, st_one_commutator, st_f_law_draws, st_f_law_is_number, st_f_law_same, st_f_law_fresh, st_f_law_word, st_f_law_core, st_f_law_back, st_f_law_reduced, st_f_law_some_word, st_f_law_is_word, st_f_law_turns, st_f_law_is_six, st_f_law_told, st_f_law_commutator, st_law, trivial⟩
def globs : List (Str × PyData) := []
def glob (x : Str) : Option PyData := globs.lookup x
abbrev cal (n : Nat) : Str → List PyData → Option O := callN defs glob n
theorem c_reduced (call : Str → List PyData → Option O) : cB (ctxOf defs glob call d_reduced.N) fuelS (defScope d_reduced.st) (defBody d_reduced.st) = b_reduced call := by kernel_rfl
theorem r_reduced {n : Nat} {a0 : PyData} : cal (n + 1) "reduced" [a0] = outO (b_reduced (cal n) [some (.frz a0), none, none]) := (callN_step (d := d_reduced) (by kernel_rfl) rfl).trans (by rw [show cB (ctxOf defs glob (callN defs glob n) d_reduced.N) fuelS (defScope d_reduced.st) (defBody d_reduced.st) = _ from c_reduced _]; rfl)
theorem c_product (call : Str → List PyData → Option O) : cB (ctxOf defs glob call d_product.N) fuelS (defScope d_product.st) (defBody d_product.st) = b_product call := by kernel_rfl
theorem r_product {n : Nat} {a0 a1 : PyData} : cal (n + 1) "product" [a0, a1] = outO (b_product (cal n) [some (.frz a0), some (.frz a1)]) := (callN_step (d := d_product) (by kernel_rfl) rfl).trans (by rw [show cB (ctxOf defs glob (callN defs glob n) d_product.N) fuelS (defScope d_product.st) (defBody d_product.st) = _ from c_product _]; rfl)
theorem c_turned_round (call : Str → List PyData → Option O) : cB (ctxOf defs glob call d_turned_round.N) fuelS (defScope d_turned_round.st) (defBody d_turned_round.st) = b_turned_round call := by kernel_rfl
theorem r_turned_round {n : Nat} {a0 : PyData} : cal (n + 1) "turned_round" [a0] = outO (b_turned_round (cal n) [some (.frz a0), none]) := (callN_step (d := d_turned_round) (by kernel_rfl) rfl).trans (by rw [show cB (ctxOf defs glob (callN defs glob n) d_turned_round.N) fuelS (defScope d_turned_round.st) (defBody d_turned_round.st) = _ from c_turned_round _]; rfl)
theorem c_turned_by (call : Str → List PyData → Option O) : cB (ctxOf defs glob call d_turned_by.N) fuelS (defScope d_turned_by.st) (defBody d_turned_by.st) = b_turned_by call := by kernel_rfl
theorem r_turned_by {n : Nat} {a0 a1 : PyData} : cal (n + 1) "turned_by" [a0, a1] = outO (b_turned_by (cal n) [some (.frz a0), some (.frz a1)]) := (callN_step (d := d_turned_by) (by kernel_rfl) rfl).trans (by rw [show cB (ctxOf defs glob (callN defs glob n) d_turned_by.N) fuelS (defScope d_turned_by.st) (defBody d_turned_by.st) = _ from c_turned_by _]; rfl)
theorem c_front_length (call : Str → List PyData → Option O) : cB (ctxOf defs glob call d_front_length.N) fuelS (defScope d_front_length.st) (defBody d_front_length.st) = b_front_length call := by kernel_rfl
theorem r_front_length {n : Nat} {a0 : PyData} : cal (n + 1) "front_length" [a0] = outO (b_front_length (cal n) [some (.frz a0), none]) := (callN_step (d := d_front_length) (by kernel_rfl) rfl).trans (by rw [show cB (ctxOf defs glob (callN defs glob n) d_front_length.N) fuelS (defScope d_front_length.st) (defBody d_front_length.st) = _ from c_front_length _]; rfl)
theorem c_core_of (call : Str → List PyData → Option O) : cB (ctxOf defs glob call d_core_of.N) fuelS (defScope d_core_of.st) (defBody d_core_of.st) = b_core_of call := by kernel_rfl
theorem r_core_of {n : Nat} {a0 : PyData} : cal (n + 1) "core_of" [a0] = outO (b_core_of (cal n) [some (.frz a0), none, none]) := (callN_step (d := d_core_of) (by kernel_rfl) rfl).trans (by rw [show cB (ctxOf defs glob (callN defs glob n) d_core_of.N) fuelS (defScope d_core_of.st) (defBody d_core_of.st) = _ from c_core_of _]; rfl)
theorem c_put_back (call : Str → List PyData → Option O) : cB (ctxOf defs glob call d_put_back.N) fuelS (defScope d_put_back.st) (defBody d_put_back.st) = b_put_back call := by kernel_rfl
theorem r_put_back {n : Nat} {a0 a1 : PyData} : cal (n + 1) "put_back" [a0, a1] = outO (b_put_back (cal n) [some (.frz a0), some (.frz a1)]) := (callN_step (d := d_put_back) (by kernel_rfl) rfl).trans (by rw [show cB (ctxOf defs glob (callN defs glob n) d_put_back.N) fuelS (defScope d_put_back.st) (defBody d_put_back.st) = _ from c_put_back _]; rfl)
theorem c_are_turned_round (call : Str → List PyData → Option O) : cB (ctxOf defs glob call d_are_turned_round.N) fuelS (defScope d_are_turned_round.st) (defBody d_are_turned_round.st) = b_are_turned_round call := by kernel_rfl
theorem r_are_turned_round {n : Nat} {a0 a1 a2 a3 : PyData} : cal (n + 1) "are_turned_round" [a0, a1, a2, a3] = outO (b_are_turned_round (cal n) [some (.frz a0), some (.frz a1), some (.frz a2), some (.frz a3)]) := (callN_step (d := d_are_turned_round) (by kernel_rfl) rfl).trans (by rw [show cB (ctxOf defs glob (callN defs glob n) d_are_turned_round.N) fuelS (defScope d_are_turned_round.st) (defBody d_are_turned_round.st) = _ from c_are_turned_round _]; rfl)
theorem c_six_parts (call : Str → List PyData → Option O) : cB (ctxOf defs glob call d_six_parts.N) fuelS (defScope d_six_parts.st) (defBody d_six_parts.st) = b_six_parts call := by kernel_rfl
theorem r_six_parts {n : Nat} {a0 : PyData} : cal (n + 1) "six_parts" [a0] = outO (b_six_parts (cal n) [some (.frz a0), none, none, none, none, none, none, none]) := (callN_step (d := d_six_parts) (by kernel_rfl) rfl).trans (by rw [show cB (ctxOf defs glob (callN defs glob n) d_six_parts.N) fuelS (defScope d_six_parts.st) (defBody d_six_parts.st) = _ from c_six_parts _]; rfl)
theorem c_made_from_parts (call : Str → List PyData → Option O) : cB (ctxOf defs glob call d_made_from_parts.N) fuelS (defScope d_made_from_parts.st) (defBody d_made_from_parts.st) = b_made_from_parts call := by kernel_rfl
theorem r_made_from_parts {n : Nat} {a0 a1 a2 : PyData} : cal (n + 1) "made_from_parts" [a0, a1, a2] = outO (b_made_from_parts (cal n) [some (.frz a0), some (.frz a1), some (.frz a2), none]) := (callN_step (d := d_made_from_parts) (by kernel_rfl) rfl).trans (by rw [show cB (ctxOf defs glob (callN defs glob n) d_made_from_parts.N) fuelS (defScope d_made_from_parts.st) (defBody d_made_from_parts.st) = _ from c_made_from_parts _]; rfl)
theorem c_one_commutator (call : Str → List PyData → Option O) : cB (ctxOf defs glob call d_one_commutator.N) fuelS (defScope d_one_commutator.st) (defBody d_one_commutator.st) = b_one_commutator call := by kernel_rfl
theorem r_one_commutator {n : Nat} {a0 : PyData} : cal (n + 1) "one_commutator" [a0] = outO (b_one_commutator (cal n) [some (.frz a0), none, none, none, none, none, none, none]) := (callN_step (d := d_one_commutator) (by kernel_rfl) rfl).trans (by rw [show cB (ctxOf defs glob (callN defs glob n) d_one_commutator.N) fuelS (defScope d_one_commutator.st) (defBody d_one_commutator.st) = _ from c_one_commutator _]; rfl)
theorem c_f_law_draws (call : Str → List PyData → Option O) : cB (ctxOf defs glob call d_f_law_draws.N) fuelS (defScope d_f_law_draws.st) (defBody d_f_law_draws.st) = b_f_law_draws call := by kernel_rfl
theorem r_f_law_draws {n : Nat} {a0 a1 : PyData} : cal (n + 1) "_law_draws" [a0, a1] = outO (b_f_law_draws (cal n) [some (.frz a0), some (.frz a1), none, none, none, none, none, none]) := (callN_step (d := d_f_law_draws) (by kernel_rfl) rfl).trans (by rw [show cB (ctxOf defs glob (callN defs glob n) d_f_law_draws.N) fuelS (defScope d_f_law_draws.st) (defBody d_f_law_draws.st) = _ from c_f_law_draws _]; rfl)
theorem c_f_law_is_number (call : Str → List PyData → Option O) : cB (ctxOf defs glob call d_f_law_is_number.N) fuelS (defScope d_f_law_is_number.st) (defBody d_f_law_is_number.st) = b_f_law_is_number call := by kernel_rfl
theorem r_f_law_is_number {n : Nat} {a0 : PyData} : cal (n + 1) "_law_is_number" [a0] = outO (b_f_law_is_number (cal n) [some (.frz a0)]) := (callN_step (d := d_f_law_is_number) (by kernel_rfl) rfl).trans (by rw [show cB (ctxOf defs glob (callN defs glob n) d_f_law_is_number.N) fuelS (defScope d_f_law_is_number.st) (defBody d_f_law_is_number.st) = _ from c_f_law_is_number _]; rfl)
theorem c_f_law_same (call : Str → List PyData → Option O) : cB (ctxOf defs glob call d_f_law_same.N) fuelS (defScope d_f_law_same.st) (defBody d_f_law_same.st) = b_f_law_same call := by kernel_rfl
theorem r_f_law_same {n : Nat} {a0 a1 : PyData} : cal (n + 1) "_law_same" [a0, a1] = outO (b_f_law_same (cal n) [some (.frz a0), some (.frz a1), none]) := (callN_step (d := d_f_law_same) (by kernel_rfl) rfl).trans (by rw [show cB (ctxOf defs glob (callN defs glob n) d_f_law_same.N) fuelS (defScope d_f_law_same.st) (defBody d_f_law_same.st) = _ from c_f_law_same _]; rfl)
theorem c_f_law_fresh (call : Str → List PyData → Option O) : cB (ctxOf defs glob call d_f_law_fresh.N) fuelS (defScope d_f_law_fresh.st) (defBody d_f_law_fresh.st) = b_f_law_fresh call := by kernel_rfl
theorem r_f_law_fresh {n : Nat} {a0 : PyData} : cal (n + 1) "_law_fresh" [a0] = outO (b_f_law_fresh (cal n) [some (.frz a0), none]) := (callN_step (d := d_f_law_fresh) (by kernel_rfl) rfl).trans (by rw [show cB (ctxOf defs glob (callN defs glob n) d_f_law_fresh.N) fuelS (defScope d_f_law_fresh.st) (defBody d_f_law_fresh.st) = _ from c_f_law_fresh _]; rfl)
theorem c_f_law_word (call : Str → List PyData → Option O) : cB (ctxOf defs glob call d_f_law_word.N) fuelS (defScope d_f_law_word.st) (defBody d_f_law_word.st) = b_f_law_word call := by kernel_rfl
theorem r_f_law_word {n : Nat} {a0 a1 a2 a3 : PyData} : cal (n + 1) "_law_word" [a0, a1, a2, a3] = outO (b_f_law_word (cal n) [some (.frz a0), some (.frz a1), some (.frz a2), some (.frz a3), none, none, none]) := (callN_step (d := d_f_law_word) (by kernel_rfl) rfl).trans (by rw [show cB (ctxOf defs glob (callN defs glob n) d_f_law_word.N) fuelS (defScope d_f_law_word.st) (defBody d_f_law_word.st) = _ from c_f_law_word _]; rfl)
theorem c_f_law_core (call : Str → List PyData → Option O) : cB (ctxOf defs glob call d_f_law_core.N) fuelS (defScope d_f_law_core.st) (defBody d_f_law_core.st) = b_f_law_core call := by kernel_rfl
theorem r_f_law_core {n : Nat} {a0 : PyData} : cal (n + 1) "_law_core" [a0] = outO (b_f_law_core (cal n) [some (.frz a0), none, none]) := (callN_step (d := d_f_law_core) (by kernel_rfl) rfl).trans (by rw [show cB (ctxOf defs glob (callN defs glob n) d_f_law_core.N) fuelS (defScope d_f_law_core.st) (defBody d_f_law_core.st) = _ from c_f_law_core _]; rfl)
theorem c_f_law_back (call : Str → List PyData → Option O) : cB (ctxOf defs glob call d_f_law_back.N) fuelS (defScope d_f_law_back.st) (defBody d_f_law_back.st) = b_f_law_back call := by kernel_rfl
theorem r_f_law_back {n : Nat} {a0 : PyData} : cal (n + 1) "_law_back" [a0] = outO (b_f_law_back (cal n) [some (.frz a0), none]) := (callN_step (d := d_f_law_back) (by kernel_rfl) rfl).trans (by rw [show cB (ctxOf defs glob (callN defs glob n) d_f_law_back.N) fuelS (defScope d_f_law_back.st) (defBody d_f_law_back.st) = _ from c_f_law_back _]; rfl)
theorem c_f_law_reduced (call : Str → List PyData → Option O) : cB (ctxOf defs glob call d_f_law_reduced.N) fuelS (defScope d_f_law_reduced.st) (defBody d_f_law_reduced.st) = b_f_law_reduced call := by kernel_rfl
theorem r_f_law_reduced {n : Nat} {a0 : PyData} : cal (n + 1) "_law_reduced" [a0] = outO (b_f_law_reduced (cal n) [some (.frz a0), none, none]) := (callN_step (d := d_f_law_reduced) (by kernel_rfl) rfl).trans (by rw [show cB (ctxOf defs glob (callN defs glob n) d_f_law_reduced.N) fuelS (defScope d_f_law_reduced.st) (defBody d_f_law_reduced.st) = _ from c_f_law_reduced _]; rfl)
theorem c_f_law_some_word (call : Str → List PyData → Option O) : cB (ctxOf defs glob call d_f_law_some_word.N) fuelS (defScope d_f_law_some_word.st) (defBody d_f_law_some_word.st) = b_f_law_some_word call := by kernel_rfl
theorem r_f_law_some_word {n : Nat} {a0 a1 a2 : PyData} : cal (n + 1) "_law_some_word" [a0, a1, a2] = outO (b_f_law_some_word (cal n) [some (.frz a0), some (.frz a1), some (.frz a2), none, none, none, none, none, none, none, none]) := (callN_step (d := d_f_law_some_word) (by kernel_rfl) rfl).trans (by rw [show cB (ctxOf defs glob (callN defs glob n) d_f_law_some_word.N) fuelS (defScope d_f_law_some_word.st) (defBody d_f_law_some_word.st) = _ from c_f_law_some_word _]; rfl)
theorem c_f_law_is_word (call : Str → List PyData → Option O) : cB (ctxOf defs glob call d_f_law_is_word.N) fuelS (defScope d_f_law_is_word.st) (defBody d_f_law_is_word.st) = b_f_law_is_word call := by kernel_rfl
theorem r_f_law_is_word {n : Nat} {a0 a1 : PyData} : cal (n + 1) "_law_is_word" [a0, a1] = outO (b_f_law_is_word (cal n) [some (.frz a0), some (.frz a1), none]) := (callN_step (d := d_f_law_is_word) (by kernel_rfl) rfl).trans (by rw [show cB (ctxOf defs glob (callN defs glob n) d_f_law_is_word.N) fuelS (defScope d_f_law_is_word.st) (defBody d_f_law_is_word.st) = _ from c_f_law_is_word _]; rfl)
theorem c_f_law_turns (call : Str → List PyData → Option O) : cB (ctxOf defs glob call d_f_law_turns.N) fuelS (defScope d_f_law_turns.st) (defBody d_f_law_turns.st) = b_f_law_turns call := by kernel_rfl
theorem r_f_law_turns {n : Nat} {a0 : PyData} : cal (n + 1) "_law_turns" [a0] = outO (b_f_law_turns (cal n) [some (.frz a0), none]) := (callN_step (d := d_f_law_turns) (by kernel_rfl) rfl).trans (by rw [show cB (ctxOf defs glob (callN defs glob n) d_f_law_turns.N) fuelS (defScope d_f_law_turns.st) (defBody d_f_law_turns.st) = _ from c_f_law_turns _]; rfl)
theorem c_f_law_is_six (call : Str → List PyData → Option O) : cB (ctxOf defs glob call d_f_law_is_six.N) fuelS (defScope d_f_law_is_six.st) (defBody d_f_law_is_six.st) = b_f_law_is_six call := by kernel_rfl
theorem r_f_law_is_six {n : Nat} {a0 : PyData} : cal (n + 1) "_law_is_six" [a0] = outO (b_f_law_is_six (cal n) [some (.frz a0), none, none, none]) := (callN_step (d := d_f_law_is_six) (by kernel_rfl) rfl).trans (by rw [show cB (ctxOf defs glob (callN defs glob n) d_f_law_is_six.N) fuelS (defScope d_f_law_is_six.st) (defBody d_f_law_is_six.st) = _ from c_f_law_is_six _]; rfl)
theorem c_f_law_told (call : Str → List PyData → Option O) : cB (ctxOf defs glob call d_f_law_told.N) fuelS (defScope d_f_law_told.st) (defBody d_f_law_told.st) = b_f_law_told_14 call := by kernel_rfl
theorem r_f_law_told {n : Nat} {a0 a1 : PyData} : cal (n + 1) "_law_told" [a0, a1] = outO (b_f_law_told_14 (cal n) [some (.frz a0), some (.frz a1), none, none, none, none, none, none]) := (callN_step (d := d_f_law_told) (by kernel_rfl) rfl).trans (by rw [show cB (ctxOf defs glob (callN defs glob n) d_f_law_told.N) fuelS (defScope d_f_law_told.st) (defBody d_f_law_told.st) = _ from c_f_law_told _]; rfl)
theorem c_f_law_commutator (call : Str → List PyData → Option O) : cB (ctxOf defs glob call d_f_law_commutator.N) fuelS (defScope d_f_law_commutator.st) (defBody d_f_law_commutator.st) = b_f_law_commutator call := by kernel_rfl
theorem r_f_law_commutator {n : Nat} {a0 a1 : PyData} : cal (n + 1) "_law_commutator" [a0, a1] = outO (b_f_law_commutator (cal n) [some (.frz a0), some (.frz a1)]) := (callN_step (d := d_f_law_commutator) (by kernel_rfl) rfl).trans (by rw [show cB (ctxOf defs glob (callN defs glob n) d_f_law_commutator.N) fuelS (defScope d_f_law_commutator.st) (defBody d_f_law_commutator.st) = _ from c_f_law_commutator _]; rfl)
theorem c_law (call : Str → List PyData → Option O) : cB (ctxOf defs glob call d_law.N) fuelS (defScope d_law.st) (defBody d_law.st) = b_law_15 call := by kernel_rfl
theorem r_law {n : Nat} {a0 : PyData} : cal (n + 1) "law" [a0] = outO (b_law_15 (cal n) [some (.frz a0), none, none, none, none, none, none, none, none, none, none, none, none, none, none, none]) := (callN_step (d := d_law) (by kernel_rfl) rfl).trans (by rw [show cB (ctxOf defs glob (callN defs glob n) d_law.N) fuelS (defScope d_law.st) (defBody d_law.st) = _ from c_law _]; rfl)
end Lw
namespace Lw
open PySem L2 PY
theorem v_reduced (m : Nat) (ws : List Int) (h : ws.length < 900000) : cal (m + 1) "reduced" [L ws] = some (ow (red ws)) := r_reduced.trans (R_reduced _ ws (by omega))
theorem v_turned_round (m : Nat) (w : List Int) (h : w.length < 900000) : cal (m + 1) "turned_round" [L w] = some (ow (bck w)) := r_turned_round.trans (R_turned_round _ w (by omega))
theorem v_product (m : Nat) (a b : List Int) (ha : a.length ≤ 100000) (hb : b.length ≤ 100000) : cal (m + 2) "product" [L a, L b] = some (ow (red (a ++ b))) := r_product.trans (R_product _ a b ha hb (v_reduced m (a ++ b) (by rw [List.length_append]; omega)))
theorem v_turned_by (m : Nat) (w h : List Int) (hw : w.length ≤ 50000) (hh : h.length ≤ 50000) : cal (m + 2) "turned_by" [L w, L h] = some (ow (red (h ++ w ++ bck h))) := r_turned_by.trans (R_turned_by _ w h hw hh (v_turned_round m h (by omega)) (v_reduced m _ (by simp only [List.length_append, bck_len]; omega)))
theorem v_front_length (m : Nat) (ws : List Int) (h : ws.length < 900000) : cal (m + 1) "front_length" [L ws] = some (.frz (.int (fl ws : Nat))) := r_front_length.trans (R_front_length _ ws h)
theorem v_core_of (m : Nat) (ws : List Int) (h : ws.length < 900000) : cal (m + 2) "core_of" [L ws] = some (.otup [ow ((red ws).take (fl (red ws))), ow (midW (red ws) (fl (red ws)))]) := r_core_of.trans (R_core_of _ ws (by have := red_len ws; omega) (v_reduced m ws h) (v_front_length m _ (by have := red_len ws; omega)))
theorem v_draws (m : Nat) (ns : List Int) (M : Nat) (hn : ns.length ≤ 63) (hM : M ≤ 1000) : ∃ ds : List Int, ds.length = M ∧ Dr ds ∧ cal (m + 1) "_law_draws" [L ns, .int M] = some (ow ds) := by
  obtain ⟨ds, h1, h2, h3⟩ := R_draws (cal m) ns M hn hM
  exact ⟨ds, h1, h2, r_f_law_draws.trans h3⟩
theorem v_is_number (m : Nat) (i : Int) : cal (m + 1) "_law_is_number" [.int i] = some (.frz (.bool true)) := r_f_law_is_number.trans (R_is_number _ i)
theorem v_same_int (m : Nat) (i : Int) : Same1 (cal (m + 2)) (.int i) := r_f_law_same.trans (R_same_int _ i (v_is_number m i))
theorem v_same_bool (m : Nat) (i : Bool) : Same1 (cal (m + 1)) (.bool i) := r_f_law_same.trans (R_same_bool _ i)
theorem v_same_str (m : Nat) (i : Str) : Same1 (cal (m + 1)) (.str i) := r_f_law_same.trans (R_same_str _ i)
theorem v_same_list (m : Nat) (ds : List D) (h : ds.length < 1000000) (hs : ∀ d ∈ ds, Same1 (cal m) d) : Same1 (cal (m + 1)) (.list ds) := r_f_law_same.trans (R_same_list _ ds h hs)
theorem v_same_tup (m : Nat) (ds : List D) (h : ds.length < 1000000) (hs : ∀ d ∈ ds, Same1 (cal m) d) : Same1 (cal (m + 1)) (.tuple ds) := r_f_law_same.trans (R_same_tup _ ds h hs)
theorem v_same_L (m : Nat) (ws : List Int) (h : ws.length < 1000000) : Same1 (cal (m + 3)) (L ws) := v_same_list (m + 2) _ (by rw [dI_len]; exact h) fun d hd => by
  obtain ⟨i, _, rfl⟩ := List.mem_map.mp hd
  exact v_same_int m i
theorem v_same_LL (m : Nat) (a b : List Int) (ha : a.length < 1000000) (hb : b.length < 1000000) : Same1 (cal (m + 4)) (.tuple [L a, L b]) := v_same_tup (m + 3) _ (by simp) fun d hd => by
  simp only [List.mem_cons, List.not_mem_nil, or_false] at hd
  rcases hd with rfl | rfl
  · exact v_same_L m a ha
  · exact v_same_L m b hb
theorem v_fresh_int (m : Nat) (i : Int) : cal (m + 1) "_law_fresh" [.int i] = some (.frz (.int i)) := r_f_law_fresh.trans (R_fresh_int _ i)
theorem v_fresh_str (m : Nat) (i : Str) : cal (m + 1) "_law_fresh" [.str i] = some (.frz (.str i)) := r_f_law_fresh.trans (R_fresh_str _ i)
theorem v_fresh_L (m : Nat) (w : List Int) (h : w.length < 1000000) : cal (m + 2) "_law_fresh" [L w] = some (ow w) := r_f_law_fresh.trans (R_fresh_L _ w h (v_fresh_int m))
theorem v_word (m : Nat) (ds : List Int) (a l c : Int) (h1 : 0 < ds.length) (h2 : ds.length < 1000000) (h3 : 1 ≤ l) (h4 : l ≤ 1000) (h5 : 0 ≤ c) (h6 : c < 100000) : ∃ ws : List Int, ws.length = c.toNat ∧ Wd l ws ∧ cal (m + 1) "_law_word" [L ds, .int a, .int l, .int c] = some (ow ws) := by
  obtain ⟨k, rfl⟩ := Int.eq_ofNat_of_zero_le h5
  obtain ⟨ws, e1, e2, e3⟩ := R_word (cal m) ds a l k h1 h2 h3 h4 (by omega)
  exact ⟨ws, by omega, e2, r_f_law_word.trans e3⟩
theorem v_law_reduced (m : Nat) (ws : List Int) (h : ws.length < 900000) : cal (m + 1) "_law_reduced" [L ws] = some (ow (red ws)) := r_f_law_reduced.trans (R_law_reduced _ ws (by omega))
theorem v_back (m : Nat) (ws : List Int) (h : ws.length < 900000) : cal (m + 1) "_law_back" [L ws] = some (ow (bck ws)) := r_f_law_back.trans (R_law_back _ ws (by omega))
theorem v_law_core (m : Nat) (ws : List Int) (h : ws.length < 900000) : cal (m + 2) "_law_core" [L ws] = some (.otup [ow ((red ws).take (fl (red ws))), ow (midW (red ws) (fl (red ws)))]) := r_f_law_core.trans (R_law_core _ ws (by have := red_len ws; omega) (v_law_reduced m ws h))
theorem v_helps (m : Nat) : Helps (cal (m + 1)) := ⟨v_word m, v_law_reduced m, v_back m⟩
theorem v_some_word (m : Nat) (ds : List Int) (a l : Int) (ha : 0 ≤ a) (hd : a + 5 ≤ ds.length) (hd2 : ds.length < 1000000) (hl : 1 ≤ l) (hl2 : l ≤ 1000) : ∃ ws : List Int, ws.length ≤ 20 ∧ Wd l ws ∧ cal (m + 2) "_law_some_word" [L ds, .int a, .int l] = some (ow ws) := by
  obtain ⟨ws, h1, h2, h3⟩ := R_some_word (cal (m + 1)) (v_helps m) ds a l ha hd hd2 hl hl2
  exact ⟨ws, h1, h2, r_f_law_some_word.trans h3⟩
theorem v_fresh_any : ∀ (n m : Nat) (d : D), d.depth ≤ n → d.canLay0 = true → sz d ≤ 900000 → FreshAt (cal (m + n + 1)) d
  | 0, m, d, h, hl, hs => by
    obtain ⟨o, h1, h2, h3⟩ := R_fresh_any (cal m) d hl (by omega) fun xs e => by
      rcases e with rfl | rfl
      · simp only [PyData.depth] at h; omega
      · simp only [PyData.depth] at h; omega
    exact ⟨o, r_f_law_fresh.trans h1, h2, h3⟩
  | n + 1, m, d, h, hl, hs => by
    obtain ⟨o, h1, h2, h3⟩ := R_fresh_any (cal (m + n + 1)) d hl (by omega) fun xs e x mx => by
      rcases e with rfl | rfl
      · simp only [PyData.depth] at h
        have hl' : PyData.canLayAll0 xs = true := by simpa [PyData.canLay0] using hl
        have hs' : szA xs + 2 ≤ 900000 := hs
        exact v_fresh_any n m x (by have := dep_mem mx; omega) (lay_mem hl' mx) (by have := sz_mem mx; omega)
      · simp only [PyData.depth] at h
        have hl' : PyData.canLayAll0 xs = true := by simpa [PyData.canLay0] using hl
        have hs' : szA xs + 3 ≤ 900000 := hs
        exact v_fresh_any n m x (by have := dep_mem mx; omega) (lay_mem hl' mx) (by have := sz_mem mx; omega)
    exact ⟨o, r_f_law_fresh.trans h1, h2, h3⟩
theorem v_lisnum (m : Nat) (d : D) (h : d.canLay0 = true) : cal (m + 1) "_law_is_number" [d] = some (.frz (.bool (isI d))) := r_f_law_is_number.trans (R_law_is_number_any _ d h)
end Lw
namespace Lw
open PySem L2 PY
theorem v_pcore (m : Nat) (w : List Int) (h : w.length < 900000) : cal (m + 2) "core_of" [L w] = some (.otup [ow (front w), ow (core w)]) := v_core_of m w h
theorem v_lcore (m : Nat) (w : List Int) (h : w.length < 900000) : cal (m + 2) "_law_core" [L w] = some (.otup [ow (front w), ow (core w)]) := v_law_core m w h
theorem v_put_back (m : Nat) (c : List Int) (k : Nat) (h : c.length ≤ 100000) : cal (m + 1) "put_back" [L c, .int (k : Nat)] = some (ow (rot c k)) := r_put_back.trans (R_put_back _ c k h)
theorem v_turns (m : Nat) (c : List Int) (h : c.length ≤ 100000) : cal (m + 1) "_law_turns" [L c] = some (.own (mO (rots c))) := r_f_law_turns.trans (R_turns _ c h)
theorem v_are (m : Nat) (F S : List Int) (hF : F.length ≤ 10000) : AreF (cal (m + 2)) F S := fun i j hi hj => r_are_turned_round.trans (R_are _ F S i j hF (v_turned_round m _ (by unfold sg; simp; omega)))
theorem v_six_parts (m : Nat) (w : List Int) (h0 : w.length % 2 = 0) (hw : w.length ≤ 10000) : ∃ o, SixO w o ∧ cal (m + 3) "six_parts" [L w] = some o := by
  obtain ⟨o, h1, h2⟩ := R_six_parts (cal (m + 2)) w h0 hw (fun F S h => v_are m F S h)
  exact ⟨o, h1, r_six_parts.trans h2⟩
theorem v_made (m : Nat) (w : List Int) (i j : Nat) (hw : w.length ≤ 10000) : cal (m + 3) "made_from_parts" [L w, .int (i : Nat), .int (j : Nat)] = some (.otup [ow (w.take j), ow (red (sg w j (w.length / 2) ++ bck (w.take i)))]) :=
  r_made_from_parts.trans (R_made _ w i j hw (v_turned_round (m + 1)) (v_product m))
theorem v_one (m : Nat) (w : List Int) (hw : w.length ≤ 1000) : ∃ o, OneO w o ∧ cal (m + 4) "one_commutator" [L w] = some o := by
  obtain ⟨o, h1, h2⟩ := R_one_commutator (cal (m + 3)) w hw (v_pcore (m + 1) w (by omega)) (v_put_back (m + 2)) (v_six_parts m) (v_made m) (v_turned_by (m + 1))
  exact ⟨o, h1, r_one_commutator.trans h2⟩
theorem v_is_six (m : Nat) (w : List Int) (hw : w.length ≤ 10000) : cal (m + 2) "_law_is_six" [L w] = some (.frz (.bool (sixB w))) := r_f_law_is_six.trans (R_is_six _ w hw (v_back m))
theorem v_is_word (m : Nat) (l : Int) (w : List Int) (h : Wd l w) : cal (m + 2) "_law_is_word" [.int l, L w] = some (.frz (.bool true)) := r_f_law_is_word.trans (R_is_word _ l w h (v_is_number m))
theorem v_same_T3 (m : Nat) (X Y : List Int) (hX : X.length ≤ 50000) (hY : Y.length ≤ 50000) : Same1 (cal (m + 4)) (T3 X Y) := v_same_tup (m + 3) _ (by simp) fun d hd => by
  simp only [List.mem_cons, List.not_mem_nil, or_false] at hd
  rcases hd with rfl | rfl | rfl
  · exact v_same_str (m + 2) _
  · exact v_same_L m X (by omega)
  · exact v_same_L m Y (by omega)
theorem v_same_other (m : Nat) : Same1 (cal (m + 2)) (.tuple [.str "other"]) := v_same_tup (m + 1) _ (by simp) fun d hd => by
  simp only [List.mem_cons, List.not_mem_nil, or_false] at hd
  subst hd
  exact v_same_str m _
theorem v_fresh_T3 (m : Nat) (a b : List Int) (hX : a.length ≤ 50000) (hY : b.length ≤ 50000) : FreshAt (cal (m + 3)) (T3 a b) := by
  refine ⟨.otup [.frz (.str "one"), ow a, ow b], r_f_law_fresh.trans ?_, by simp, by simp⟩
  have h1 : isInst "list" (T3 a b) = some false := rfl
  have h2 : isInst "tuple" (T3 a b) = some true := rfl
  have z0 : (0 : Nat) < sizeLine := line_lt (by decide)
  have z1 : (1 : Nat) < sizeLine := line_lt (by decide)
  have z2 : (2 : Nat) < sizeLine := line_lt (by decide)
  have f0 := v_fresh_str (m + 1) "one"
  have ha := v_fresh_L m a (by omega)
  have hb := v_fresh_L m b (by omega)
  rw [ba_f_law_fresh]
  simp [h1, h2, f0, ha, hb, z0, z1, z2, lcGo_cons, lcGo_nil, -mL_one, -mI_one]
theorem v_commutator (m : Nat) (a b : List Int) (ha : a.length ≤ 10000) (hb : b.length ≤ 10000) : cal (m + 2) "_law_commutator" [L a, L b] = some (ow (a ++ b ++ bck a ++ bck b)) := by
  refine r_f_law_commutator.trans ?_
  have b1 := v_back m a (by omega)
  have b2 := v_back m b (by omega)
  have a1 : binV .Add (L a) (L b) = some (.own (ow (a ++ b))) := add_l (by omega)
  have a2 : binV .Add (L (a ++ b)) (L (bck a)) = some (.own (ow (a ++ b ++ bck a))) := add_l (by simp; omega)
  have a3 : binV .Add (L (a ++ b ++ bck a)) (L (bck b)) = some (.own (ow (a ++ b ++ bck a ++ bck b))) := add_l (by simp; omega)
  rw [ba_f_law_commutator]
  simp [b1, b2, a1, a2, a3, -List.append_assoc]
theorem v_told (m : Nat) : Told14 (cal (m + 5)) := fun w b hw wd hsu =>
  r_f_law_told.trans (R_told14 _ w b hw wd hsu (v_lcore (m + 2) w (by omega)) (v_turns (m + 3) _ (by have := core_len w; omega)) (v_is_six (m + 2)) (v_one m w hw) (v_same_other (m + 2)) (v_same_T3 m) (v_same_str (m + 3) _) (fun v h => v_is_word (m + 2) 4 v h) (v_fresh_T3 (m + 1)) (v_back (m + 3)) (v_law_reduced (m + 3)))
theorem law_true (ns : List Int) (h : ns.length ≤ 63) : callN defs (fun x => globs.lookup x) 6 "law" [.list (ns.map .int)] = some (.frz (.bool true)) :=
  (r_law (n := 5)).trans (R_law14 _ ns (v_draws 4 ns 60 h (by decide)) (v_word 4) (v_some_word 3) (v_commutator 3) (v_back 4) (v_told 0) (fun w hw => v_one 1 w hw) (v_same_other 3))
end Lw
open PySem PySem.W PyProof.Rows
theorem noN : (PY.bnames.filter fun x => (PY.findDef Lw.defs x).isNone) = PY.bnames := by kernel_rfl
theorem noN_use {K : PySem.W.Frag} (h : PY.NoNames K PY.bnames) : PY.NoNames K (PY.bnames.filter fun x => (PY.findDef Lw.defs x).isNone) := by
  rw [noN]
  exact h
set_option maxHeartbeats 0 in
theorem PySem.Challenge.cw_wordscancel_k14_one_commutator_holds : PySem.Challenge.rw_wordscancel_k14_one_commutator.Holds := by
  w_on; o_law; k_head; (case hw => w_witness2)
  k_fill
  refine PY.walk_ofG (l := PySem.Challenge.rw_wordscancel_k14_one_commutator) (n := 63) (k := 6) (x := "script") (sp := fun w => PY.spC _ 1 (PY.callN Lw.defs (fun x => Lw.globs.lookup x) 6 "law")) rfl (by decide) rfl ⟨rfl, by decide, by decide⟩ (fun w h Y => PySem.W.kIn_of Y) ?F (fun w H a ns hl hS => PY.law_sp (Lw.law_true ns hl) hS)
  case F =>
    intro w mg fa h KX G hmg
    refine' PY.law_F (defs := Lw.defs) (gs := Lw.globs) (dl := Lw.d_law) KX G hmg Lw.stats ⟨PY.fact_mk ?a0 ?l0 ?c0 ?k0, PY.fact_mk ?a1 ?l1 ?c1 ?k1, PY.fact_mk ?a2 ?l2 ?c2 ?k2, PY.fact_mk ?a3 ?l3 ?c3 ?k3, PY.fact_mk ?a4 ?l4 ?c4 ?k4, PY.fact_mk ?a5 ?l5 ?c5 ?k5, PY.fact_mk ?a6 ?l6 ?c6 ?k6, PY.fact_mk ?a7 ?l7 ?c7 ?k7, PY.fact_mk ?a8 ?l8 ?c8 ?k8, PY.fact_mk ?a9 ?l9 ?c9 ?k9, PY.fact_mk ?a10 ?l10 ?c10 ?k10, PY.fact_mk ?a11 ?l11 ?c11 ?k11, PY.fact_mk ?a12 ?l12 ?c12 ?k12, PY.fact_mk ?a13 ?l13 ?c13 ?k13, PY.fact_mk ?a14 ?l14 ?c14 ?k14, PY.fact_mk ?a15 ?l15 ?c15 ?k15, PY.fact_mk ?a16 ?l16 ?c16 ?k16, PY.fact_mk ?a17 ?l17 ?c17 ?k17, PY.fact_mk ?a18 ?l18 ?c18 ?k18, PY.fact_mk ?a19 ?l19 ?c19 ?k19, PY.fact_mk ?a20 ?l20 ?c20 ?k20, PY.fact_mk ?a21 ?l21 ?c21 ?k21, PY.fact_mk ?a22 ?l22 ?c22 ?k22, PY.fact_mk ?a23 ?l23 ?c23 ?k23, PY.fact_mk ?a24 ?l24 ?c24 ?k24, PY.fact_mk ?a25 ?l25 ?c25 ?k25, trivial⟩ (noN_use ⟨?z0, ?z1, ?z2, ?z3, ?z4, ?z5, ?z6, ?z7, ?z8, ?z9, ?z10, ?z11, ?z12, ?z13, ?z14, trivial⟩) trivial (by kernel_rfl) rfl
    (case a0 => k_is); (case l0 => k_is); (case c0 => k_is); (case k0 => k_is); (case a1 => k_is); (case l1 => k_is); (case c1 => k_is); (case k1 => k_is); (case a2 => k_is); (case l2 => k_is); (case c2 => k_is); (case k2 => k_is); (case a3 => k_is); (case l3 => k_is); (case c3 => k_is); (case k3 => k_is); (case a4 => k_is); (case l4 => k_is); (case c4 => k_is); (case k4 => k_is); (case a5 => k_is); (case l5 => k_is); (case c5 => k_is); (case k5 => k_is); (case a6 => k_is); (case l6 => k_is); (case c6 => k_is); (case k6 => k_is); (case a7 => k_is); (case l7 => k_is); (case c7 => k_is); (case k7 => k_is); (case a8 => k_is); (case l8 => k_is); (case c8 => k_is); (case k8 => k_is); (case a9 => k_is); (case l9 => k_is); (case c9 => k_is); (case k9 => k_is); (case a10 => k_is); (case l10 => k_is); (case c10 => k_is); (case k10 => k_is); (case a11 => k_is); (case l11 => k_is); (case c11 => k_is); (case k11 => k_is); (case a12 => k_is); (case l12 => k_is); (case c12 => k_is); (case k12 => k_is); (case a13 => k_is); (case l13 => k_is); (case c13 => k_is); (case k13 => k_is); (case a14 => k_is); (case l14 => k_is); (case c14 => k_is); (case k14 => k_is); (case a15 => k_is); (case l15 => k_is); (case c15 => k_is); (case k15 => k_is); (case a16 => k_is); (case l16 => k_is); (case c16 => k_is); (case k16 => k_is); (case a17 => k_is); (case l17 => k_is); (case c17 => k_is); (case k17 => k_is); (case a18 => k_is); (case l18 => k_is); (case c18 => k_is); (case k18 => k_is); (case a19 => k_is); (case l19 => k_is); (case c19 => k_is); (case k19 => k_is); (case a20 => k_is); (case l20 => k_is); (case c20 => k_is); (case k20 => k_is); (case a21 => k_is); (case l21 => k_is); (case c21 => k_is); (case k21 => k_is); (case a22 => k_is); (case l22 => k_is); (case c22 => k_is); (case k22 => k_is); (case a23 => k_is); (case l23 => k_is); (case c23 => k_is); (case k23 => k_is); (case a24 => k_is); (case l24 => k_is); (case c24 => k_is); (case k24 => k_is); (case a25 => k_is); (case l25 => k_is); (case c25 => k_is); (case k25 => k_is); (case z0 => k_is); (case z1 => k_is); (case z2 => k_is); (case z3 => k_is); (case z4 => k_is); (case z5 => k_is); (case z6 => k_is); (case z7 => k_is); (case z8 => k_is); (case z9 => k_is); (case z10 => k_is); (case z11 => k_is); (case z12 => k_is); (case z13 => k_is); (case z14 => k_is)
