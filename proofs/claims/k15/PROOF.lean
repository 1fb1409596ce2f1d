import PyProof.Rows.All
import Wide.All
import OpenK.AllK
import Wide.FinOn
import HandS.Style
import HandS.TupAny
import HandS.ForMost
import HandS.Zip0
import HandS.Iter
import HandS.SortKw
import HandS.Lambda
import KE.SortKeyHeap
import KE.SortData
import HandS.Star
import HandS.TupMul
import HandS.Deep
import HandS.Conv
import HandS.Zip
import HandS.Walk
import HandS.Wide
import HandS.Small
import HandS.More
import HandS.IsInst
import HandS.WordsDict
import HandS.Text
import HandS.Codes
import HandS.EndTab
import PySem.Challenge.RW_layicons_k15_whole_desks_turned
set_option Elab.async false
set_option linter.all false
set_option maxRecDepth 100000
/-! QRev: t[::-1] of a tuple. -/
namespace HT
open PySem PySem.Spec PyProof.Rows
theorem rev_adjust (n : Nat) : Builtin.Slice.sliceAdjust none none (-1) (n : Int) = ((n : Int) - 1, -1) := by
  unfold Builtin.Slice.sliceAdjust
  simp
theorem rev_places (n : Nat) : Builtin.Slice.slicePlaces ((n : Int) - 1) (-1) (-1) = n := by
  unfold Builtin.Slice.slicePlaces
  have h1 : ¬ ((-1 : Int) > 0) := by omega
  rw [if_neg h1]
  by_cases h : (n : Int) - 1 > -1
  · rw [if_pos h, show (-(-1) : Int) = 1 by decide, Int.ediv_one]; omega
  · rw [if_neg h]; omega
theorem fm_cong {α β : Type} {f g : α → Option β} : ∀ {l : List α}, (∀ a ∈ l, f a = g a) → l.filterMap f = l.filterMap g
  | [], _ => rfl
  | a :: l, h => by rw [List.filterMap_cons, List.filterMap_cons, h a List.mem_cons_self, fm_cong fun b hb => h b (List.mem_cons_of_mem _ hb)]
theorem rev_pick (xs : Array Value) : ((List.range xs.size).filterMap fun (m : Nat) => xs[(((xs.size : Nat) : Int) - 1 + (m : Int) * (-1)).toNat]?).toArray = xs.toList.reverse.toArray := by
  have e : ((List.range xs.size).filterMap fun (m : Nat) => xs[(((xs.size : Nat) : Int) - 1 + (m : Int) * (-1)).toNat]?) = ((List.range xs.size).map fun m => xs.size - 1 - m).filterMap (xs[·]?) := by
    rw [List.filterMap_map]
    refine fm_cong fun m hm => ?_
    rw [List.mem_range] at hm
    show xs[(((xs.size : Nat) : Int) - 1 + (m : Int) * (-1)).toNat]? = xs[xs.size - 1 - m]?
    rw [show (((xs.size : Nat) : Int) - 1 + (m : Int) * (-1)).toNat = xs.size - 1 - m by omega]
  rw [e, PySem.W.krv_range, List.filterMap_reverse, PySem.W.krv_all]
section
variable {prog : Program} {w : World} {A : Around} {E : Value → Shared → Prop} {s : Shared}
theorem rev_applied {sl : Addr} {vl vu vs : Value} {n : Nat} {Q : Int × Int × Nat → Shared → Prop} (hs : s.heap.IsSliceOf sl vl vu vs) (pl : IsPart vl none) (pu : IsPart vu none) (ps : IsPart vs (some (-1)))
    (h : Q ((n : Int) - 1, -1, n) s) : wpAny (model prog w) A (Builtin.Slice.sliceApplied (.ref sl) (pure (n : Int))) Q E s := by
  obtain ⟨o2, g1, g2, g3⟩ := id hs
  unfold Builtin.Slice.sliceApplied Builtin.Slice.sliceFields
  refine wpAny_bind (wpAny_bind (wpAny_field g1 g3 (x := vl) rfl (wpAny_bind (wpAny_field g1 g3 (x := vu) rfl (wpAny_bind (wpAny_field g1 g3 (x := vs) rfl (wpAny_pure ?_)))))))
  refine wpAny_bind (slicePart_ ps ?_)
  show wpAny _ _ (if ((-1 : Int) == 0) = true then _ else _) _ _ s
  rw [if_neg (by decide)]
  refine wpAny_bind (slicePart_ pl (wpAny_bind (slicePart_ pu (wpAny_bind (wpAny_pure ?_)))))
  show wpAny _ _ (match Builtin.Slice.sliceAdjust none none (-1) (n : Int) with | (lo, hi) => pure (lo, (-1 : Int), Builtin.Slice.slicePlaces lo hi (-1))) _ _ s
  rw [rev_adjust n]
  show wpAny _ _ (pure ((n : Int) - 1, (-1 : Int), Builtin.Slice.slicePlaces ((n : Int) - 1) (-1) (-1))) _ _ s
  rw [rev_places]
  exact wpAny_pure h
theorem rev_tuple {t sl : Addr} {items : Array Value} {vl vu vs : Value} {Q : Value → Shared → Prop} (ht : IsTup s.heap t items) (hs : s.heap.IsSliceOf sl vl vu vs) (pl : IsPart vl none) (pu : IsPart vu none) (ps : IsPart vs (some (-1)))
    (h : Q (.ref s.heap.objs.size) { s with heap := s.heap.push { cls := .type "tuple", data := .seq items.toList.reverse.toArray } })
    (hsz : items.size ≤ sizeLine) : wpAny (model prog w) A (getItem (.ref t) (.ref sl)) Q E s := by
  have fits : sizeOk (.seq items.toList.reverse.toArray) := by
    show items.toList.reverse.toArray.size ≤ sizeLine
    rw [List.size_toArray, List.length_reverse, Array.length_toList]
    exact hsz
  obtain ⟨o2, g1, g2, g3⟩ := id hs
  have kind : s.TypeIs (.ref sl) "slice" := ⟨o2, g1, g2⟩
  unfold getItem
  try with_reducible refine wpAny_holding ?_
  first | refine wpAny_bind (wpAny_pure ?_) | skip
  refine wpAny_bind (wpAny_sequenceKey ht.typeIs (by decide) ?_)
  refine wpAny_bind (wpAny_callSpecial?_slot (name := "__getitem__") ht.typeIs slot_tuple_getitem
    (wpAny_call_entry slot_tuple_getitem ht.typeIs entry_tuple_getitem ?_ (args_tuple_getitem _ _)))
  show wpAny _ _ (Builtin.Tuple.tupleItemsOf (.ref t) >>= _) _ _ s
  refine wpAny_bind (tupleItemsOf_ ht ?_)
  refine wpAny_bind (wpAny_typeOf kind ?_)
  rw [if_pos (by decide)]
  refine wpAny_bind (rev_applied hs pl pu ps ?_)
  have no : ¬ ((((items.size : Nat) : Int) - 1 == 0 && (-1 : Int) == 1 && items.size == items.size) = true) := by
    intro q
    rw [Bool.and_eq_true, Bool.and_eq_true] at q
    exact absurd q.1.2 (by decide)
  show wpAny _ _ (if (((items.size : Nat) : Int) - 1 == 0 && (-1 : Int) == 1 && items.size == items.size) = true then _ else _) _ _ s
  rw [if_neg no, rev_pick]
  first
    | exact wpAny_bind (m := Builtin.Tuple.tupleExact _) (wpAny_newObj_type (wpAny_pure ⟨_, rfl, wpAny_pure h⟩) fits)
    | exact wpAny_bind (m := Builtin.Tuple.tupleExact _) (wpAny_newObj_type (wpAny_bind (wpAny_pure (wpAny_pure ⟨_, rfl, wpAny_pure h⟩))) fits)
    | exact wpAny_bind (wpAny_bind (m := Builtin.Tuple.tupleExact _) (wpAny_newObj_type (wpAny_pure (wpAny_pure ⟨_, rfl, wpAny_pure h⟩)) fits))
    | exact wpAny_bind (wpAny_bind (m := Builtin.Tuple.tupleExact _) (wpAny_newObj_type (wpAny_pure ⟨_, rfl, wpAny_pure h⟩) fits))
end
end HT
namespace L2
open PySem PySem.Spec PyProof.Rows
/-- xs[::-1], a list or a tuple -/
def tRevQ (K : PySem.W.Frag) (te : TE) : TE := fun σ H Q => te σ H fun x H1 => (∃ a xs, x = .ref a ∧ SqL K H1 a xs ∧ ∀ p, H1 p = none → Q (.ref p) (upd H1 p (.lst xs.reverse))) ∨
  (∃ a xs, x = .ref a ∧ SqT K H1 a xs ∧ ∀ p, H1 p = none → Q (.ref p) (upd H1 p (.tup xs.reverse)))
theorem pe_revQ {X : Cx} {e : Expr} {te : TE} {k : Nat} {p1 p2 p3 pos : Pos} (he : PE X e te) : PE X (.Subscript e (.Slice none none (some (.UnaryOp .USub (.Constant (.int 1) k p1) p2)) p3) pos) (tRevQ X.K te) := by
  refine ⟨fun pins s0 σ H Q I h => ?_⟩
  refine Subscript_ (thn (he.run pins s0 σ H _ I h) fun v s1 ⟨x, H1, I1, r1, q1⟩ => ?_)
  have step : PO X (some (.UnaryOp .USub (.Constant (.int 1) k p1) p2)) (tPart (tUn (rU fun i => .int (-i)) (tC (.int 1)))) := po_some (pe_un un_neg pe_int)
  refine wpAny_Slice (thn (po_none.run pins s1 σ H1 (fun o G => o = none ∧ G = H1) I1 ⟨rfl, rfl⟩) fun vl s2 ⟨l, H2, I2, pl, z1, z2⟩ => ?_)
  subst z1 z2
  refine thn (po_none.run pins s2 σ H2 (fun o G => o = none ∧ G = H2) I2 ⟨rfl, rfl⟩) fun vu s3 ⟨u, H3, I3, pu, z1, z2⟩ => ?_
  subst z1 z2
  refine thn (step.run pins s3 σ H3 (fun o G => o = some (-1) ∧ G = H3) I3 ⟨1, rfl, -1, rfl, rfl, rfl⟩) fun vs s4 ⟨o, H4, I4, ps, z1, z2⟩ => ?_
  subst z1 z2
  have J : Inv X pins σ H4 { s4 with heap := s4.heap.push { cls := .type "slice", data := .fields #[vl, vu, vs] } } := I4.kept (t' := s4.toks) fun b ob q => Heap.get?_push_of_some _ q
  rcases q1 with ⟨a, xs, rfl, hx, q⟩ | ⟨a, xs, rfl, hx, q⟩
  · cases r1
    obtain ⟨its, r, ht, hz⟩ := J.list hx
    have same := r.length
    show wpAny (model X.prog X.w) X.A (subscriptTail e (.Slice none none (some (.UnaryOp .USub (.Constant (.int 1) k p1) p2)) p3) (.ref a) (.ref s4.heap.objs.size)) (EP X pins σ Q) X.xe _
    refine tail_any (ops := [.ref a, .ref s4.heap.objs.size]) ht.isList.typeIs (PySem.slot_list_getitem.lookup) ?_ (by with_unfolding_all rfl)
    refine wpAny_getItem_list_slice ht.isList (Heap.IsSliceOf.new _ vl vu vs) pl pu ps (by decide) ?_ (by rw [List.size_toArray]; omega)
    rw [PySem.W.krv_pick]
    refine ⟨.ref _, _, J.laid (t' := s4.toks) (o := .lst xs.reverse) (fun b ob q => Heap.get?_push_of_some _ q) (Nat.le_refl _) ?_, rfl, q _ (J.hok.fresh (Nat.le_refl _))⟩
    exact ⟨by rw [List.length_reverse]; exact hz, _, 0, r.reverse, Heap.get?_push_size _ rfl⟩
  · cases r1
    obtain ⟨its, r, ht, hz⟩ := J.tuple hx
    have same := r.length
    show wpAny (model X.prog X.w) X.A (subscriptTail e (.Slice none none (some (.UnaryOp .USub (.Constant (.int 1) k p1) p2)) p3) (.ref a) (.ref s4.heap.objs.size)) (EP X pins σ Q) X.xe _
    refine tail_any (ops := [.ref a, .ref s4.heap.objs.size]) ht.typeIs (PyProof.Rows.slot_tuple_getitem.lookup) ?_ (by with_unfolding_all rfl)
    refine HT.rev_tuple ht (Heap.IsSliceOf.new _ vl vu vs) pl pu ps ?_ (by rw [List.size_toArray]; omega)
    refine ⟨.ref _, _, J.laid (t' := s4.toks) (o := .tup xs.reverse) (fun b ob q => Heap.get?_push_of_some _ q) (Nat.le_refl _) ?_, rfl, q _ (J.hok.fresh (Nat.le_refl _))⟩
    exact ⟨by rw [List.length_reverse]; exact hz, _, r.reverse, IsTup.new _ _⟩
end L2

/-! QEv: an evaluator over plain data for a fragment of Python; its trees and what they give. -/
namespace Q
open PySem L2

/-- plain data; loc n: the n-th mutable object of the store; frz: the script -/
inductive D where
  | non | bl (b : Bool) | int (i : Int) | str (s : Str)
  | tup (ds : List D) | lst (ds : List D) | loc (n : Nat) | frz (ns : List Int)
  deriving Inhabited
/-- mutable objects -/
inductive SO where
  | lst (ds : List D) | dct (kvs : List (Key × D))
  /-- a dict while a comprehension walks it -/
  | lck (kvs : List (Key × D))
  deriving Inhabited
abbrev Store := List SO
abbrev Env := List (Option D)
abbrev R := Option (D × Store)

mutual
/-- data of a depth of at most n, no places within -/
def D.ok : Nat → D → Bool
  | _, .non => true
  | _, .bl _ => true
  | _, .int _ => true
  | _, .str _ => true
  | 0, .tup _ => false
  | 0, .lst _ => false
  | n + 1, .tup ds => D.okL n ds
  | n + 1, .lst ds => D.okL n ds
  | _, .loc _ => false
  | _, .frz _ => false
def D.okL : Nat → List D → Bool
  | _, [] => true
  | n, d :: ds => D.ok n d && D.okL n ds
end
mutual
def D.eq : D → D → Bool
  | .non, .non => true
  | .bl a, .bl b => a == b
  | .bl a, .int j => (if a then 1 else 0) == j
  | .int i, .bl b => i == (if b then 1 else 0)
  | .int i, .int j => i == j
  | .str x, .str y => x == y
  | .lst xs, .lst ys => D.eqL xs ys
  | .tup xs, .tup ys => D.eqL xs ys
  | .non, _ => false
  | .bl _, _ => false
  | .int _, _ => false
  | .str _, _ => false
  | .lst _, _ => false
  | .tup _, _ => false
  | .loc _, _ => false
  | .frz _, _ => false
def D.eqL : List D → List D → Bool
  | [], [] => true
  | x :: xs, y :: ys => D.eq x y && D.eqL xs ys
  | [], _ :: _ => false
  | _ :: _, [] => false
end

/-- a list, a tuple, a mutable list: its items -/
def seqOf (st : Store) : D → Option (List D)
  | .tup ds => some ds
  | .lst ds => some ds
  | .loc n => match st[n]? with
    | some (.lst ds) => some ds
    | _ => none
  | _ => none
/-- a list's items -/
def lstOf (st : Store) : D → Option (List D)
  | .lst ds => some ds
  | .loc n => match st[n]? with
    | some (.lst ds) => some ds
    | _ => none
  | _ => none
def dctOf (st : Store) : D → Option (List (Key × D))
  | .loc n => match st[n]? with
    | some (.dct kvs) => some kvs
    | some (.lck kvs) => some kvs
    | _ => none
  | _ => none
/-- a mutable list as data, at the top -/
def pure1 (st : Store) : D → D
  | .loc n => match st[n]? with
    | some (.lst ds) => .lst ds
    | _ => .loc n
  | d => d
def deq (st : Store) (a b : D) : Option Bool :=
  if (pure1 st a).ok 20 && (pure1 st b).ok 20 then some ((pure1 st a).eq (pure1 st b)) else none
/-- a new list: kept as data, or a place of the store -/
def mkL (m : Bool) (ds : List D) (st : Store) : R :=
  if ds.length ≤ sizeLine then some (if m then (.loc st.length, st ++ [.lst ds]) else (.lst ds, st)) else none
def mkD (kvs : List (Key × D)) (st : Store) : R := some (.loc st.length, st ++ [.dct kvs])
def mkT (ds : List D) (st : Store) : R := if ds.length ≤ sizeLine then some (.tup ds, st) else none
/-- bounds of products and quotients -/
def bigP : Nat := 1000
def binI : Operator → Int → Int → Option Int
  | .Add, i, j => some (i + j)
  | .Sub, i, j => some (i - j)
  | .Mult, i, j => if i.natAbs < 2 ^ 1000 ∧ j.natAbs < 2 ^ 1000 then some (i * j) else none
  | .FloorDiv, i, j => if j ≠ 0 ∧ j.natAbs < 2 ^ 1000 then some (i.fdiv j) else none
  | .Mod, i, j => if j ≠ 0 then some (i.fmod j) else none
  | .Pow, i, j => if 0 ≤ j ∧ j ≤ 1000000 ∧ i.natAbs < 2 ^ 64 then some (i ^ j.toNat) else none
  | _, _, _ => none
/-- operators that make no list -/
def binD (op : Operator) (a b : D) (st : Store) : R :=
  match op, a, b with
  | op, .int i, .int j => (binI op i j).map fun k => (.int k, st)
  | .Add, .str x, .str y => if x.length + y.length ≤ 1000000 then some (.str (x ++ y), st) else none
  | .Add, .tup xs, .tup ys => mkT (xs ++ ys) st
  | .Mult, .tup xs, .int k => if xs ≠ [] ∧ 2 ≤ k ∧ k ≤ 1000 ∧ xs.length ≤ 1000 then mkT (List.replicate k.toNat xs).flatten st else none
  | _, _, _ => none
def cmpI : CmpOp → Int → Int → Option Bool
  | .Lt, i, j => some (decide (i < j))
  | .LtE, i, j => some (decide (i ≤ j))
  | .Gt, i, j => some (decide (j < i))
  | .GtE, i, j => some (decide (j ≤ i))
  | _, _, _ => none
def cmpD (st : Store) : CmpOp → D → D → Option Bool
  | .Eq, a, b => deq st a b
  | .NotEq, a, b => (deq st a b).map not
  | op, .int i, .int j => cmpI op i j
  | .LtE, .str x, .str y => some (!decide (y.cps.toList < x.cps.toList))
  | _, _, _ => none
/-- a sign in a text -/
def isSign (x : Str) : Option Nat := match x.cps.toList with
  | [c] => some c
  | _ => none
def flatD : D → Bool
  | .non => true
  | .bl _ => true
  | .int _ => true
  | .str _ => true
  | _ => false
/-- x in y -/
def memD (st : Store) (a b : D) : Option Bool :=
  match b with
  | .str z => match a with
    | .str x => match isSign x with
      | some c => some (decide (c ∈ z.cps.toList))
      | none => none
    | _ => none
  | .tup ds => if flatD a && ds.all flatD then some (ds.any fun y => y.eq a) else none
  | b => match lstOf st b with
    | some ds => if a.ok 20 && D.okL 20 ds then some (ds.any fun y => y.eq a) else none
    | none => none
def keyOf : D → Option Key
  | .int i => some (.inl i)
  | .str x => some (.inr x)
  | _ => none
def unkey : Key → D
  | .inl i => .int i
  | .inr x => .str x
def dget (kvs : List (Key × D)) (k : Key) : Option D := (kvs.find? fun kv => decide (kv.1 = k)).map (·.2)
def dput (kvs : List (Key × D)) (k : Key) (v : D) : List (Key × D) :=
  if (kvs.any fun kv => decide (kv.1 = k)) = true then kvs.map (fun kv => if kv.1 = k then (kv.1, v) else kv) else kvs ++ [(k, v)]
def ddrop (kvs : List (Key × D)) (k : Key) : List (Key × D) := kvs.filter fun kv => !decide (kv.1 = k)
/-- xs[i], any sign -/
def atD (xs : List D) (i : Int) : Option D := atI xs i
/-- an item by its place: of a list, a tuple, a text -/
def subD (st : Store) (a i : D) : Option D :=
  match i with
  | .int k => match a with
    | .str z => if z.length ≤ sizeLine then (atI z.cps.toList k).map fun c => .str ⟨#[c]⟩ else none
    | a => match seqOf st a with
      | some ds => atI ds k
      | none => none
  | _ => none
def cutD {α : Type} (xs : List α) (lo hi : Option Int) : List α :=
  (xs.drop (HT.sIx xs.length 0 lo)).take (HT.sIx xs.length xs.length hi - HT.sIx xs.length 0 lo)
/-- a slice -/
def sliceD (a : D) (lo hi : Option Int) (st : Store) : R :=
  match a with
  | .str z => if z.length ≤ sizeLine then some (.str ⟨(cutD z.cps.toList lo hi).toArray⟩, st) else none
  | .tup ds => some (.tup (cutD ds lo hi), st)
  | a => match lstOf st a with
    | some ds => some (.lst (cutD ds lo hi), st)
    | none => none

/-! ### the trees -/
inductive Bi where
  | len | int | bool | abs | max | min | all | any | tuple | list | sorted
  deriving DecidableEq, Inhabited
def Bi.name : Bi → String
  | .len => "len"
  | .int => "int"
  | .bool => "bool"
  | .abs => "abs"
  | .max => "max"
  | .min => "min"
  | .all => "all"
  | .any => "any"
  | .tuple => "tuple"
  | .list => "list"
  | .sorted => "sorted"
inductive Me where
  | append | pop | insert | popK | get
  deriving DecidableEq, Inhabited
def Me.name : Me → String
  | .append => "append"
  | .pop => "pop"
  | .insert => "insert"
  | .popK => "pop"
  | .get => "get"
mutual
inductive X where
  | int (i : Int) | str (s : Str) | bl (b : Bool) | non
  | var (i : Nat) | glb (x : Str)
  | bin (op : Operator) (a b : X) | cat (m : Bool) (a b : X) | neg (a : X) | not (a : X)
  | cmp (op : CmpOp) (a b : X) | chain (op op' : CmpOp) (a b c : X)
  | isN (a : X) | notN (a : X) | isB (a : X) (b : Bool)
  | mem (a b : X) | notIn (a b : X) | memK (a b : X) | notInK (a b : X)
  | and (es : List X) | or (es : List X) | ite (c a b : X)
  | tup (es : List X) | lst (m : Bool) (es : List X) | star (a : X) | dct (ks vs : List X)
  | sub (a i : X) | subK (a i : X) | slice (a lo hi : X) | rev (a : X)
  | call (f : Str) (es : List X) | bi (f : Bi) (m : Bool) (es : List X) | lrange (m : Bool) (a : X) | isa (tys : List String) (a : X)
  | meth (f : Me) (o : X) (es : List X)
  | comp (own : List (Str × Nat)) (t : Tt) (it : It) (c : X) (e : X)
  | compK (own : List (Str × Nat)) (t : Tt) (i : Nat) (c : X) (e : X)
  | comp2 (own : List (Str × Nat)) (t : Tt) (it : It) (c : X) (own1 : List Nat) (t1 : Tt) (it1 : It) (c1 : X) (e : X)
  | sortK (a : X) (ky : X)
  | none_
inductive Tt where
  | name (i : Nat) | tup (ts : List Tt) | sub (o i : X) | subK (o i : X)
inductive It where
  | seq (a : X) | rng1 (a : X) | rng2 (a b : X) | enum (a : X) | zip (a b : X) | chars (a : X)
end
inductive S where
  | pass | set (t : Tt) (e : X) | par (ts : List Nat) (es : List X) | aug (i : Nat) (op : Operator) (e : X) | expr (e : X)
  | ite (c : X) (a b : List S) | for_ (t : Tt) (it : It) (b : List S) | while_ (c : X) (b : List S) | ret (e : X) | retN | never
  deriving Inhabited
instance : Inhabited X := ⟨.non⟩
instance : Inhabited Tt := ⟨.name 0⟩
instance : Inhabited It := ⟨.seq .non⟩
/-- a def: its parameters' number, all names by slot, its body -/
structure Def where
  name : Str
  arity : Nat
  names : List Str
  body : List S
  deriving Inhabited

/-! ### the same data, told by a test -/
mutual
def D.beq : D → D → Bool
  | .non, .non => true
  | .bl a, .bl b => a == b
  | .int a, .int b => a == b
  | .str a, .str b => decide (a = b)
  | .tup a, .tup b => D.beqL a b
  | .lst a, .lst b => D.beqL a b
  | .loc a, .loc b => a == b
  | .frz a, .frz b => a == b
  | _, _ => false
def D.beqL : List D → List D → Bool
  | [], [] => true
  | a :: x, b :: y => D.beq a b && D.beqL x y
  | _, _ => false
end
mutual
theorem D.beq_eq : ∀ a b : D, D.beq a b = true → a = b
  | .non, b, h => by cases b <;> simp_all [D.beq]
  | .bl _, b, h => by cases b <;> simp_all [D.beq]
  | .int _, b, h => by cases b <;> simp_all [D.beq]
  | .str _, b, h => by cases b <;> simp_all [D.beq]
  | .loc _, b, h => by cases b <;> simp_all [D.beq]
  | .frz _, b, h => by cases b <;> simp_all [D.beq]
  | .tup x, b, h => by
    cases b <;> simp only [D.beq, Bool.false_eq_true] at h
    rw [D.beqL_eq _ _ h]
  | .lst x, b, h => by
    cases b <;> simp only [D.beq, Bool.false_eq_true] at h
    rw [D.beqL_eq _ _ h]
theorem D.beqL_eq : ∀ a b : List D, D.beqL a b = true → a = b
  | [], b, h => by cases b <;> simp_all [D.beqL]
  | x :: xs, b, h => by
    cases b with
    | nil => simp [D.beqL] at h
    | cons y ys =>
      simp only [D.beqL, Bool.and_eq_true] at h
      rw [D.beq_eq _ _ h.1, D.beqL_eq _ _ h.2]
end
mutual
theorem D.beq_self : ∀ a : D, D.beq a a = true
  | .non => by simp [D.beq]
  | .bl _ => by simp [D.beq]
  | .int _ => by simp [D.beq]
  | .str _ => by simp [D.beq]
  | .loc _ => by simp [D.beq]
  | .frz _ => by simp [D.beq]
  | .tup x => by simp only [D.beq]; exact D.beqL_self x
  | .lst x => by simp only [D.beq]; exact D.beqL_self x
theorem D.beqL_self : ∀ a : List D, D.beqL a a = true
  | [] => by simp [D.beqL]
  | x :: xs => by simp only [D.beqL, Bool.and_eq_true]; exact ⟨D.beq_self x, D.beqL_self xs⟩
end
/-- a guard: what a place of the store must hold -/
def guardOk (g : Option (Nat × List D)) (st : Store) : Bool :=
  match g with
  | none => true
  | some (n, ds) => match st[n]? with
    | some (.lst es) => D.beqL es ds
    | _ => false

/-! ### what the trees give -/
inductive Fl where
  | next | ret (d : D)
abbrev RS := Option (Fl × Env × Store)
/-- what surrounds: constants, defs, the most turns of a while -/
structure Ctx where
  cst : Str → Option D
  call : Str → List D → Store → R
  turns : Nat

mutual
def bindT : Tt → D → Env → Option Env
  | .name i, d, env => if i < env.length then some (env.set i (some d)) else none
  | .tup ts, .tup ds, env => if ds.length = ts.length then bindTs ts ds env else none
  | _, _, _ => none
def bindTs : List Tt → List D → Env → Option Env
  | [], [], env => some env
  | t :: ts, d :: ds, env => (bindT t d env).bind fun env' => bindTs ts ds env'
  | _, _, _ => none
end
def wipeE (env : Env) : List Nat → Env
  | [] => env
  | i :: is => (wipeE env is).set i none
def forLoop (g : Option (Nat × List D)) (bd : D → Env → Option Env) (body : Env → Store → RS) : List D → Env → Store → RS
  | [], env, st => if guardOk g st then some (.next, env, st) else none
  | x :: xs, env, st => if guardOk g st then
      (bd x env).bind fun env1 => (body env1 st).bind fun r => match r with
        | (.ret d, env2, st2) => some (.ret d, env2, st2)
        | (.next, env2, st2) => forLoop g bd body xs env2 st2
    else none
def whileLoop (c : Env → Store → Option (Bool × Store)) (body : Env → Store → RS) : Nat → Env → Store → RS
  | 0, _, _ => none
  | n + 1, env, st => (c env st).bind fun r => match r with
    | (false, st1) => some (.next, env, st1)
    | (true, st1) => (body env st1).bind fun r => match r with
      | (.ret d, env2, st2) => some (.ret d, env2, st2)
      | (.next, env2, st2) => whileLoop c body n env2 st2
/-- a slice's bound, or none of it (told by True) -/
def asO (no : Bool) : R → Option (Option Int × Store)
  | some (.int i, st) => if no then none else some (some i, st)
  | some (_, st) => if no then some (none, st) else none
  | _ => none
def noneX : X → Bool
  | .none_ => true
  | _ => false
/-- one turn of a comprehension: what it adds; env0: its own names not set -/
def compOne (env0 : Env) (bd : D → Env → Option Env) (c : Env → Store → Option (Bool × Store)) (e : Env → Store → Option (List D × Store)) (x : D) (st : Store) : Option (List D × Store) :=
  (bd x env0).bind fun env1 => (c env1 st).bind fun r => if r.1 then e env1 r.2 else some ([], r.2)
/-- the items of a comprehension -/
def compLoop (g : Option (Nat × List D)) (one : D → Store → Option (List D × Store)) : List D → Store → Option (List D × Store)
  | [], st => if guardOk g st then some ([], st) else none
  | x :: xs, st => if guardOk g st then (one x st).bind fun r => (compLoop g one xs r.2).bind fun q => some (r.1 ++ q.1, q.2) else none
/-- a test's answer -/
def asB : R → Option (Bool × Store)
  | some (.bl b, st) => some (b, st)
  | _ => none
def rangeD (lo hi : Int) : List D := (List.range (hi - lo).toNat).map fun i => .int (lo + (i : Nat))
def lim62 (i : Int) : Bool := decide (-(2 ^ 62) ≤ i ∧ i < 2 ^ 62)

abbrev RI := Option (Option (Nat × List D) × List D × Store)
/-- what is walked: its guard and its items -/
def srcOf (d : D) (st : Store) : RI :=
  match d with
  | .tup ds => some (none, ds, st)
  | .lst ds => some (none, ds, st)
  | .loc n => match st[n]? with
    | some (.lst ds) => some (some (n, ds), ds, st)
    | _ => none
  | _ => none
def enumD : Nat → List D → List D
  | _, [] => []
  | i, d :: ds => .tup [.int (i : Nat), d] :: enumD (i + 1) ds
def zipD : List D → List D → List D
  | a :: x, b :: y => .tup [a, b] :: zipD x y
  | _, _ => []
def signsD (x : Str) : List D := x.cps.toList.map fun c => .str ⟨#[c]⟩
/-- texts in order of their signs -/
def leS (x y : Str) : Bool := !decide (y.cps.toList < x.cps.toList)
def insS (x : Str) : List Str → List Str
  | [] => [x]
  | y :: ys => if leS x y then x :: y :: ys else y :: insS x ys
def sortS : List Str → List Str
  | [] => []
  | x :: xs => insS x (sortS xs)
def strsOf : List D → Option (List Str)
  | [] => some []
  | .str x :: ds => (strsOf ds).map fun xs => x :: xs
  | _ => none
def intsOf : List D → Option (List Int)
  | [] => some []
  | .int x :: ds => (intsOf ds).map fun xs => x :: xs
  | _ => none
def blsOf : List D → Option (List Bool)
  | [] => some []
  | .bl x :: ds => (blsOf ds).map fun xs => x :: xs
  | _ => none
def maxI : List Int → Int
  | [] => 0
  | [x] => x
  | x :: xs => max x (maxI xs)
def minI : List Int → Int
  | [] => 0
  | [x] => x
  | x :: xs => min x (minI xs)
/-- a dict of pairs -/
def mergeD : List (Key × D) → List D → Option (List (Key × D))
  | acc, [] => some acc
  | acc, .tup [k, v] :: ds => (keyOf k).bind fun k => mergeD (dput acc k v) ds
  | _, _ => none
/-- keys and values, one after another -/
def dPairs : List D → Option (List (Key × D))
  | [] => some []
  | k :: v :: r => (keyOf k).bind fun k => (dPairs r).map fun ps => (k, v) :: ps
  | _ => none
def mergeP (acc ps : List (Key × D)) : List (Key × D) := ps.foldl (fun acc kv => dput acc kv.1 kv.2) acc
def lenD (st : Store) : D → Option Int
  | .str z => if z.length ≤ sizeLine then some z.length else none
  | d => (seqOf st d).map fun xs => (xs.length : Int)
def intD : D → Option Int
  | .int i => some i
  | .bl b => some (if b then 1 else 0)
  | .str x => if x.length ≤ 640 then PySem.intText? x else none
  | _ => none
def listD (m : Bool) (st : Store) : D → R
  | .frz ns => mkL m (ns.map D.int) st
  | d => match seqOf st d with
    | some xs => mkL m xs st
    | none => (dctOf st d).bind fun kvs => mkL m (kvs.map fun kv => unkey kv.1) st
def extD (f : List Int → Int) (st : Store) (d : D) : Option Int := (lstOf st d).bind fun xs => (intsOf xs).bind fun ns => if ns = [] then none else some (f ns)
/-- the built-ins -/
def biD (f : Bi) (m : Bool) (ds : List D) (st : Store) : R :=
  match f, ds with
  | .len, [d] => (lenD st d).map fun n => (.int n, st)
  | .int, [d] => (intD d).map fun n => (.int n, st)
  | .bool, [.bl b] => some (.bl b, st)
  | .abs, [.int i] => some (.int (if i < 0 then -i else i), st)
  | .max, [.int i, .int j] => some (.int (if j > i then j else i), st)
  | .min, [.int i, .int j] => some (.int (if j < i then j else i), st)
  | .max, [d] => (extD maxI st d).map fun n => (.int n, st)
  | .min, [d] => (extD minI st d).map fun n => (.int n, st)
  | .all, [d] => (lstOf st d).bind fun xs => (blsOf xs).map fun bs => (.bl (bs.all id), st)
  | .any, [d] => (lstOf st d).bind fun xs => (blsOf xs).map fun bs => (.bl (bs.any id), st)
  | .tuple, [d] => (seqOf st d).bind fun xs => mkT xs st
  | .list, [d] => listD m st d
  | .sorted, [d] => (lstOf st d).bind fun xs => (strsOf xs).bind fun ss => if ss.length < 64 then mkL m ((sortS ss).map D.str) st else none
  | _, _ => none
def setAt (xs : List D) (k : Int) (v : D) : Option (List D) := (ixN xs.length k).map fun j => xs.set j v
/-- o[i] = v of a list -/
def putL (o i v : D) (st : Store) : Option Store :=
  match o, i with
  | .loc n, .int k => match st[n]? with
    | some (.lst ds) => (setAt ds k v).map fun es => st.set n (.lst es)
    | _ => none
  | _, _ => none
/-- o[k] = v of a dict -/
def putK (o k v : D) (st : Store) : Option Store :=
  match o with
  | .loc n => match st[n]? with
    | some (.dct kvs) => (keyOf k).bind fun k => if kvs.length < sizeLine then some (st.set n (.dct (dput kvs k v))) else none
    | _ => none
  | _ => none
/-- the receiver is of the method's kind -/
def meOk (f : Me) (o : D) (st : Store) : Bool :=
  match f with
  | .popK => (dctOf st o).isSome
  | .get => (dctOf st o).isSome
  | _ => match o with
    | .loc _ => (lstOf st o).isSome
    | _ => false
/-- methods by name -/
def methD (f : Me) (o : D) (ds : List D) (st : Store) : R :=
  match f, o, ds with
  | .append, .loc n, [d] => match st[n]? with
    | some (.lst xs) => if xs.length < sizeLine then some (.non, st.set n (.lst (xs ++ [d]))) else none
    | _ => none
  | .pop, .loc n, [.int i] => match st[n]? with
    | some (.lst xs) => if lim62 i then (ixN xs.length i).bind fun j => (xs[j]?).map fun d => (d, st.set n (.lst (xs.eraseIdx j))) else none
    | _ => none
  | .insert, .loc n, [.int i, d] => match st[n]? with
    | some (.lst xs) => if xs.length < sizeLine ∧ 0 ≤ i ∧ i < 2 ^ 63 then some (.non, st.set n (.lst (xs.take i.toNat ++ [d] ++ xs.drop i.toNat))) else none
    | _ => none
  | .popK, .loc n, [k] => match st[n]? with
    | some (.dct kvs) => (keyOf k).bind fun k => (dget kvs k).map fun d => (d, st.set n (.dct (ddrop kvs k)))
    | _ => none
  | .get, o, [k] => (dctOf st o).bind fun kvs => (keyOf k).map fun k => ((dget kvs k).getD .non, st)
  | _, _, _ => none

def isNon : D → Bool
  | .non => true
  | _ => false
/-- a value's built-in type -/
def tyOf (st : Store) : D → Option String
  | .non => some "NoneType"
  | .bl _ => some "bool"
  | .int _ => some "int"
  | .str _ => some "str"
  | .tup _ => some "tuple"
  | .lst _ => some "list"
  | .loc n => match st[n]? with
    | some (.lst _) => some "list"
    | _ => none
  | .frz _ => none
def isTy (t u : String) : Bool := t == u || (t == "bool" && u == "int")
def isaD (st : Store) (tys : List String) (d : D) : Option Bool :=
  if tys.all fun u => u == "bool" || u == "int" || u == "str" || u == "tuple" || u == "list" then (tyOf st d).map fun t => tys.any fun u => isTy t u else none
/-- keys of a sort: the first item, a text; the sum of two ints and the first -/
def keyS : D → Option Str
  | .tup (.str z :: _) => some z
  | _ => none
def keyI : D → Option (Int × Int)
  | .tup [.int i, .int j] => some (i + j, i)
  | _ => none
def leKS (a b : D) : Bool := decide (((keyS a).getD ⟨#[]⟩).cps.toList ≤ ((keyS b).getD ⟨#[]⟩).cps.toList)
def leKI (a b : D) : Bool := decide (((keyI a).getD (0, 0)).1 < ((keyI b).getD (0, 0)).1 ∨ (((keyI a).getD (0, 0)).1 = ((keyI b).getD (0, 0)).1 ∧ ((keyI a).getD (0, 0)).2 ≤ ((keyI b).getD (0, 0)).2))
def revD (d : D) (st : Store) : R :=
  match d with
  | .tup ds => some (.tup ds.reverse, st)
  | d => (lstOf st d).map fun ds => (.lst ds.reverse, st)
def sortKD (n : Nat) (ds : List D) : Option (List D) :=
  if n = 0 then (if (ds.all fun d => (keyS d).isSome) = true then some (ds.mergeSort leKS) else none) else if (ds.all fun d => (keyI d).isSome) = true then some (ds.mergeSort leKI) else none
def keyN : X → Nat
  | .int i => i.toNat
  | .call _ [.int i] => i.toNat
  | _ => 0
mutual
def ev (C : Ctx) : X → Env → Store → R
  | .int i, _, st => some (.int i, st)
  | .str s, _, st => some (.str s, st)
  | .bl b, _, st => some (.bl b, st)
  | .non, _, st => some (.non, st)
  | .none_, _, st => some (.bl true, st)
  | .var i, env, st => match env[i]? with
    | some (some d) => some (d, st)
    | _ => none
  | .glb x, _, st => (C.cst x).map fun d => (d, st)
  | .bin op a b, env, st => (ev C a env st).bind fun r => (ev C b env r.2).bind fun q => binD op r.1 q.1 q.2
  | .cat m a b, env, st => (ev C a env st).bind fun r => (ev C b env r.2).bind fun q =>
      (lstOf q.2 r.1).bind fun xs => (lstOf q.2 q.1).bind fun ys => mkL m (xs ++ ys) q.2
  | .neg a, env, st => (ev C a env st).bind fun r => match r.1 with
    | .int i => some (.int (-i), r.2)
    | _ => none
  | .not a, env, st => (asB (ev C a env st)).map fun r => (.bl (!r.1), r.2)
  | .cmp op a b, env, st => (ev C a env st).bind fun r => (ev C b env r.2).bind fun q => (cmpD q.2 op r.1 q.1).map fun k => (.bl k, q.2)
  | .chain op op' a b c, env, st => (ev C a env st).bind fun r => (ev C b env r.2).bind fun q => (cmpD q.2 op r.1 q.1).bind fun k =>
      if k then (ev C c env q.2).bind fun p => (cmpD p.2 op' q.1 p.1).map fun k => (.bl k, p.2) else some (.bl false, q.2)
  | .isN a, env, st => (ev C a env st).map fun r => (.bl (isNon r.1), r.2)
  | .notN a, env, st => (ev C a env st).map fun r => (.bl (!isNon r.1), r.2)
  | .isB a b, env, st => (asB (ev C a env st)).map fun r => (.bl (decide (r.1 = b)), r.2)
  | .mem a b, env, st => (ev C a env st).bind fun r => (ev C b env r.2).bind fun q => (memD q.2 r.1 q.1).map fun k => (.bl k, q.2)
  | .notIn a b, env, st => (ev C a env st).bind fun r => (ev C b env r.2).bind fun q => (memD q.2 r.1 q.1).map fun k => (.bl (!k), q.2)
  | .memK a b, env, st => (ev C a env st).bind fun r => (ev C b env r.2).bind fun q => (dctOf q.2 q.1).bind fun kvs => (keyOf r.1).map fun k => (.bl (dget kvs k).isSome, q.2)
  | .notInK a b, env, st => (ev C a env st).bind fun r => (ev C b env r.2).bind fun q => (dctOf q.2 q.1).bind fun kvs => (keyOf r.1).map fun k => (.bl (!(dget kvs k).isSome), q.2)
  | .and es, env, st => evAnd C es env st
  | .or es, env, st => evOr C es env st
  | .ite c a b, env, st => (asB (ev C c env st)).bind fun r => if r.1 then ev C a env r.2 else ev C b env r.2
  | .tup es, env, st => (evL C es env st).bind fun r => mkT r.1 r.2
  | .lst m es, env, st => (evL C es env st).bind fun r => mkL m r.1 r.2
  | .star _, _, _ => none
  | .dct ks _, env, st => (evL C ks env st).bind fun r => (dPairs r.1).bind fun ps => if ps.length ≤ 15 then mkD (mergeP [] ps) r.2 else none
  | .sub a i, env, st => (ev C a env st).bind fun r => (ev C i env r.2).bind fun q => (subD q.2 r.1 q.1).map fun d => (d, q.2)
  | .subK a i, env, st => (ev C a env st).bind fun r => (ev C i env r.2).bind fun q => (dctOf q.2 r.1).bind fun kvs => (keyOf q.1).bind fun k => (dget kvs k).map fun d => (d, q.2)
  | .slice a lo hi, env, st => (ev C a env st).bind fun r => (asO (noneX lo) (ev C lo env r.2)).bind fun p => (asO (noneX hi) (ev C hi env p.2)).bind fun q => sliceD r.1 p.1 q.1 q.2
  | .rev a, env, st => (ev C a env st).bind fun r => revD r.1 r.2
  | .call f es, env, st => (evL C es env st).bind fun r => C.call f r.1 r.2
  | .bi f m es, env, st => (evL C es env st).bind fun r => biD f m r.1 r.2
  | .lrange m a, env, st => (ev C a env st).bind fun r => match r.1 with
    | .int j => if 0 ≤ j ∧ j ≤ 1000000 then mkL m (rangeD 0 j) r.2 else none
    | _ => none
  | .isa tys a, env, st => (ev C a env st).bind fun r => (isaD r.2 tys r.1).map fun b => (.bl b, r.2)
  | .meth f o es, env, st => (ev C o env st).bind fun r => if meOk f r.1 r.2 then (evL C es env r.2).bind fun q => methD f r.1 q.1 q.2 else none
  | .comp own t it c e, env, st => (evIt C it env st).bind fun r =>
      (compLoop r.1 (compOne (wipeE env (own.map (·.2))) (bindT t) (fun env st => asB (ev C c env st)) fun env st => (ev C e env st).map fun q => ([q.1], q.2)) r.2.1 r.2.2).bind fun q =>
        if q.1.length ≤ sizeLine then some (.lst q.1, q.2) else none
  | .compK own t i c e, env, st => match env[i]? with
    | some (some (.loc n)) => match st[n]? with
      | some (.dct kvs) =>
        (compLoop none (compOne (wipeE env (own.map (·.2))) (bindT t) (fun env st => asB (ev C c env st)) fun env st => (ev C e env st).map fun q => ([q.1], q.2)) (kvs.map fun kv => unkey kv.1) (st.set n (.lck kvs))).bind fun q =>
          match q.2[n]? with
          | some (.lck kvs') => if q.1.length ≤ sizeLine then some (.lst q.1, q.2.set n (.dct kvs')) else none
          | _ => none
      | _ => none
    | _ => none
  | .comp2 own t it c own1 t1 it1 c1 e, env, st => (evIt C it env st).bind fun r =>
      (compLoop r.1 (compOne (wipeE env (own.map (·.2))) (bindT t) (fun env st => asB (ev C c env st)) fun env1 st1 => (evIt C it1 env1 st1).bind fun r1 =>
        compLoop r1.1 (compOne (wipeE env1 own1) (bindT t1) (fun env st => asB (ev C c1 env st)) fun env st => (ev C e env st).map fun q => ([q.1], q.2)) r1.2.1 r1.2.2) r.2.1 r.2.2).bind fun q =>
        if q.1.length ≤ sizeLine then some (.lst q.1, q.2) else none
  | .sortK a ky, env, st => (ev C a env st).bind fun r => (seqOf r.2 r.1).bind fun xs => (sortKD (keyN ky) xs).bind fun ys => if ys.length ≤ sizeLine then some (.lst ys, r.2) else none
def evAnd (C : Ctx) : List X → Env → Store → R
  | [], _, _ => none
  | [x], env, st => ev C x env st
  | x :: y :: xs, env, st => (asB (ev C x env st)).bind fun r => if r.1 then evAnd C (y :: xs) env r.2 else some (.bl false, r.2)
def evOr (C : Ctx) : List X → Env → Store → R
  | [], _, _ => none
  | [x], env, st => ev C x env st
  | x :: y :: xs, env, st => (asB (ev C x env st)).bind fun r => if r.1 then some (.bl true, r.2) else evOr C (y :: xs) env r.2
def evL (C : Ctx) : List X → Env → Store → Option (List D × Store)
  | [], _, st => some ([], st)
  | .star a :: es, env, st => (ev C a env st).bind fun r => (seqOf r.2 r.1).bind fun xs => (evL C es env r.2).map fun q => (xs ++ q.1, q.2)
  | e :: es, env, st => (ev C e env st).bind fun r => (evL C es env r.2).map fun q => (r.1 :: q.1, q.2)
def evIt (C : Ctx) : It → Env → Store → RI
  | .seq a, env, st => (ev C a env st).bind fun r => srcOf r.1 r.2
  | .rng1 a, env, st => (ev C a env st).bind fun r => match r.1 with
    | .int j => if lim62 j then some (none, rangeD 0 j, r.2) else none
    | _ => none
  | .rng2 a b, env, st => (ev C a env st).bind fun r => (ev C b env r.2).bind fun q => match r.1, q.1 with
    | .int i, .int j => some (none, rangeD i j, q.2)
    | _, _ => none
  | .enum a, env, st => (ev C a env st).bind fun r => match r.1 with
    | .tup ds => some (none, enumD 0 ds, r.2)
    | .lst ds => some (none, enumD 0 ds, r.2)
    | _ => none
  | .zip a b, env, st => (ev C a env st).bind fun r => (ev C b env r.2).bind fun q => match r.1, q.1 with
    | .tup xs, .tup ys => some (none, zipD xs ys, q.2)
    | _, _ => none
  | .chars a, env, st => (ev C a env st).bind fun r => match r.1 with
    | .str x => some (none, signsD x, r.2)
    | _ => none
end
mutual
/-- a target stored -/
def stT (C : Ctx) : Tt → D → Env → Store → Option (Env × Store)
  | .name i, d, env, st => if i < env.length then some (env.set i (some d), st) else none
  | .tup ts, d, env, st => match d with
    | .tup ds => if ds.length = ts.length then stTs C ts ds env st else none
    | _ => none
  | .sub o i, d, env, st => (ev C o env st).bind fun r => (ev C i env r.2).bind fun q => (putL r.1 q.1 d q.2).map fun st' => (env, st')
  | .subK o i, d, env, st => (ev C o env st).bind fun r => (ev C i env r.2).bind fun q => (putK r.1 q.1 d q.2).map fun st' => (env, st')
def stTs (C : Ctx) : List Tt → List D → Env → Store → Option (Env × Store)
  | [], [], env, st => some (env, st)
  | t :: ts, d :: ds, env, st => (stT C t d env st).bind fun r => stTs C ts ds r.1 r.2
  | _, _, _, _ => none
end
def setAll : List Nat → List D → Env → Option Env
  | [], [], env => some env
  | i :: is, d :: ds, env => if i < env.length then setAll is ds (env.set i (some d)) else none
  | _, _, _ => none
mutual
def exS (C : Ctx) : S → Env → Store → RS
  | .pass, env, st => some (.next, env, st)
  | .set t e, env, st => (ev C e env st).bind fun r => (stT C t r.1 env r.2).map fun q => (.next, q.1, q.2)
  | .par ts es, env, st => (evL C es env st).bind fun r => (setAll ts r.1 env).map fun env' => (.next, env', r.2)
  | .aug i op e, env, st => match env[i]? with
    | some (some (.int x)) => (ev C e env st).bind fun r => match op, r.1 with
      | .Add, .int y => some (.next, env.set i (some (.int (x + y))), r.2)
      | .Sub, .int y => some (.next, env.set i (some (.int (x - y))), r.2)
      | _, _ => none
    | _ => none
  | .expr e, env, st => (ev C e env st).map fun r => (.next, env, r.2)
  | .ite c a b, env, st => (asB (ev C c env st)).bind fun r => if r.1 then exL C a env r.2 else exL C b env r.2
  | .for_ t it b, env, st => (evIt C it env st).bind fun r => forLoop r.1 (bindT t) (exL C b) r.2.1 env r.2.2
  | .while_ c b, env, st => whileLoop (fun env st => asB (ev C c env st)) (exL C b) C.turns env st
  | .ret e, env, st => (ev C e env st).map fun r => (.ret r.1, env, r.2)
  | .retN, env, st => some (.ret .non, env, st)
  | .never, _, _ => none
def exL (C : Ctx) : List S → Env → Store → RS
  | [], env, st => some (.next, env, st)
  | s :: ss, env, st => (exS C s env st).bind fun r => match r with
    | (.ret d, env', st') => some (.ret d, env', st')
    | (.next, env', st') => exL C ss env' st'
end
/-- a def called -/
def runDef (C : Ctx) (d : Def) (ds : List D) (st : Store) : R :=
  if ds.length = d.arity then
    (exL C d.body (ds.map some ++ List.replicate (d.names.length - d.arity) none) st).map fun r => match r with
      | (.ret v, _, st') => (v, st')
      | (.next, _, st') => (.non, st')
  else none
/-- defs by name, calls at most k deep -/
def callN (cst : Str → Option D) (turns : Nat) (tab : Str → Option Def) : Nat → Str → List D → Store → R
  | 0, _, _, _ => none
  | k + 1, f, ds, st => match tab f with
    | some d => runDef { cst := cst, call := callN cst turns tab k, turns := turns } d ds st
    | none => none
end Q

/-! QEnum: enumerate over a tuple. -/
namespace QE
open PySem PySem.Spec PyProof.Rows L2
open PySem.Sem (wp)
open PySem.AutoSeq1 (wpAny_loadPart')

abbrev tIterO (l : Addr) : Obj := { cls := .type "tuple_iterator", data := .fields #[.ref l, .int 0 0] }
abbrev tEnumO (i : Addr) : Obj := { cls := .type "enumerate", data := .fields #[.none, .bool false, .ref i, rawInt 0, .none, .none] }
theorem enumT_new (tt : Addr) (zs : Array Value) :
    Meets (Builtin.«enumerate.__new__» ⟨[.type "enumerate", .ref tt], []⟩) (fun _ R s => s.heap.IsTuple tt zs ∧ R (.ok (.ret (.ref (s.heap.push (tIterO tt)).objs.size))) { s with heap := (s.heap.push (tIterO tt)).push (tEnumO s.heap.objs.size) }) :=
  .of_wp fun prog w A R s hh => by
    obtain ⟨hp, gg, dd, tok, os⟩ := s; obtain ⟨hT, hR⟩ := hh
    have h_sub := sub_enumerate
    have h_T : Heap.IsTuple (Shared.heap ⟨hp, gg, dd, tok, os⟩) tt zs := hT
    wp_walk using wpAny_loadPart' h_T
    refine wpAny_stack_any fun stk => wpAny_pure ?_
    split
    · rename_i cc _ _ _ _ _
      cases (cc == Value.type "enumerate")
      · wp_walk using wpAny_loadPart' h_T, wpAny_pyIter_tuple h_T
        exact ⟨_, rfl, hR⟩
      · wp_walk using wpAny_loadPart' h_T, wpAny_pyIter_tuple h_T
        exact ⟨_, rfl, hR⟩
    · wp_walk using wpAny_loadPart' h_T, wpAny_pyIter_tuple h_T
      exact ⟨_, rfl, hR⟩
section
variable {prog : Program} {w : World} {A : Around} {E : Value → Shared → Prop} {s : Shared}
theorem call_enumT {tt : Addr} {zs : Array Value} {Q : Value → Shared → Prop} (hT : s.heap.IsTuple tt zs)
    (k : ∀ h', IsEnum h' (s.heap.objs.size + 1) s.heap.objs.size 0 .none → h'.IsTupleIter s.heap.objs.size tt 0 → (∀ b o, s.heap.get? b = some o → h'.get? b = some o) → Q (.ref (s.heap.objs.size + 1)) { s with heap := h' }) :
    wpAny (model prog w) A (call (.type "enumerate") [.ref tt]) Q E s := by
  refine callType_new F.called_enumerate (by decide) (F.typeCall_enumerate_1 _) (F.newCall_enumerate_1 _) (fun ob => F.args_object_init_2 ob _) F.entry_enumerate_new (enumT_new tt zs) ⟨hT, ?_⟩
  have z1 : (s.heap.push (tIterO tt)).objs.size = s.heap.objs.size + 1 := Heap.size_push ..
  show _ ∧ _
  rw [z1]
  have g2 : IsEnum ((s.heap.push (tIterO tt)).push (tEnumO s.heap.objs.size)) (s.heap.objs.size + 1) s.heap.objs.size 0 .none := by
    have q := Heap.get?_push_size (s.heap.push (tIterO tt)) (o := tEnumO s.heap.objs.size) rfl
    rw [z1] at q
    exact q
  exact ⟨⟨_, g2, rfl⟩, k _ g2 ⟨_, Heap.get?_push_of_some _ (Heap.get?_push_size _ rfl), rfl, rfl⟩ fun b o x => Heap.get?_push_of_some _ (Heap.get?_push_of_some _ x)⟩
theorem enumT_item {e it tt : Addr} {i : Nat} {zs : Array Value} {x old : Value} {Q : Value → Shared → Prop} (hE : IsEnum s.heap e it i old) (hI : s.heap.IsTupleIter it tt i) (hT : s.heap.IsTuple tt zs) (hx : zs[i]? = some x) (ne : e ≠ it)
    (k : ∀ h', IsEnumOut h' e it ((i : Int) + 1) x s.heap.objs.size → h'.IsTupleIter it tt (i + 1) → h'.get? s.heap.objs.size = some { cls := .type "tuple", data := .seq #[.int i s.toks, x] } → h'.objs.size = s.heap.objs.size + 1 →
      (∀ b o, b ≠ e → b ≠ it → s.heap.get? b = some o → h'.get? b = some o) → Q (.ref s.heap.objs.size) { s with heap := h', toks := s.toks + 1 }) :
    wpAny (model prog w) A (Builtin.«enumerate.__next__» ⟨[.ref e], []⟩) (fun fin s' => ∃ v, fin = .done (.ret v) ∧ Q v s') E s := by
  obtain ⟨hp, gg, dd, tok, os⟩ := s
  show wpAny _ _ (field (.ref e) 2 >>= _) _ _ _
  refine wpAny_bind (wpAny_field hE rfl (x := .ref it) rfl ?_)
  refine wpAny_bind (RZ.nextOf_tuple_item hI hT hx fun h1 hI1 q1 => ?_)
  replace q1 : Heap.SameBut it hp h1 := q1
  have hE1 : IsEnum h1 e it i old := (q1.2 e ne).trans hE
  show wpAny _ _ (field (.ref e) 3 >>= _) _ _ ⟨h1, gg, dd, tok, os⟩
  refine wpAny_bind (wpAny_field hE1 rfl (x := rawInt i) rfl ?_)
  show wpAny _ _ (field (.ref e) 4 >>= _) _ _ ⟨h1, gg, dd, tok, os⟩
  refine wpAny_bind (wpAny_field hE1 rfl (x := .none) rfl ?_)
  show wpAny _ _ (mkInt i >>= _) _ _ ⟨h1, gg, dd, tok, os⟩
  refine wpAny_bind (wpAny_mkInt ?_)
  show wpAny _ _ (setField (.ref e) 3 (rawInt ((i : Int) + 1)) >>= _) _ _ ⟨h1, gg, dd, tok + 1, os⟩
  refine wpAny_bind (wpAny_setField_rec hE1 (by simp) fun h2 hE2 q2 => ?_)
  replace q2 : Heap.SameBut e h1 h2 := q2
  replace hE2 : IsEnum h2 e it ((i : Int) + 1) old := hE2
  show wpAny _ _ (setField (.ref e) 4 .none >>= _) _ _ ⟨h2, gg, dd, tok + 1, os⟩
  refine wpAny_bind (wpAny_setField_rec hE2 (by simp) fun h3 hE3 q3 => ?_)
  replace q3 : Heap.SameBut e h2 h3 := q3
  replace hE3 : IsEnum h3 e it ((i : Int) + 1) old := hE3
  show wpAny _ _ (newTuple [.int i tok, x] >>= _) _ _ ⟨h3, gg, dd, tok + 1, os⟩
  refine wpAny_bind (wpAny_newTuple ?_)
  have hE4 : IsEnum (h3.push { cls := .type "tuple", data := .seq #[.int i tok, x] }) e it ((i : Int) + 1) old := Heap.get?_push_of_some _ hE3
  generalize eh4 : h3.push { cls := .type "tuple", data := .seq #[.int i tok, x] } = h4 at hE4
  have sz : h3.objs.size = hp.objs.size := by rw [q3.1, q2.1, q1.1]
  have elt : e < hp.objs.size := Heap.lt_size hE
  have t4 : h4.get? hp.objs.size = some { cls := .type "tuple", data := .seq #[.int i tok, x] } := by rw [← eh4, ← sz]; exact Heap.get?_push_size _ rfl
  have z4 : h4.objs.size = hp.objs.size + 1 := by rw [← eh4, Heap.size_push, sz]
  have k4 : ∀ b o, b ≠ e → b ≠ it → hp.get? b = some o → h4.get? b = some o := fun b o n1 n2 hb => by
    rw [← eh4]; exact Heap.get?_push_of_some _ (q3.extBut b o n1 (q2.extBut b o n1 (q1.extBut b o n2 hb)))
  have i4 : h4.IsTupleIter it tt (i + 1) := by
    rw [← eh4]; obtain ⟨o, ho, r⟩ := (hI1.extBut q2.extBut (Ne.symm ne)).extBut q3.extBut (Ne.symm ne); exact ⟨o, Heap.get?_push_of_some _ ho, r⟩
  show wpAny _ _ (Builtin.SmallTypes.ownedTupleIsFree (.ref e) >>= _) _ _ ⟨h4, gg, dd, tok + 1, os⟩
  rw [sz]
  clear eh4 hE3 q3 hE2 q2 hE1 q1 hI1 sz h3 h2 h1
  refine wpAny_bind ?_
  · unfold Builtin.SmallTypes.ownedTupleIsFree
    refine wpAny_bind (wpAny_field hE4 rfl (x := .none) rfl (wpAny_pure ?_))
    simp only [if_true]
    refine wpAny_bind (wpAny_rule ?_)
    refine wpAny_bind (wpAny_field hE4 rfl (x := old) rfl ?_)
    refine wpAny_bind (wpAny_setField_rec hE4 (by simp) fun h5 hE5 q5 => ?_)
    replace q5 : Heap.SameBut e h4 h5 := q5
    replace hE5 : IsEnum h5 e it ((i : Int) + 1) x := hE5
    show wpAny _ _ (Builtin.SmallTypes.ownedTupleHandOut (.ref e) (.ref hp.objs.size) >>= _) _ _ ⟨h5, gg, dd, tok + 1, os⟩
    refine wpAny_bind ?_
    · unfold Builtin.SmallTypes.ownedTupleHandOut
      refine wpAny_bind (wpAny_setField_rec hE5 (by simp) fun h6 hE6 q6 => ?_)
      replace q6 : Heap.SameBut e h5 h6 := q6
      replace hE6 : IsEnumOut h6 e it ((i : Int) + 1) x hp.objs.size := hE6
      refine wpAny_setField_rec hE6 (by simp) fun h7 hE7 q7 => ?_
      replace q7 : Heap.SameBut e h6 h7 := q7
      replace hE7 : IsEnumOut h7 e it ((i : Int) + 1) x hp.objs.size := hE7
      refine wpAny_bind (wpAny_letGo (wpAny_pure ⟨_, rfl, k h7 hE7 ?_ ?_ ?_ ?_⟩))
      · exact ((i4.extBut q5.extBut (Ne.symm ne)).extBut q6.extBut (Ne.symm ne)).extBut q7.extBut (Ne.symm ne)
      · exact q7.extBut _ _ (Nat.ne_of_gt elt) (q6.extBut _ _ (Nat.ne_of_gt elt) (q5.extBut _ _ (Nat.ne_of_gt elt) t4))
      · rw [q7.1, q6.1, q5.1, z4]
      · exact fun b o n1 n2 hb => q7.extBut b o n1 (q6.extBut b o n1 (q5.extBut b o n1 (k4 b o n1 n2 hb)))
theorem next_enumT_item {e it tt : Addr} {i : Nat} {zs : Array Value} {x old : Value} {Q : Option Value → Shared → Prop} (hE : IsEnum s.heap e it i old) (hI : s.heap.IsTupleIter it tt i) (hT : s.heap.IsTuple tt zs) (hx : zs[i]? = some x) (ne : e ≠ it)
    (k : ∀ h', IsEnumOut h' e it ((i : Int) + 1) x s.heap.objs.size → h'.IsTupleIter it tt (i + 1) → h'.get? s.heap.objs.size = some { cls := .type "tuple", data := .seq #[.int i s.toks, x] } → h'.objs.size = s.heap.objs.size + 1 →
      (∀ b o, b ≠ e → b ≠ it → s.heap.get? b = some o → h'.get? b = some o) → Q (some (.ref s.heap.objs.size)) { s with heap := h', toks := s.toks + 1 }) :
    wpAny (model prog w) A (pyNext (.ref e)) Q E s := by
  have ty : s.TypeIs (.ref e) "enumerate" := ⟨_, hE, rfl⟩
  unfold pyNext
  exact wpAny_bind (wpAny_attempt (wpAny_callSpecial?_slot (name := Str.ofString "__next__") ty F.slot_enumerate_next (wpAny_call_entry F.slot_enumerate_next ty F.entry_enumerate_next
      (enumT_item hE hI hT hx ne fun h' a b c d kk => wpAny_pure (k h' a b c d kk)) (F.args_enumerate_next_1 _))))
theorem next_enumT_end {e it tt : Addr} {i : Nat} {zs : Array Value} {old : Value} {Q : Option Value → Shared → Prop} (hh : A.handled = none) (hE : IsEnum s.heap e it i old) (hI : s.heap.IsTupleIter it tt i) (hT : s.heap.IsTuple tt zs) (hx : zs[i]? = none)
    (k : ∀ h', Heap.ExtBut it s.heap h' → Q none { s with heap := h' }) : wpAny (model prog w) A (pyNext (.ref e)) Q E s := by
  have ty : s.TypeIs (.ref e) "enumerate" := ⟨_, hE, rfl⟩
  unfold pyNext
  refine wpAny_bind (wpAny_attempt (wpAny_callSpecial?_slot (name := Str.ofString "__next__") ty F.slot_enumerate_next (wpAny_call_entry F.slot_enumerate_next ty F.entry_enumerate_next ?_ (F.args_enumerate_next_1 _))))
  show wpAny _ _ (field (.ref e) 2 >>= _) _ _ _
  refine wpAny_bind (wpAny_field hE rfl (x := .ref it) rfl ?_)
  refine wpAny_bind (RZ.nextOf_tuple_end hh hI hT hx fun h' x q hx' => ?_)
  obtain ⟨o, ho, hc⟩ := hx'
  exact wpAny_bind (wpAny_isInstance (T := "StopIteration") (b := true) ⟨o, ho, hc⟩ isSubtype_stop (wpAny_pure (k _ q)))
end
/-- the tuple at a, each item in a new pair with its place -/
def IteT (K : PySem.W.Frag) (a : Addr) : L2.It :=
  ⟨fun i H => ∃ (xs : List V) (x : V), SqT K H a xs ∧ xs[i]? = some x, fun i H v H' => ∃ T x, v = .ref T ∧ H T = none ∧ H' = upd H T (.tup [.int (i : Nat), x]) ∧ ∀ xs, SqT K H a xs → xs[i]? = some x, fun i H => ∃ xs : List V, SqT K H a xs ∧ xs.length ≤ i⟩
theorem turn_enumT {P : Program} {w : World} {K : PySem.W.Frag} {elts : List Expr} {kk : Nat} {tpos : Pos} (a e it : Addr) :
    Turn P w K (.Tuple elts kk tpos) (IteT K a) [e, it] e (fun i h => (∃ old, IsEnum h e it ((i : Nat) : Int) old) ∧ h.IsTupleIter it a i ∧ e ≠ it) where
  mem := by simp
  obj := fun i h st b hb => by
    obtain ⟨⟨old, hE⟩, ⟨o, ho, hc, hd⟩, _⟩ := st
    have eb : b = e ∨ b = it := by simpa using hb
    rcases eb with z | z
    · rw [z]; exact ⟨_, hE, fun v q => nomatch q⟩
    · rw [z]; exact ⟨o, ho, fun v q => by rw [hd] at q; cases q⟩
  keep := fun i h h' st k => let ⟨⟨old, hE⟩, hi, ne⟩ := st; ⟨⟨old, k e (by simp) _ hE⟩, hi.at fun o q => k it (by simp) o q, ne⟩
  item := by
    intro X eP ew eK hc i pins s σ H E I hf st hg
    subst eP ew eK
    obtain ⟨⟨old, hE⟩, hI, ne⟩ := st
    obtain ⟨xs, x, hq, hx⟩ := hg
    obtain ⟨zs, rv, p, hz⟩ := I.tuple hq
    obtain ⟨u, hu, ru⟩ := rv.get hx
    have el : e < s.heap.objs.size := Heap.lt_size hE
    have il : it < s.heap.objs.size := by obtain ⟨_, q, _⟩ := hI; exact Heap.lt_size q
    refine next_enumT_item hE hI p (x := u) (by simpa using hu) ne fun h' ho hI' hT sz hk => ?_
    refine ⟨_, rfl, wpAny_letOwnedTupleGo_enum (s := { s with heap := h', toks := s.toks + 1 }) ho fun h'' hE' sb => ?_⟩
    have hT2 : h''.get? s.heap.objs.size = some { cls := .type "tuple", data := .seq #[.int i s.toks, u] } := (sb.2 _ (Nat.ne_of_gt el)).trans hT
    have nw : ObjOk X.prog X.w (upd H s.heap.objs.size (.tup [.int (i : Nat), x])) h'' s.heap.objs.size (.tup [.int (i : Nat), x]) := ⟨by show 2 ≤ sizeLine; decide, [.int i s.toks, u], .cons ⟨_, rfl⟩ (.cons ru .nil), ⟨_, hT2, rfl, _, rfl⟩⟩
    have I1 : Inv X pins σ (upd H s.heap.objs.size (.tup [.int (i : Nat), x])) { s with heap := h'', toks := s.toks + 1 } :=
      I.turnedNew (ch := [e, it]) (fun b ob hb q => (sb.2 b (fun z => hb (by simp [z]))).trans (hk b ob (fun z => hb (by simp [z])) (fun z => hb (by simp [z])) q)) hf (Nat.le_refl _) nw
    refine ⟨.ref s.heap.objs.size, _, I1, rfl, ⟨_, x, rfl, I.hok.fresh (Nat.le_refl _), rfl, fun ys hy => by rw [I.tuple_inj hy hq]; exact hx⟩, ⟨⟨u, ?_⟩, hI'.at fun o q => (sb.2 it (Ne.symm ne)).trans q, ne⟩, fun b hb => ?_⟩
    · have e1 : ((i + 1 : Nat) : Int) = (i : Int) + 1 := by omega
      rw [e1]; exact hE'
    · have lb : b < s.heap.objs.size := by
        have eb : b = e ∨ b = it := by simpa using hb
        rcases eb with z | z
        · rw [z]; exact el
        · rw [z]; exact il
      rw [upd_ne (Nat.ne_of_lt lb)]
      exact (hf b hb).1
  done := by
    intro X eP ew eK hc i pins s σ H E I hf st hg
    subst eP ew eK
    obtain ⟨⟨old, hE⟩, hI, ne⟩ := st
    obtain ⟨xs, hq, hx⟩ := hg
    obtain ⟨zs, rv, p, hz⟩ := I.tuple hq
    obtain ⟨f0, f1, f2, f3, f4, f5⟩ := hf it (by simp)
    have hl := rv.length
    exact next_enumT_end (I.ok.hd hc) hE hI p (by simp; omega) fun h' eb => ⟨rfl, I.turned (t' := s.toks) (fun b o hb q => eb b o hb q) f0 f1 f3 f4 f5⟩
  self := fun A i s Q E st h => let ⟨⟨_, hE⟩, _⟩ := st; wpAny_pyIter_enum hE h
def iEnumT (K : PySem.W.Frag) (ta : TA) : TI := fun σ H R => ta σ H fun vs H1 => ∃ a xs, vs = [.ref a] ∧ SqT K H1 a xs ∧ R (IteT K a) H1
theorem pi_enumT {X : Cx} {e : Expr} {ta : TA} {p pos tpos : Pos} {elts : List Expr} {kk : Nat} (hg : Gl X "enumerate") (hm : X.mg "enumerate" = none) (ha : PA X [e] ta) (hs : starEach [e] X.env = [(false, eval e X.env)] := by rfl) :
    PI X (.Tuple elts kk tpos) (.Call (.Name "enumerate" p) [e] [] pos) (iEnumT X.K ta) := by
  refine ⟨fun pins s σ H R I hh => ?_⟩
  refine Call_ (ld_blt I hg hm boot_enumerate (PyProof.Rows.callWith_type1 (thn (ha.run pos pins s σ H _ I hh) fun us s1 ⟨vs, H1, I1, r1, q1⟩ => ?_) hs rfl))
  obtain ⟨a, xs, ex, hq, q⟩ := q1
  subst ex
  cases r1 with
  | cons r rr =>
    cases rr
    cases r
    obtain ⟨zs, rv, p', hz⟩ := I1.tuple hq
    refine call_enumT p' fun h' hE hI hk => wpAny_pyIter_enum hE ?_
    have I2 : Inv X pins σ H1 { s1 with heap := h' } := I1.kept (t' := s1.toks) hk
    refine ⟨s1.heap.objs.size + 1, [s1.heap.objs.size + 1, s1.heap.objs.size], _, _, H1, rfl, I2, turn_enumT a (s1.heap.objs.size + 1) s1.heap.objs.size, ⟨⟨.none, hE⟩, hI, Nat.succ_ne_self _⟩, fun b hb => ?_, q⟩
    have eb : b = s1.heap.objs.size + 1 ∨ b = s1.heap.objs.size := by simpa using hb
    have le : s1.heap.objs.size ≤ b := by
      rcases eb with z | z
      · rw [z]; exact Nat.le_add_right _ _
      · rw [z]; exact Nat.le_refl _
    exact I1.fpOk le (I1.hok.fresh le)
end QE

/-! QKey: sorted(xs, key=f) of a list or a tuple; f a lambda or a def that gives x[0] or (x[0] + x[1], x[0]). -/
namespace QK
open PySem PySem.Spec PyProof.Rows L2

section
variable {P : Program} {w : World} {A : Around} {E : Value → Shared → Prop} {s : Shared}
theorem collect_tup {tt : Addr} {us : List Value} {Q : List Value → Shared → Prop} (hT : IsTup s.heap tt us.toArray) (hz : us.length ≤ sizeLine)
    (k : Q us { s with heap := (s.heap.push (seqObj "list" #[] 0)).update s.heap.objs.size (Obj.mapSeq (· ++ us.toArray)) }) : wpAny (model P w) A (collect (.ref tt)) Q E s := by
  obtain ⟨ob, hob, hcl, nn, hda⟩ := id hT
  unfold collect
  refine wpAny_bind (wpAny_runValue (codeAny_builtin entry_proto_collect' ?_))
  show wpAny _ _ (do again (.builtin "list.__iadd__" ⟨[← newList [], .ref tt], []⟩)) _ _ s
  refine wpAny_bind (wpAny_newList (wpAny_pure ⟨Code.quiet_builtin _ (by decide +kernel), codeAny_builtin entry_list_iadd' ?_⟩))
  show wpAny _ _ (Builtin.List.listExtendWith (.ref s.heap.objs.size) (.ref tt) (.ref s.heap.objs.size)) _ _ { s with heap := s.heap.push (seqObj "list" #[] 0) }
  unfold Builtin.List.listExtendWith
  have hob' : (s.heap.push (seqObj "list" #[] 0)).get? tt = some ob := Heap.get?_push_of_some _ hob
  refine wpAny_bind (wpAny_typeOf (T := "tuple") ⟨ob, hob', hcl⟩ ?_)
  have hty : (Value.type "tuple" == Value.type "tuple") = true := by rfl
  rw [if_pos (by rw [hty]; simp)]
  refine wpAny_bind (listItems_at hob' hda ?_)
  refine wpAny_bind (listItems_at (xs := #[]) (n := 0) (Heap.get?_push_size _ rfl) rfl ?_)
  rw [if_neg (by simp)]
  refine wpAny_bind (listUpdate_at (xs := #[]) (n := 0) (Heap.get?_push_size _ rfl) rfl ?_ (Nat.zero_le _) (by show (#[] ++ us.toArray).size ≤ sizeLine + 1; simp only [Array.size_append, List.size_toArray, List.length_nil]; omega))
  refine wpAny_pure ?_
  show wpAny (model P w) A (do
      let o ← load s.heap.objs.size
      match o.data with
      | .seq xs _ => pure xs.toList
      | _ => unsupported "internal:collect") Q E { s with heap := (s.heap.push (seqObj "list" #[] 0)).update s.heap.objs.size (Obj.mapSeq (· ++ us.toArray)) }
  refine wpAny_bind (wpAny_load (get?_update_seq (Heap.get?_push_size _ rfl) _) ?_)
  show wpAny _ _ (pure ((#[] : Array Value) ++ us.toArray).toList) Q E _
  rw [show ((#[] : Array Value) ++ us.toArray).toList = us by simp]
  exact wpAny_pure k
/-- the source: a list or a tuple -/
def IsSrc (h : Heap) (a : Addr) (us : List Value) : Prop := h.IsList a us.toArray ∨ IsTup h a us.toArray
theorem collect_src {a : Addr} {us : List Value} {Q : List Value → Shared → Prop} (hS : IsSrc s.heap a us) (hz : us.length ≤ sizeLine)
    (k : Q us { s with heap := (s.heap.push (seqObj "list" #[] 0)).update s.heap.objs.size (Obj.mapSeq (· ++ us.toArray)) }) : wpAny (model P w) A (collect (.ref a)) Q E s := by
  rcases hS with hS | hS
  · exact collect_list hS k hz
  · exact collect_tup hS hz k
open PySem.W in
theorem sorted_src {a : Addr} {us : List Value} {kw : List (Str × Value)} {Q : Value → Shared → Prop} (hS : IsSrc s.heap a us) (hz : us.length ≤ sizeLine) (q1 : argsOk "sorted" ⟨[.ref a], kw⟩) (q2 : ∀ x, argsOk "list.sort" ⟨[.ref x], kw⟩)
    (bd : ∀ E' : Value → Shared → Prop, wpAny (model P w) A.in1.in1 (Builtin.«list.sort» ⟨[.ref (s.heap.objs.size + 1)], kw⟩) (fun f s' => f = .done (.ret .none) ∧ Q (.ref (s.heap.objs.size + 1)) s') E' { s with heap := copyHeap s.heap us }) :
    wpAny (model P w) A (call (.builtin "sorted") [.ref a] kw) Q E s := by
  refine call_function_entry_kw kind_sorted plain_sorted entry_sorted q1 ?_
  unfold Builtin.«sorted»
  refine wpAny_bind (m := checkCount "sorted" 1 1 _) (wpAny_pure ?_)
  refine wpAny_bind (collect_src hS hz ?_)
  refine wpAny_bind (wpAny_newList ?_ hz)
  have z1 : ((s.heap.push (seqObj "list" #[] 0)).update s.heap.objs.size (Obj.mapSeq (· ++ us.toArray))).objs.size = s.heap.objs.size + 1 := by
    rw [Heap.size_update, size_push']
  show wpAny _ _ _ _ _ { s with heap := copyHeap s.heap us }
  rw [z1]
  refine wpAny_bind (wpAny_holding (wpAny_call_entry_kw slot_list_sort ⟨_, copyHeap_at s.heap us, rfl⟩ entry_list_sort ?it (q2 _)))
  case it =>
    show wpAny (model P w) A.in1.in1 (Builtin.«list.sort» ⟨[.ref (s.heap.objs.size + 1)], kw⟩) _ _ _
    refine wpAny_mono (bd _) (fun f s' hf => ?_) fun _ _ e => e
    obtain ⟨rfl, hq⟩ := hf
    exact ⟨_, rfl, wpAny_pure ⟨_, rfl, hq⟩⟩
open PySem.W in
/-- sorted(xs, key=f) -/
theorem sorted_key {β : Type} {us : List Value} {bs : List β} {R : Value → β → Prop} {a : Addr} {f : Addr} {Q : Value → Shared → Prop} (k : β → PyData) (hS : IsSrc s.heap a us) (e : EachIs R us bs) (hal : AllAlike (bs.map k)) (hk : Sortable (bs.map k)) (hL : bs.length ≤ sizeLine)
    (hu : ∀ x, x ∈ bs → A.units + 2 + (k x).depth < cLine)
    (turn : ∀ (v : Value) (x : β), R v x → x ∈ bs → ∀ (h : Heap) (tk : Nat), (∀ b o, s.heap.get? b = some o → h.get? b = some o) → wpAny (model P w) A.in1.in1 (call (.ref f) [v]) (KeyPure (k x) { s with heap := h, toks := tk }) (fun _ _ => False) { s with heap := h, toks := tk })
    (fin : ∀ out c h' tk, (∀ b o, s.heap.get? b = some o → h'.get? b = some o) → h'.get? (s.heap.objs.size + 1) = some (seqObj "list" (List.toArray out) c) → out.length = bs.length → EachIs R out (bs.mergeSort (dataLe false k)) → Q (.ref (s.heap.objs.size + 1)) { s with heap := h', toks := tk }) :
    wpAny (model P w) A (call (.builtin "sorted") [.ref a] [(Str.ofString "key", .ref f)]) Q E s := by
  have up : ∀ {g : Heap}, KeepsBut (s.heap.objs.size + 1) (copyHeap s.heap us) g → ∀ b o, s.heap.get? b = some o → g.get? b = some o := fun {g} kp b o q => kp b o (Nat.ne_of_lt (Nat.lt_succ_of_lt (Heap.lt_size q))) (copyHeap_old q)
  refine sorted_src hS (by rw [e.length]; exact hL) (ksk_s1 _ _) (fun _ => ksk_l1 _ _) fun E' => ?_
  rw [ksk_t1]
  refine keyH_tree (b := false) (kz := bs.map k) (s := { s with heap := copyHeap s.heap us }) (copyHeap_at s.heap us) (by rw [List.length_map]; exact e.length.symm) (by rw [e.length]; exact hL) hal hk (bound_map (A := A.in1.in1) hu)
    (keyH_turns (s := { s with heap := copyHeap s.heap us }) e fun v x hR hx h tk kp => turn v x hR hx h tk (up kp)) fun h' tk out c kp hD ko => ⟨rfl, ?_⟩
  exact fin out c h' tk (up kp) hD ((ko.length (by rw [List.length_map]; exact e.length.symm)).trans e.length) (keyedOut_each k ko e)
end
/-! ### the key's expression -/
/-- the key of a value: 0: x[0], a text; 1: (x[0] + x[1], x[0]) of ints -/
def KeyAt (h : Heap) (v : Value) (n : Nat) (d : PyData) : Prop := if n = 0 then ∃ a its t y, v = .ref a ∧ IsTup h a its ∧ its[0]? = some (.str y t) ∧ d = .str y
  else ∃ a its t u i j, v = .ref a ∧ IsTup h a its ∧ its[0]? = some (.int i t) ∧ its[1]? = some (.int j u) ∧ d = .tuple [.int (i + j), .int i]
def isName (x : Str) : Expr → Bool
  | .Name y _ => y == x
  | _ => false
def isIx (x : Str) (i : Int) : Expr → Bool
  | .Subscript v (.Constant (.int j) _ _) _ => isName x v && decide (j = i)
  | _ => false
def isKey1 (x : Str) : Expr → Bool
  | .Tuple [.BinOp a .Add b _, c] _ _ => isIx x 0 a && isIx x 1 b && isIx x 0 c
  | _ => false
/-- the expression is x[0] (0), (x[0] + x[1], x[0]) (else) -/
def isKey (x : Str) (n : Nat) (e : Expr) : Bool := if n = 0 then isIx x 0 e else isKey1 x e
section
variable {P : Program} {w : World} {A : Around} {E : Value → Shared → Prop} {s : Shared} {env : PySem.Env} {x : Str} {m : Str → Option Value} {a : Addr} {its : Array Value}
theorem isIx_ok {i : Nat} {e : Expr} (h : isIx x (i : Int) e = true) : ∃ p1 j p2 p3, e = .Subscript (.Name x p1) (.Constant (.int (i : Int)) j p2) p3 := by
  unfold isIx at h
  split at h
  · rename_i v j k p p3
    simp only [Bool.and_eq_true, decide_eq_true_eq] at h
    obtain ⟨h1, rfl⟩ := h
    unfold isName at h1
    split at h1
    · rename_i y p1
      have : y = x := by simpa using h1
      subst this
      exact ⟨_, _, _, _, rfl⟩
    · cases h1
  · cases h
theorem key_ix {i : Nat} {u : Value} {e : Expr} {Q : Value → Shared → Prop} (he : isIx x (i : Int) e = true) (hi : i < 2) (hk : env.scope.kind = .function) (hl : env.kindOf x = some .local) (hd : (x == ("__debug__" : Str)) = false) (hn : s.heap.Ns env.locals m) (hm : m x = some (.ref a)) (ht : IsTup s.heap a its) (hz : its[i]? = some u)
    (h : ∀ tk, Q u { s with toks := tk }) : wpAny (model P w) A (eval e env) Q E s := by
  obtain ⟨p1, j, p2, p3, rfl⟩ := isIx_ok he
  refine Subscript_ (wpAny_Name (wpAny_loadName_local hk hl hn hm ?_) hd)
  refine wpAny_Constant_int ?_
  have hlt : i < its.size := (Array.getElem?_eq_some_iff.mp hz).1
  exact subscriptTail_builtinR (x := u) (s := { s with toks := s.toks + 1 }) ht.typeIs slot_tuple_getitem.lookup
    (getItem_tuple (s := { s with toks := s.toks + 1 }) (j := i) (Q := fun r s' => r = u ∧ Q r s') ht (by omega) (by omega) (by rw [seqIndex_of (by omega) (by omega)]; rfl) hz ⟨rfl, h _⟩)
/-- how the key's expression is read: all else but the heap's new objects stays -/
theorem key_run {n : Nat} {e : Expr} {v : Value} {d : PyData} {Q : Value → Shared → Prop} (he : isKey x n e = true) (hk : env.scope.kind = .function) (hl : env.kindOf x = some .local) (hd : (x == ("__debug__" : Str)) = false) (hn : s.heap.Ns env.locals m) (hm : m x = some v) (hK : KeyAt s.heap v n d)
    (h : ∀ u h' tk, (∀ b o, s.heap.get? b = some o → h'.get? b = some o) → Reads h' u d [] → Q u { s with heap := h', toks := tk }) : wpAny (model P w) A (eval e env) Q E s := by
  unfold isKey at he
  unfold KeyAt at hK
  by_cases hn0 : n = 0
  · rw [if_pos hn0] at he hK
    obtain ⟨a, its, t, y, rfl, ht, hz, rfl⟩ := hK
    exact key_ix (i := 0) he (by decide) hk hl hd hn hm ht hz fun tk => h _ s.heap tk (fun _ _ e => e) (.str y t)
  · rw [if_neg hn0] at he hK
    obtain ⟨a, its, t, u, i, j, rfl, ht, hz, hz1, rfl⟩ := hK
    unfold isKey1 at he
    split at he
    · rename_i ea eb p1 ec k1 p2
      simp only [Bool.and_eq_true] at he
      obtain ⟨⟨h1, h2⟩, h3⟩ := he
      have plain : ∀ {i : Int} {e : Expr} {es : List Expr}, isIx x i e = true → starEach (e :: es) env = (false, eval e env) :: starEach es env := fun {i e es} q => by
        cases e <;> first | rfl | (simp [isIx] at q)
      refine wpAny_Tuple_spliced ?_
      have s1 : starEach [Expr.BinOp ea .Add eb p1, ec] env = [(false, eval (.BinOp ea .Add eb p1) env), (false, eval ec env)] := by
        show (false, eval (.BinOp ea .Add eb p1) env) :: starEach [ec] env = _
        rw [plain h3]; rfl
      rw [s1]
      show wpAny _ _ (spliced ((false, eval (.BinOp ea .Add eb p1) env) :: [(false, eval ec env)])) _ _ s
      refine Calls.spliced_cons (wpAny_BinOp ?_)
      refine key_ix (i := 0) h1 (by decide) hk hl hd hn hm ht hz fun t1 => ?_
      refine key_ix (i := 1) (s := { s with toks := t1 }) h2 (by decide) hk hl hd hn hm ht hz1 fun t2 => ?_
      refine add_int (s := { s with toks := t2 }) ?_
      refine Calls.spliced_cons ?_
      refine key_ix (i := 0) (s := { s with toks := t2 + 1 }) h3 (by decide) hk hl hd hn hm ht hz fun t3 => ?_
      refine Calls.spliced_nil ⟨by show 2 ≤ sizeLine; decide, ?_⟩
      refine h _ _ _ (fun b o e => Heap.get?_push_of_some _ e) ?_
      have q : Reads (s.heap.push { cls := .type "tuple", data := .seq #[.int (i + j) t2, .int i t] }) (.ref s.heap.objs.size) (.tuple [.int (i + j), .int i]) ([] ++ ([] ++ [])) := .tuple (Heap.get?_push_size _ rfl) rfl rfl (.cons (.int _ _) (.cons (.int _ _) .nil))
      exact q
    · cases he
end
/-! ### the key's function called -/
def lamArg : Arguments → Option Str
  | ⟨[], [⟨x, _, _⟩], none, [], [], none, []⟩ => some x
  | _ => none
def keyScope (x : Str) (sc : Scope) : Bool := decide (sc.kind = .function) && !sc.isCoroutine && !sc.isGenerator && decide (sc.names = [(x, .local)])
/-- a lambda that gives the key -/
def lamOk (n : Nat) (params : Arguments) (body : Expr) (sc : Scope) : Bool := match lamArg params with
  | some x => keyScope x sc && isKey x n body && !(x == ("__debug__" : Str))
  | none => false
def retOf : List Stmt → Option Expr
  | [.Return (some e) _] => some e
  | _ => none
/-- a def that gives the key -/
def keyDef (n : Nat) (st : Stmt) : Bool := match lamArg (defArgs st), retOf (defBody st) with
  | some x, some e => keyScope x (defScope st) && isKey x n e && !(x == ("__debug__" : Str))
  | _, _ => false
section
variable {P : Program} {w : World} {A : Around} {s : Shared}
theorem bind_one {x : Str} {v : Value} {an : Option Expr} {pp : Pos} {fd : FuncData} (hp : fd.params = ⟨[], [⟨x, an, pp⟩], none, [], [], none, []⟩) (hd : fd.defaults = .none) : bindArgs fd ⟨[v], []⟩ = pure [(x, v)] := by
  unfold bindArgs
  rw [hp, hd]
  simp only [List.map_cons, List.map_nil, List.append_nil, List.nil_append, List.zip_cons_cons, List.zip_nil_right, List.length_cons, List.length_nil, List.forIn_nil, pure_bind, seqItems?]
  have e1 : ([(x, v)] : List (Str × Value)).lookup x = some v := by simp
  simp [e1]
  rfl
theorem KeyAt.keeps {h h' : Heap} {v : Value} {n : Nat} {d : PyData} (hK : KeyAt h v n d) (k : ∀ b o, h.get? b = some o → h'.get? b = some o) : KeyAt h' v n d := by
  unfold KeyAt at *
  split at hK
  · rename_i h0
    rw [if_pos h0]
    obtain ⟨a, its, t, y, e, ⟨o, ho, r⟩, q⟩ := hK
    exact ⟨a, its, t, y, e, ⟨o, k _ _ ho, r⟩, q⟩
  · rename_i h0
    rw [if_neg h0]
    obtain ⟨a, its, t, u, i, j, e, ⟨o, ho, r⟩, q⟩ := hK
    exact ⟨a, its, t, u, i, j, e, ⟨o, k _ _ ho, r⟩, q⟩
theorem keyScope_ok {x : Str} {sc : Scope} (h : keyScope x sc = true) : sc.kind = .function ∧ sc.isCoroutine = false ∧ sc.isGenerator = false ∧ sc.names = [(x, .local)] := by
  unfold keyScope at h
  simp only [Bool.and_eq_true, Bool.not_eq_true', decide_eq_true_eq] at h
  exact ⟨h.1.1.1, h.1.1.2, h.1.2, h.2⟩
theorem lamArg_ok {ps : Arguments} {x : Str} (h : lamArg ps = some x) : ∃ an p, ps = ⟨[], [⟨x, an, p⟩], none, [], [], none, []⟩ := by
  unfold lamArg at h
  split at h
  · cases h
    exact ⟨_, _, rfl⟩
  · cases h
/-- within the frame -/
theorem key_frame {L : Addr} {h1 : Heap} {tk : Nat} {env : PySem.Env} {x : Str} {n : Nat} {e : Expr} {v : Value} {d : PyData} {E : Value → Shared → Prop} (he : isKey x n e = true) (hd : (x == ("__debug__" : Str)) = false) (hk : env.scope.kind = .function) (hl : env.kindOf x = some .local) (hL : env.locals = L)
    (hns : h1.Ns L fun y => [(x, v)].reverse.lookup y) (hsb : Heap.SameBut s.heap.objs.size (s.heap.push { cls := .type "frame", data := .dict #[] }) h1) (hK : KeyAt s.heap v n d) :
    wpAny (model P w) A (eval e env) (PySem.W.KeyPure d s) E { s with heap := h1, toks := tk } := by
  have kp : ∀ b o, s.heap.get? b = some o → h1.get? b = some o := fun b o e => hsb.extBut b o (Nat.ne_of_lt (Heap.lt_size e)) (Heap.get?_push_of_some _ e)
  refine key_run (s := { s with heap := h1, toks := tk }) (v := v) he hk hl hd (by rw [hL]; exact hns) (by simp) (hK.keeps kp) fun u h' tk k r => ?_
  exact ⟨h', tk, rfl, fun b o e => k b o (kp b o e), r⟩
theorem lam_turn {f c' : Addr} {params : Arguments} {body : Expr} {scope : Scope} {q : Str} {pm ctv : Value} {n : Nat} {v : Value} {d : PyData} {cl : List (Str × Addr)} (ho : s.heap.get? f = some (PySem.W.kla_obj "<lambda>" q params body scope cl pm c' ctv)) (hcd : s.heap.CodeRec (.ref c') q) (hroom : A.depth < recursionLimit)
    (lim : s.heap.NoLimit) (hp : lamOk n params body scope = true) (hK : KeyAt s.heap v n d) : wpAny (model P w) A (call (.ref f) [v]) (PySem.W.KeyPure d s) (fun _ _ => False) s := by
  unfold lamOk at hp
  split at hp
  · rename_i x hx
    simp only [Bool.and_eq_true, Bool.not_eq_true'] at hp
    obtain ⟨⟨h1, h2⟩, h3⟩ := hp
    obtain ⟨k1, k2, k3, k4⟩ := keyScope_ok h1
    obtain ⟨an, pp, rfl⟩ := lamArg_ok hx
    have hl : scope.names.lookup x = some .local := by rw [k4]; simp
    refine wpAny_call ?_
    refine PySem.W.kla_callFunE hroom ho rfl k2 k3 rfl hcd ?_
    have hb : bindArgs (PySem.W.kla_fn "<lambda>" q ⟨[], [⟨x, an, pp⟩], none, [], [], none, []⟩ body scope cl pm (.ref c') ctv) ⟨[v], []⟩ = pure [(x, v)] := bind_one rfl rfl
    rw [hb]
    refine wpAny_pure (wpAny_newFunctionEnv (fun y hy => ?_) (fun y hy => ?_) (fun h1 hns hsb => ⟨lim.fresh _ hsb, ?_⟩) k1)
    · rw [k4] at hy
      have e : y = (x, .local) := by simpa using hy
      rw [e]
      exact fun z => by cases z
    · have e : y = (x, v) := by simpa using hy
      rw [e]; exact hl
    · refine PySem.W.kla_codeExpr (wpAny_mono (key_frame (E := fun _ _ => False) h2 h3 k1 hl rfl hns hsb hK) (fun u s' z => z) fun _ _ z => z.elim)
  · cases hp
theorem def_turn {f : Addr} {st : Stmt} {oc : Value} {od an : Option Addr} {sl : Array (Option Value)} {kV doc pm cdv ct : Value} {q : Str} {n : Nat} {v : Value} {d : PyData} (ho : s.heap.get? f = some ⟨oc, od, .func (PySem.W.fnOf q q (defArgs st) (defBody st) (defScope st) .none kV doc pm an cdv ct), sl⟩) (hcd : s.heap.CodeRec cdv q)
    (hroom : A.depth < recursionLimit) (lim : s.heap.NoLimit) (hp : keyDef n st = true) (hK : KeyAt s.heap v n d) : wpAny (model P w) A (call (.ref f) [v]) (PySem.W.KeyPure d s) (fun _ _ => False) s := by
  unfold keyDef at hp
  split at hp
  · rename_i x e hx hr
    simp only [Bool.and_eq_true, Bool.not_eq_true'] at hp
    obtain ⟨⟨h1, h2⟩, h3⟩ := hp
    obtain ⟨k1, k2, k3, k4⟩ := keyScope_ok h1
    obtain ⟨an', pp, ha⟩ := lamArg_ok hx
    obtain ⟨rp, hbd⟩ : ∃ rp, defBody st = [.Return (some e) rp] := by
      unfold retOf at hr
      split at hr
      · rename_i h0
        cases hr
        exact ⟨_, h0⟩
      · cases hr
    rw [ha, hbd] at ho
    have hl : (defScope st).names.lookup x = some .local := by rw [k4]; simp
    refine wpAny_call ?_
    refine codeAny_call_function hroom ho rfl k2 k3 rfl hcd ?_
    have hb : bindArgs (PySem.W.fnOf q q ⟨[], [⟨x, an', pp⟩], none, [], [], none, []⟩ [.Return (some e) rp] (defScope st) .none kV doc pm an cdv ct) ⟨[v], []⟩ = pure [(x, v)] := bind_one rfl rfl
    rw [hb]
    refine wpAny_pure (wpAny_newFunctionEnv (fun y hy => ?_) (fun y hy => ?_) (fun h1 hns hsb => ⟨lim.fresh _ hsb, ?_⟩) k1)
    · have hy : y ∈ (defScope st).names := hy
      rw [k4] at hy
      have e : y = (x, .local) := by simpa using hy
      rw [e]
      exact fun z => by cases z
    · have e : y = (x, v) := by simpa using hy
      rw [e]; exact hl
    · refine codeAny_func (wpAny_execs_cons (wpAny_Return_some (wpAny_mono (key_frame (E := fun _ _ => False) h2 h3 k1 hl rfl hns hsb hK) (fun u s' z => z) fun _ _ z => z.elim)))
  · cases hp
end
/-! ### the lambda made -/
def Dom (H H' : Hp) : Prop := ∀ b o, H b = some o → ∃ o', H' b = some o'
section
variable {X : Cx} {pins : List (Addr × Obj)} {σ : L2.St} {H : Hp} {s : Shared}
open LamX in
theorem make3 {T : List (Addr × Str)} {c Pt : Addr} {params : Arguments} {body : Expr} {scope : Scope} {pos : Pos} {E : Value → Shared → Prop} {Q : Value → Shared → Prop} (I : Inv X pins σ H s) (TB : TabB X.base X.mg c Pt) (hcd : X.env.code = .ref c)
    (mm : (Pt, X.env.qual ++ "<lambda>") ∈ T) (mu : ∀ p ∈ T, p.1 = Pt → p.2 = X.env.qual ++ "<lambda>") (hT : Tabs T H) (hdef : defaultsOf params X.env = ([], [])) (hfree : ∀ y ∈ scope.names, y.2 = .free → ∃ c, X.env.cells.lookup y.1 = some c)
    (k : ∀ (f c' : Addr) (pm ctv : Value) (H1 : Hp) (s' : Shared), Inv X pins σ H1 s' → ExtN H H1 → Dom H H1 → Tabs T H1 → s'.heap.get? f = some (PySem.W.kla_obj "<lambda>" (X.env.qual ++ "<lambda>") params body scope (cloFrom X.env.cells scope.names []) pm c' ctv) → H1 c' = some (CodeO c' (X.env.qual ++ "<lambda>")) → Q (.ref f) s') :
    wpAny (model X.prog X.w) X.A (eval (.Lambda params body scope pos) X.env) Q E s := by
  obtain ⟨ps, hP, ht, ha⟩ := hT _ mm
  refine PySem.W.kla_eval hdef ?_
  have bP : s.heap.BuiltinsAt X.mg Pt := TB.bm.keeps I.bk
  have hP1 : s.heap.get? Pt = some { cls := .none, data := .fields ps } := I.hok Pt _ hP
  cases hc : codeAmong pos ps.toList with
  | none =>
    refine PySem.W.kla_makeFunction (mg := X.mg) (c := c) (P := Pt) (ps := ps) (closure_ok hfree) I.ok.glob (I.mod.glob.keeps I.bk) hcd (TB.code.keeps I.bk) hP1 ht hc TB.gP bP fun c' ctv h' tk hx hge hlt hrec htb => ?_
    obtain ⟨c2, oc, vs, t, e2, hoc, hd, hv⟩ := hrec
    cases e2
    have sz : s.heap.objs.size ≤ h'.objs.size := Nat.le_trans hge (Nat.le_of_lt hlt)
    have nC : H c' = none := I.hok.fresh hge
    have I1 := inv_table (t' := tk) (more := #[rawInt pos.line, rawInt pos.col, .ref c']) (h' := h'.push (PySem.W.kla_obj "<lambda>" (X.env.qual ++ "<lambda>") params body scope (cloFrom X.env.cells scope.names []) ((X.mg "__name__").getD .none) c' ctv)) I hP
      (fun b o hb e => Heap.get?_push_of_some _ (hx b o hb e)) (Heap.get?_push_of_some _ htb) hge ⟨oc, vs, t, Heap.get?_push_of_some _ hoc, hd, hv⟩
    have hE : ExtN H (upd (upd H Pt (.tbl (ps ++ #[rawInt pos.line, rawInt pos.col, .ref c']))) c' (CodeO c' (X.env.qual ++ "<lambda>"))) := fun b o e n => by
      rw [upd_ne (ne_of_none e nC), upd_ne (fun z => n ps (Option.some.inj (e.symm.trans (by rw [z]; exact hP))))]
      exact e
    have hD : Dom H (upd (upd H Pt (.tbl (ps ++ #[rawInt pos.line, rawInt pos.col, .ref c']))) c' (CodeO c' (X.env.qual ++ "<lambda>"))) := fun b o e => by
      rw [upd_ne (ne_of_none e nC)]
      by_cases hb : b = Pt
      · rw [hb, upd_same]; exact ⟨_, rfl⟩
      · rw [upd_ne hb]; exact ⟨o, e⟩
    have lst : (ps ++ #[rawInt pos.line, rawInt pos.col, .ref c']).toList = ps.toList ++ [rawInt pos.line, rawInt pos.col, .ref c'] := by simp
    refine k h'.objs.size c' ((X.mg "__name__").getD .none) ctv _ _ I1 hE hD (fun p hp => ?_) (Heap.get?_push_size _ rfl) upd_same
    by_cases hb : p.1 = Pt
    · rw [mu p hp hb, hb]
      refine ⟨_, by rw [upd_ne (ne_of_none hP nC), upd_same], by rw [lst]; exact PySem.TriplesOk_snoc _ _ _ _ ht, fun p' cv hcv => ?_⟩
      rw [lst] at hcv
      rcases among_app _ ht hcv with z | z
      · obtain ⟨c0, e1, e2⟩ := ha p' cv z
        exact ⟨c0, e1, hE _ _ e2 codeO_ne⟩
      · exact ⟨c', z, upd_same⟩
    · obtain ⟨ps', a1, a2, a3⟩ := hT p hp
      refine ⟨ps', by rw [upd_ne (ne_of_none a1 nC), upd_ne hb]; exact a1, a2, fun p' cv hcv => ?_⟩
      obtain ⟨c0, e1, e2⟩ := a3 p' cv hcv
      exact ⟨c0, e1, hE _ _ e2 codeO_ne⟩
  | some cv =>
    obtain ⟨c', e, hco⟩ := ha pos cv hc
    subst e
    refine PySem.W.kla_makeFunctionHit (mg := X.mg) (c := c) (P := Pt) (ps := ps) (closure_ok hfree) I.ok.glob (I.mod.glob.keeps I.bk) hcd (TB.code.keeps I.bk) hP1 ht hc bP fun ctv h' tk hx _ => ?_
    have I1 : Inv X pins σ H { s with heap := h'.push (PySem.W.kla_obj "<lambda>" (X.env.qual ++ "<lambda>") params body scope (cloFrom X.env.cells scope.names []) ((X.mg "__name__").getD .none) c' ctv), toks := tk } := I.kept fun b o e => Heap.get?_push_of_some _ (hx b o e)
    exact k h'.objs.size c' ((X.mg "__name__").getD .none) ctv H _ I1 (ExtN.refl H) (fun b o e => ⟨o, e⟩) hT (Heap.get?_push_size _ rfl) hco
end
end QK

/-! QRel: what data stands at what values of the abstract heap. -/
namespace Q
open PySem L2

/-- a tuple of the written part -/
def KT (K : PySem.W.Frag) (a : Addr) (xs : List V) : Prop :=
  ∃ (o : Obj) (its : Array Value) (n : Nat), K.lookup a = some o ∧ o.cls = .type "tuple" ∧ o.data = .seq its n ∧ its.size ≤ sizeLine ∧ Vals xs its.toList
def KL (K : PySem.W.Frag) (a : Addr) (xs : List V) : Prop :=
  ∃ (o : Obj) (its : Array Value) (n : Nat), K.lookup a = some o ∧ o.cls = .type "list" ∧ o.dict = none ∧ o.data = .seq its n ∧ its.size ≤ sizeLine ∧ Vals xs its.toList
def TupAt (K : PySem.W.Frag) (Z : Addr → Prop) (H : Hp) (a : Addr) (xs : List V) : Prop := (H a = some (.tup xs) ∧ ¬ Z a) ∨ KT K a xs
theorem TupAt.sq {K : PySem.W.Frag} {Z : Addr → Prop} {H : Hp} {a : Addr} {xs : List V} (h : TupAt K Z H a xs) : SqT K H a xs := by
  rcases h with h | h
  · exact .inl (.inl h.1)
  · exact .inr h
section
variable (K : PySem.W.Frag) (ρ : List Addr) (Z : Addr → Prop) (H : Hp)
mutual
/-- the data d is what v is, in H: no object of Z within (but places) -/
def Rep : D → V → Prop
  | .non, v => v = .non
  | .bl b, v => v = .bl b
  | .int i, v => v = .int i
  | .str s, v => v = .str s ∧ PySem.PyData.strOk s = true
  | .tup ds, v => ∃ a vs, v = .ref a ∧ TupAt K Z H a vs ∧ Reps ds vs
  | .lst ds, v => ∃ a vs, v = .ref a ∧ (H a = some (.lst vs) ∧ ¬ Z a) ∧ Reps ds vs
  | .loc n, v => ∃ a, v = .ref a ∧ ρ[n]? = some a
  | .frz ns, v => ∃ a, v = .ref a ∧ ((∃ o, H a = some (.frz o (.lst (ns.map V.int)))) ∨ KL K a (ns.map V.int) ∨ (H a = some (.lst (ns.map V.int)) ∧ ¬ Z a))
def Reps : List D → List V → Prop
  | [], vs => vs = []
  | d :: ds, vs => ∃ v r, vs = v :: r ∧ Rep d v ∧ Reps ds r
end
end
section
variable {K : PySem.W.Frag} {ρ : List Addr} {Z : Addr → Prop} {H : Hp}
theorem reps_iff : ∀ {ds : List D} {vs : List V}, Reps K ρ Z H ds vs ↔ ds.length = vs.length ∧ ∀ (i : Nat) (d : D) (v : V), ds[i]? = some d → vs[i]? = some v → Rep K ρ Z H d v
  | [], vs => by
    simp only [Reps]
    constructor
    · rintro rfl; simp
    · rintro ⟨h, _⟩
      exact List.eq_nil_of_length_eq_zero h.symm
  | d :: ds, vs => by
    simp only [Reps]
    constructor
    · rintro ⟨v, r, rfl, h1, h2⟩
      obtain ⟨h3, h4⟩ := reps_iff.mp h2
      refine ⟨by simp [h3], fun i d' v' e1 e2 => ?_⟩
      cases i with
      | zero => simp at e1 e2; subst e1; subst e2; exact h1
      | succ i => exact h4 i d' v' (by simpa using e1) (by simpa using e2)
    · rintro ⟨h, h2⟩
      cases vs with
      | nil => simp at h
      | cons v r =>
        exact ⟨v, r, rfl, h2 0 d v rfl rfl, reps_iff.mpr ⟨by simpa using h, fun i d' v' e1 e2 => h2 (i + 1) d' v' (by simpa using e1) (by simpa using e2)⟩⟩
theorem Reps.len {ds : List D} {vs : List V} (h : Reps K ρ Z H ds vs) : ds.length = vs.length := (reps_iff.mp h).1
theorem Reps.get {ds : List D} {vs : List V} (h : Reps K ρ Z H ds vs) {i : Nat} {d : D} (e : ds[i]? = some d) : ∃ v, vs[i]? = some v ∧ Rep K ρ Z H d v := by
  obtain ⟨h1, h2⟩ := reps_iff.mp h
  have hi : i < vs.length := by rw [← h1]; exact (List.getElem?_eq_some_iff.mp e).1
  exact ⟨vs[i], List.getElem?_eq_getElem hi, h2 i d _ e (List.getElem?_eq_getElem hi)⟩
theorem Reps.get' {ds : List D} {vs : List V} (h : Reps K ρ Z H ds vs) {i : Nat} {v : V} (e : vs[i]? = some v) : ∃ d, ds[i]? = some d ∧ Rep K ρ Z H d v := by
  obtain ⟨h1, h2⟩ := reps_iff.mp h
  have hi : i < ds.length := by rw [h1]; exact (List.getElem?_eq_some_iff.mp e).1
  exact ⟨ds[i], List.getElem?_eq_getElem hi, h2 i _ v (List.getElem?_eq_getElem hi) e⟩
theorem Reps.nil : Reps K ρ Z H [] [] := by simp [Reps]
theorem Reps.cons {d : D} {ds : List D} {v : V} {vs : List V} (h : Rep K ρ Z H d v) (t : Reps K ρ Z H ds vs) : Reps K ρ Z H (d :: ds) (v :: vs) := by
  simp only [Reps]; exact ⟨v, vs, rfl, h, t⟩
theorem Reps.append : ∀ {ds es : List D} {vs ws : List V}, Reps K ρ Z H ds vs → Reps K ρ Z H es ws → Reps K ρ Z H (ds ++ es) (vs ++ ws)
  | [], _, _, _, h, h2 => by simp only [Reps] at h; subst h; exact h2
  | d :: ds, _, _, _, h, h2 => by
    simp only [Reps] at h
    obtain ⟨v, r, rfl, h1, h3⟩ := h
    exact .cons h1 (Reps.append h3 h2)
theorem Reps.of_get {ds : List D} {vs : List V} (hl : ds.length = vs.length) (h : ∀ (i : Nat) (d : D) (v : V), ds[i]? = some d → vs[i]? = some v → Rep K ρ Z H d v) : Reps K ρ Z H ds vs := reps_iff.mpr ⟨hl, h⟩
theorem Reps.take {ds : List D} {vs : List V} (n : Nat) (h : Reps K ρ Z H ds vs) : Reps K ρ Z H (ds.take n) (vs.take n) := by
  obtain ⟨h1, h2⟩ := reps_iff.mp h
  refine .of_get (by simp [h1]) fun i d v e1 e2 => ?_
  rw [List.getElem?_take] at e1 e2
  split at e1
  · rename_i hi
    rw [if_pos hi] at e2
    exact h2 i d v e1 e2
  · cases e1
theorem Reps.drop {ds : List D} {vs : List V} (n : Nat) (h : Reps K ρ Z H ds vs) : Reps K ρ Z H (ds.drop n) (vs.drop n) := by
  obtain ⟨h1, h2⟩ := reps_iff.mp h
  refine .of_get (by simp [h1]) fun i d v e1 e2 => ?_
  rw [List.getElem?_drop] at e1 e2
  exact h2 _ d v e1 e2
theorem Reps.set {ds : List D} {vs : List V} {d : D} {v : V} (n : Nat) (h : Reps K ρ Z H ds vs) (hd : Rep K ρ Z H d v) : Reps K ρ Z H (ds.set n d) (vs.set n v) := by
  obtain ⟨h1, h2⟩ := reps_iff.mp h
  refine .of_get (by simp [h1]) fun i d' v' e1 e2 => ?_
  rw [List.getElem?_set] at e1 e2
  split at e1
  · rename_i hi
    rw [if_pos hi] at e2
    split at e1
    · split at e2
      · cases e1; cases e2; exact hd
      · cases e2
    · cases e1
  · rename_i hi
    rw [if_neg hi] at e2
    exact h2 i d' v' e1 e2
theorem Reps.erase {ds : List D} {vs : List V} (n : Nat) (h : Reps K ρ Z H ds vs) : Reps K ρ Z H (ds.eraseIdx n) (vs.eraseIdx n) := by
  rw [List.eraseIdx_eq_take_drop_succ, List.eraseIdx_eq_take_drop_succ]
  exact (h.take n).append (h.drop (n + 1))
theorem Reps.ints : ∀ ns : List Int, Reps K ρ Z H (ns.map D.int) (ns.map V.int)
  | [] => .nil
  | n :: ns => .cons (by simp [Rep]) (Reps.ints ns)
theorem Reps.eq_ints : ∀ {ds : List D} {vs : List V} {ns : List Int}, Reps K ρ Z H ds vs → intsOf ds = some ns → vs = ns.map V.int
  | [], vs, ns, h, e => by
    simp only [Reps] at h; simp only [intsOf] at e; cases e; exact h
  | d :: ds, vs, ns, h, e => by
    simp only [Reps] at h
    obtain ⟨v, r, rfl, h1, h2⟩ := h
    cases d with
    | int x =>
      simp only [intsOf] at e
      cases e2 : intsOf ds with
      | none => rw [e2] at e; cases e
      | some xs =>
        rw [e2] at e
        cases e
        simp only [Rep] at h1
        rw [h1, Reps.eq_ints h2 e2]; rfl
    | _ => simp only [intsOf] at e; cases e
theorem Reps.eq_strs : ∀ {ds : List D} {vs : List V} {ns : List Str}, Reps K ρ Z H ds vs → strsOf ds = some ns → vs = ns.map V.str ∧ ∀ x ∈ ns, PySem.PyData.strOk x = true
  | [], vs, ns, h, e => by
    simp only [Reps] at h; simp only [strsOf] at e; cases e; exact ⟨h, by simp⟩
  | d :: ds, vs, ns, h, e => by
    simp only [Reps] at h
    obtain ⟨v, r, rfl, h1, h2⟩ := h
    cases d with
    | str x =>
      simp only [strsOf] at e
      cases e2 : strsOf ds with
      | none => rw [e2] at e; cases e
      | some xs =>
        rw [e2] at e
        cases e
        simp only [Rep] at h1
        obtain ⟨h3, h4⟩ := Reps.eq_strs h2 e2
        rw [h1.1, h3]
        refine ⟨rfl, fun y hy => ?_⟩
        rcases List.mem_cons.mp hy with rfl | hy
        · exact h1.2
        · exact h4 y hy
    | _ => simp only [strsOf] at e; cases e
theorem Reps.eq_bls : ∀ {ds : List D} {vs : List V} {ns : List Bool}, Reps K ρ Z H ds vs → blsOf ds = some ns → vs = ns.map V.bl
  | [], vs, ns, h, e => by
    simp only [Reps] at h; simp only [blsOf] at e; cases e; exact h
  | d :: ds, vs, ns, h, e => by
    simp only [Reps] at h
    obtain ⟨v, r, rfl, h1, h2⟩ := h
    cases d with
    | bl x =>
      simp only [blsOf] at e
      cases e2 : blsOf ds with
      | none => rw [e2] at e; cases e
      | some xs =>
        rw [e2] at e
        cases e
        simp only [Rep] at h1
        rw [h1, Reps.eq_bls h2 e2]; rfl
    | _ => simp only [blsOf] at e; cases e
theorem Reps.strs {ss : List Str} (h : ∀ x ∈ ss, PySem.PyData.strOk x = true) : Reps K ρ Z H (ss.map D.str) (ss.map V.str) := by
  refine .of_get (by simp) fun i d v e1 e2 => ?_
  rw [List.getElem?_map] at e1 e2
  cases e : ss[i]? with
  | none => rw [e] at e1; cases e1
  | some x =>
    rw [e] at e1 e2
    cases e1; cases e2
    show Rep K ρ Z H (.str x) (.str x)
    simp only [Rep]
    exact ⟨trivial, h x (List.mem_of_getElem? e)⟩
end

/-- what a step keeps -/
structure Fr (ρ : List Addr) (Z : Addr → Prop) (H : Hp) (ρ' : List Addr) (Z' : Addr → Prop) (H' : Hp) : Prop where
  pre : ∃ r, ρ' = ρ ++ r
  keep : ∀ a o, H a = some o → a ∉ ρ → (∀ ps, o ≠ .tbl ps) → H' a = some o
  ex : ∀ a o, H a = some o → (Z' a ↔ Z a)
  dom : ∀ a o, H a = some o → ∃ o', H' a = some o'
  frz : ∀ a o u, H a = some (.frz o u) → H' a = some (.frz o u)
  new : ∀ a ∈ ρ', a ∈ ρ ∨ H a = none
def KReps (K : PySem.W.Frag) (ρ : List Addr) (Z : Addr → Prop) (H : Hp) (kvs : List (Key × D)) (ws : List (Key × V)) : Prop :=
  kvs.map (·.1) = ws.map (·.1) ∧ Reps K ρ Z H (kvs.map (·.2)) (ws.map (·.2)) ∧ ∀ z : Str, Sum.inr z ∈ kvs.map (·.1) → PySem.PyData.strOk z = true
def ObjAt (K : PySem.W.Frag) (ρ : List Addr) (Z : Addr → Prop) (H : Hp) (a : Addr) : SO → Prop
  | .lst ds => ∃ vs, H a = some (.lst vs) ∧ Reps K ρ Z H ds vs
  | .dct kvs => ∃ ws, H a = some (.dK ws) ∧ KReps K ρ Z H kvs ws
  | .lck kvs => ∃ o ws, H a = some (.frz o (.dK ws)) ∧ KReps K ρ Z H kvs ws
structure RelS (K : PySem.W.Frag) (T : List (Addr × Str)) (ρ : List Addr) (Z : Addr → Prop) (st : Store) (H : Hp) : Prop where
  len : ρ.length = st.length
  nd : ρ.Nodup
  sub : ∀ a ∈ ρ, Z a
  dom : ∀ a, Z a → ∃ o, H a = some o
  obj : ∀ (n : Nat) (a : Addr) (so : SO), ρ[n]? = some a → st[n]? = some so → ObjAt K ρ Z H a so
  tabs : LamX.Tabs T H

section
variable {K : PySem.W.Frag} {T : List (Addr × Str)} {ρ ρ' ρ'' : List Addr} {Z Z' Z'' : Addr → Prop} {H H' H'' : Hp} {st st' : Store}
theorem Fr.refl : Fr ρ Z H ρ Z H := ⟨⟨[], by simp⟩, fun _ _ h _ _ => h, fun _ _ _ => Iff.rfl, fun _ o h => ⟨o, h⟩, fun _ _ _ h => h, fun _ h => .inl h⟩
theorem Fr.trans (a : Fr ρ Z H ρ' Z' H') (b : Fr ρ' Z' H' ρ'' Z'' H'') : Fr ρ Z H ρ'' Z'' H'' := by
  obtain ⟨r, e⟩ := a.pre
  obtain ⟨r', e'⟩ := b.pre
  refine ⟨⟨r ++ r', by rw [e', e, List.append_assoc]⟩, fun c o h hn ht => ?_, fun c o h => ?_, fun c o h => ?_, fun c o u h => b.frz _ _ _ (a.frz _ _ _ h), fun c hc => ?_⟩
  · refine b.keep c o (a.keep c o h hn ht) (fun hc => ?_) ht
    rcases a.new c hc with z | z
    · exact hn z
    · rw [h] at z; cases z
  · obtain ⟨o', h'⟩ := a.dom c o h
    exact (b.ex c o' h').trans (a.ex c o h)
  · obtain ⟨o', h'⟩ := a.dom c o h
    exact b.dom c o' h'
  · rcases b.new c hc with z | z
    · exact a.new c z
    · right
      cases q : H c with
      | none => rfl
      | some o =>
        obtain ⟨o', h'⟩ := a.dom c o q
        rw [z] at h'; cases h'
/-- what a reading leans on -/
structure Fz (ρ : List Addr) (Z : Addr → Prop) (H : Hp) (ρ' : List Addr) (Z' : Addr → Prop) (H' : Hp) : Prop where
  pre : ∃ r, ρ' = ρ ++ r
  keep : ∀ a o, H a = some o → ¬ Z a → (∀ ps, o ≠ .tbl ps) → H' a = some o
  ex : ∀ a o, H a = some o → Z' a → Z a
  frz : ∀ a o u, H a = some (.frz o u) → H' a = some (.frz o u)
/-- less of it: locked things but lists may change -/
structure Fy (ρ : List Addr) (Z : Addr → Prop) (H : Hp) (ρ' : List Addr) (Z' : Addr → Prop) (H' : Hp) : Prop where
  pre : ∃ r, ρ' = ρ ++ r
  keep : ∀ a o, H a = some o → ¬ Z a → (∀ ps, o ≠ .tbl ps) → H' a = some o
  ex : ∀ a o, H a = some o → Z' a → Z a
  frz : ∀ a o us, H a = some (.frz o (.lst us)) → H' a = some (.frz o (.lst us))
theorem Fz.fy (f : Fz ρ Z H ρ' Z' H') : Fy ρ Z H ρ' Z' H' := ⟨f.pre, f.keep, f.ex, fun a o us => f.frz a o _⟩
theorem Fr.fz (sub : ∀ a ∈ ρ, Z a) (f : Fr ρ Z H ρ' Z' H') : Fz ρ Z H ρ' Z' H' := ⟨f.pre, fun a o h hz => f.keep a o h fun z => hz (sub a z), fun a o h => (f.ex a o h).mp, f.frz⟩
mutual
theorem Rep.my (f : Fy ρ Z H ρ' Z' H') : ∀ (d : D) (v : V), Rep K ρ Z H d v → Rep K ρ' Z' H' d v
  | .non, v, h => by simpa only [Rep] using h
  | .bl _, v, h => by simpa only [Rep] using h
  | .int _, v, h => by simpa only [Rep] using h
  | .str _, v, h => by simpa only [Rep] using h
  | .tup ds, v, h => by
    simp only [Rep] at h ⊢
    obtain ⟨a, vs, rfl, h1, h2⟩ := h
    refine ⟨a, vs, rfl, ?_, Reps.my f ds vs h2⟩
    rcases h1 with ⟨h1, h3⟩ | h1
    · exact .inl ⟨f.keep a _ h1 h3 (fun _ z => nomatch z), fun z => h3 (f.ex a _ h1 z)⟩
    · exact .inr h1
  | .lst ds, v, h => by
    simp only [Rep] at h ⊢
    obtain ⟨a, vs, rfl, ⟨h1, h3⟩, h2⟩ := h
    exact ⟨a, vs, rfl, ⟨f.keep a _ h1 h3 (fun _ z => nomatch z), fun z => h3 (f.ex a _ h1 z)⟩, Reps.my f ds vs h2⟩
  | .loc n, v, h => by
    simp only [Rep] at h ⊢
    obtain ⟨a, rfl, h1⟩ := h
    obtain ⟨r, e⟩ := f.pre
    refine ⟨a, rfl, ?_⟩
    rw [e, List.getElem?_append_left (List.getElem?_eq_some_iff.mp h1).1]
    exact h1
  | .frz ns, v, h => by
    simp only [Rep] at h ⊢
    obtain ⟨a, rfl, h⟩ := h
    refine ⟨a, rfl, ?_⟩
    rcases h with ⟨o, h⟩ | h | ⟨h, hz⟩
    · exact .inl ⟨o, f.frz _ _ _ h⟩
    · exact .inr (.inl h)
    · exact .inr (.inr ⟨f.keep a _ h hz (fun _ z => nomatch z), fun z => hz (f.ex a _ h z)⟩)
theorem Reps.my (f : Fy ρ Z H ρ' Z' H') : ∀ (ds : List D) (vs : List V), Reps K ρ Z H ds vs → Reps K ρ' Z' H' ds vs
  | [], vs, h => by simpa only [Reps] using h
  | d :: ds, vs, h => by
    simp only [Reps] at h ⊢
    obtain ⟨v, r, e, h1, h2⟩ := h
    exact ⟨v, r, e, Rep.my f d v h1, Reps.my f ds r h2⟩
end
theorem Rep.mz (f : Fz ρ Z H ρ' Z' H') (d : D) (v : V) (h : Rep K ρ Z H d v) : Rep K ρ' Z' H' d v := Rep.my f.fy d v h
theorem Reps.mz (f : Fz ρ Z H ρ' Z' H') (ds : List D) (vs : List V) (h : Reps K ρ Z H ds vs) : Reps K ρ' Z' H' ds vs := Reps.my f.fy ds vs h
theorem Fz.refl : Fz ρ Z H ρ Z H := ⟨⟨[], by simp⟩, fun _ _ h _ _ => h, fun _ _ _ z => z, fun _ _ _ h => h⟩
theorem Fz.trans (a : Fz ρ Z H ρ' Z' H') (dom : ∀ c o, H c = some o → ∃ o', H' c = some o') (b : Fz ρ' Z' H' ρ'' Z'' H'') : Fz ρ Z H ρ'' Z'' H'' := by
  obtain ⟨r, e⟩ := a.pre
  obtain ⟨r', e'⟩ := b.pre
  refine ⟨⟨r ++ r', by rw [e', e, List.append_assoc]⟩, fun c o h hz ht => ?_, fun c o h z => ?_, fun c o u h => b.frz _ _ _ (a.frz _ _ _ h)⟩
  · have h' := a.keep c o h hz ht
    exact b.keep c o h' (fun z => hz (a.ex c o h z)) ht
  · obtain ⟨o', h'⟩ := dom c o h
    exact a.ex c o h (b.ex c o' h' z)
theorem Rep.mono (sub : ∀ a ∈ ρ, Z a) (f : Fr ρ Z H ρ' Z' H') (d : D) (v : V) (h : Rep K ρ Z H d v) : Rep K ρ' Z' H' d v := Rep.mz (f.fz sub) d v h
theorem Reps.mono (sub : ∀ a ∈ ρ, Z a) (f : Fr ρ Z H ρ' Z' H') (ds : List D) (vs : List V) (h : Reps K ρ Z H ds vs) : Reps K ρ' Z' H' ds vs := Reps.mz (f.fz sub) ds vs h
mutual
/-- fewer forbidden objects -/
theorem Rep.anti (hz : ∀ a, Z' a → Z a) : ∀ (d : D) (v : V), Rep K ρ Z H d v → Rep K ρ Z' H d v
  | .non, v, h => by simpa only [Rep] using h
  | .bl _, v, h => by simpa only [Rep] using h
  | .int _, v, h => by simpa only [Rep] using h
  | .str _, v, h => by simpa only [Rep] using h
  | .tup ds, v, h => by
    simp only [Rep] at h ⊢
    obtain ⟨a, vs, rfl, h1, h2⟩ := h
    refine ⟨a, vs, rfl, ?_, Reps.anti hz ds vs h2⟩
    rcases h1 with ⟨h1, h3⟩ | h1
    · exact .inl ⟨h1, fun z => h3 (hz a z)⟩
    · exact .inr h1
  | .lst ds, v, h => by
    simp only [Rep] at h ⊢
    obtain ⟨a, vs, rfl, ⟨h1, h3⟩, h2⟩ := h
    exact ⟨a, vs, rfl, ⟨h1, fun z => h3 (hz a z)⟩, Reps.anti hz ds vs h2⟩
  | .loc n, v, h => by simpa only [Rep] using h
  | .frz ns, v, h => by
    simp only [Rep] at h ⊢
    obtain ⟨a, rfl, h⟩ := h
    refine ⟨a, rfl, ?_⟩
    rcases h with h | h | ⟨h, h2⟩
    · exact .inl h
    · exact .inr (.inl h)
    · exact .inr (.inr ⟨h, fun z => h2 (hz a z)⟩)
theorem Reps.anti (hz : ∀ a, Z' a → Z a) : ∀ (ds : List D) (vs : List V), Reps K ρ Z H ds vs → Reps K ρ Z' H ds vs
  | [], vs, h => by simpa only [Reps] using h
  | d :: ds, vs, h => by
    simp only [Reps] at h ⊢
    obtain ⟨v, r, e, h1, h2⟩ := h
    exact ⟨v, r, e, Rep.anti hz d v h1, Reps.anti hz ds r h2⟩
end
theorem KReps.mono (sub : ∀ a ∈ ρ, Z a) (f : Fr ρ Z H ρ' Z' H') {kvs : List (Key × D)} {ws : List (Key × V)} (h : KReps K ρ Z H kvs ws) : KReps K ρ' Z' H' kvs ws := ⟨h.1, Reps.mono sub f _ _ h.2.1, h.2.2⟩
theorem KReps.mz (f : Fz ρ Z H ρ' Z' H') {kvs : List (Key × D)} {ws : List (Key × V)} (h : KReps K ρ Z H kvs ws) : KReps K ρ' Z' H' kvs ws := ⟨h.1, Reps.mz f _ _ h.2.1, h.2.2⟩
theorem KReps.my (f : Fy ρ Z H ρ' Z' H') {kvs : List (Key × D)} {ws : List (Key × V)} (h : KReps K ρ Z H kvs ws) : KReps K ρ' Z' H' kvs ws := ⟨h.1, Reps.my f _ _ h.2.1, h.2.2⟩
theorem KReps.anti (hz : ∀ a, Z' a → Z a) {kvs : List (Key × D)} {ws : List (Key × V)} (h : KReps K ρ Z H kvs ws) : KReps K ρ Z' H kvs ws := ⟨h.1, h.2.1.anti hz, h.2.2⟩
theorem ObjAt.tracked {a : Addr} {so : SO} (h : ObjAt K ρ Z H a so) : (∃ vs, H a = some (.lst vs)) ∨ (∃ ws, H a = some (.dK ws)) ∨ ∃ o u, H a = some (.frz o u) := by
  cases so with
  | lst ds => obtain ⟨vs, h, _⟩ := h; exact .inl ⟨vs, h⟩
  | dct kvs => obtain ⟨vs, h, _⟩ := h; exact .inr (.inl ⟨vs, h⟩)
  | lck kvs => obtain ⟨o, vs, h, _⟩ := h; exact .inr (.inr ⟨o, _, h⟩)
theorem RelS.at (r : RelS K T ρ Z st H) {n : Nat} {a : Addr} (h : ρ[n]? = some a) : ∃ so, st[n]? = some so ∧ ObjAt K ρ Z H a so := by
  have hn : n < st.length := by rw [← r.len]; exact (List.getElem?_eq_some_iff.mp h).1
  exact ⟨st[n], List.getElem?_eq_getElem hn, r.obj n a _ h (List.getElem?_eq_getElem hn)⟩
theorem RelS.untup (r : RelS K T ρ Z st H) {a : Addr} (h : a ∈ ρ) : (∀ vs, H a ≠ some (.tup vs)) ∧ (∀ ps, H a ≠ some (.tbl ps)) ∧ (∀ φ, H a ≠ some (.ext φ)) := by
  obtain ⟨n, hn⟩ := List.getElem?_of_mem h
  obtain ⟨so, _, h2⟩ := r.at hn
  have no : ∀ {x y : HO}, x ≠ y → some x ≠ some y := fun h e => h (Option.some.inj e)
  rcases h2.tracked with ⟨vs, e⟩ | ⟨vs, e⟩ | ⟨o, u, e⟩ <;> rw [e] <;> exact ⟨fun _ => no (by simp), fun _ => no (by simp), fun _ => no (by simp)⟩
/-- tables stay where the places of the store alone change -/
theorem RelS.tabs_of (r : RelS K T ρ Z st H) (h : ∀ a o, H a = some o → a ∉ ρ → H' a = some o) : LamX.Tabs T H' := fun p hp => by
  obtain ⟨ps, h1, h2, h3⟩ := r.tabs p hp
  refine ⟨ps, h _ _ h1 (fun z => (r.untup z).2.1 _ h1), h2, fun pos cv hc => ?_⟩
  obtain ⟨c, e1, e2⟩ := h3 pos cv hc
  exact ⟨c, e1, h _ _ e2 (fun z => (r.untup z).2.2 _ e2)⟩
/-- a new object that is no place -/
theorem fr_new {p : Addr} {o : HO} (hp : H p = none) : Fr ρ Z H ρ Z (upd H p o) := by
  have k : ∀ a o', H a = some o' → upd H p o a = some o' := fun a o' h => by rw [upd_ne (ne_of_none h hp)]; exact h
  exact ⟨⟨[], by simp⟩, fun a o' h _ _ => k a o' h, fun _ _ _ => Iff.rfl, fun a o' h => ⟨o', k a o' h⟩, fun a o' u h => k a _ h, fun _ h => .inl h⟩
theorem RelS.new {p : Addr} {o : HO} (r : RelS K T ρ Z st H) (hp : H p = none) : RelS K T ρ Z st (upd H p o) := by
  have k : ∀ a o', H a = some o' → upd H p o a = some o' := fun a o' h => by rw [upd_ne (ne_of_none h hp)]; exact h
  refine ⟨r.len, r.nd, r.sub, fun a h => ?_, fun n a so h1 h2 => ?_, r.tabs_of fun a o' h _ => k a o' h⟩
  · obtain ⟨o', h'⟩ := r.dom a h
    exact ⟨o', k a o' h'⟩
  · have f : Fr ρ Z H ρ Z (upd H p o) := fr_new hp
    have q := r.obj n a so h1 h2
    cases so with
    | lst ds => obtain ⟨vs, e, q⟩ := q; exact ⟨vs, k _ _ e, Reps.mono r.sub f _ _ q⟩
    | dct kvs => obtain ⟨vs, e, q⟩ := q; exact ⟨vs, k _ _ e, q.mono r.sub f⟩
    | lck kvs => obtain ⟨ob, vs, e, q⟩ := q; exact ⟨ob, vs, k _ _ e, q.mono r.sub f⟩
theorem RelS.free (r : RelS K T ρ Z st H) {p : Addr} (hp : H p = none) : ¬ Z p := fun z => by
  obtain ⟨o, h⟩ := r.dom p z
  rw [hp] at h; cases h
/-- a new place -/
theorem fr_place {p : Addr} {o : HO} (hp : H p = none) : Fr ρ Z H (ρ ++ [p]) (fun a => Z a ∨ a = p) (upd H p o) := by
  have k : ∀ a o', H a = some o' → upd H p o a = some o' := fun a o' h => by rw [upd_ne (ne_of_none h hp)]; exact h
  refine ⟨⟨[p], rfl⟩, fun a o' h _ _ => k a o' h, fun a o' h => ⟨fun z => ?_, .inl⟩, fun a o' h => ⟨o', k a o' h⟩, fun a o' u h => k a _ h, fun a h => ?_⟩
  · rcases z with z | z
    · exact z
    · exact absurd z (ne_of_none h hp)
  · rcases List.mem_append.mp h with h | h
    · exact .inl h
    · have e : a = p := by simpa using h
      subst e
      exact .inr hp
theorem RelS.place {p : Addr} {o : HO} {so : SO} (r : RelS K T ρ Z st H) (hp : H p = none) (ho : ObjAt K (ρ ++ [p]) (fun a => Z a ∨ a = p) (upd H p o) p so) :
    RelS K T (ρ ++ [p]) (fun a => Z a ∨ a = p) (st ++ [so]) (upd H p o) := by
  have k : ∀ a o', H a = some o' → upd H p o a = some o' := fun a o' h => by rw [upd_ne (ne_of_none h hp)]; exact h
  have hf : Fr ρ Z H (ρ ++ [p]) (fun a => Z a ∨ a = p) (upd H p o) := fr_place hp
  refine ⟨by simp [r.len], ?_, fun a h => ?_, fun a h => ?_, fun n a so' h1 h2 => ?_, r.tabs_of fun a o' h _ => k a o' h⟩
  · rw [List.nodup_append]
    refine ⟨r.nd, by simp, fun a ha b hb e => ?_⟩
    have eb : b = p := by simpa using hb
    subst e; subst eb
    exact r.free hp (r.sub _ ha)
  · rcases List.mem_append.mp h with h | h
    · exact .inl (r.sub a h)
    · exact .inr (by simpa using h)
  · rcases h with h | rfl
    · obtain ⟨o', h'⟩ := r.dom a h
      exact ⟨o', k a o' h'⟩
    · exact ⟨o, upd_same⟩
  · by_cases hn : n < ρ.length
    · rw [List.getElem?_append_left hn] at h1
      rw [List.getElem?_append_left (by rw [← r.len]; exact hn)] at h2
      have q := r.obj n a so' h1 h2
      cases so' with
      | lst ds => obtain ⟨vs, e, q⟩ := q; exact ⟨vs, k _ _ e, Reps.mono r.sub hf _ _ q⟩
      | dct kvs => obtain ⟨vs, e, q⟩ := q; exact ⟨vs, k _ _ e, q.mono r.sub hf⟩
      | lck kvs => obtain ⟨ob, vs, e, q⟩ := q; exact ⟨ob, vs, k _ _ e, q.mono r.sub hf⟩
    · have hn' : n = ρ.length := by
        have := (List.getElem?_eq_some_iff.mp h1).1
        simp at this
        omega
      subst hn'
      rw [List.getElem?_append_right (Nat.le_refl _)] at h1
      rw [r.len, List.getElem?_append_right (Nat.le_refl _)] at h2
      simp at h1 h2
      subst h1; subst h2
      exact ho
/-- a place written -/
theorem fr_write {p : Addr} {o : HO} (hp : p ∈ ρ) (hz : ∃ o', H p = some o') (hn : ∀ o u, H p ≠ some (.frz o u)) : Fr ρ Z H ρ Z (upd H p o) := by
  refine ⟨⟨[], by simp⟩, fun a o' h ha _ => ?_, fun _ _ _ => Iff.rfl, fun a o' h => ?_, fun a o' u h => ?_, fun _ h => .inl h⟩
  · rw [upd_ne (fun (e : a = p) => ha (e ▸ hp))]; exact h
  · by_cases e : a = p
    · subst e; exact ⟨o, upd_same⟩
    · exact ⟨o', by rw [upd_ne e]; exact h⟩
  · rw [upd_ne (fun (e : a = p) => hn o' u (e ▸ h))]; exact h
theorem RelS.write {p : Addr} {o : HO} {so : SO} {n : Nat} (r : RelS K T ρ Z st H) (hn : ρ[n]? = some p) (hf : ∀ o u, H p ≠ some (.frz o u)) (ho : ObjAt K ρ Z (upd H p o) p so) :
    RelS K T ρ Z (st.set n so) (upd H p o) := by
  have hp : p ∈ ρ := List.mem_of_getElem? hn
  have k : ∀ a o', H a = some o' → a ≠ p → upd H p o a = some o' := fun a o' h e => by rw [upd_ne e]; exact h
  have hfr : Fr ρ Z H ρ Z (upd H p o) := fr_write hp (r.dom p (r.sub p hp)) hf
  have hnl : n < ρ.length := (List.getElem?_eq_some_iff.mp hn).1
  refine ⟨by simp [r.len], r.nd, r.sub, fun a h => ?_, fun m a so' h1 h2 => ?_, r.tabs_of fun a o' h ha => k a o' h fun e => ha (e ▸ hp)⟩
  · obtain ⟨o', h'⟩ := r.dom a h
    exact hfr.dom a o' h'
  · by_cases hm : n = m
    · subst hm
      rw [hn] at h1
      cases h1
      rw [List.getElem?_set_self (by rw [← r.len]; exact hnl)] at h2
      cases h2
      exact ho
    · rw [List.getElem?_set_ne hm] at h2
      have hap : a ≠ p := fun e => by
        subst e
        have h3 := (List.getElem?_eq_some_iff.mp h1)
        have h4 := (List.getElem?_eq_some_iff.mp hn)
        exact hm ((List.getElem_inj r.nd).mp (h4.2.trans h3.2.symm))
      have q := r.obj m a so' h1 h2
      cases so' with
      | lst ds => obtain ⟨vs, e, q⟩ := q; exact ⟨vs, k _ _ e hap, Reps.mono r.sub hfr _ _ q⟩
      | dct kvs => obtain ⟨vs, e, q⟩ := q; exact ⟨vs, k _ _ e hap, q.mono r.sub hfr⟩
      | lck kvs => obtain ⟨ob, vs, e, q⟩ := q; exact ⟨ob, vs, k _ _ e hap, q.mono r.sub hfr⟩
/-- what is read at data -/
theorem rep_lst (r : RelS K T ρ Z st H) {d : D} {v : V} {ds : List D} (h : Rep K ρ Z H d v) (e : lstOf st d = some ds) : ∃ a vs, v = .ref a ∧ H a = some (.lst vs) ∧ Reps K ρ Z H ds vs := by
  cases d with
  | lst es =>
    simp only [lstOf] at e; cases e
    simp only [Rep] at h
    obtain ⟨a, vs, rfl, ⟨h1, _⟩, h2⟩ := h
    exact ⟨a, vs, rfl, h1, h2⟩
  | loc n =>
    simp only [lstOf] at e
    simp only [Rep] at h
    obtain ⟨a, rfl, h1⟩ := h
    obtain ⟨so, h2, h3⟩ := r.at h1
    rw [h2] at e
    cases so with
    | lst es => simp at e; subst e; obtain ⟨vs, h4, h5⟩ := h3; exact ⟨a, vs, rfl, h4, h5⟩
    | dct _ => simp at e
    | lck _ => simp at e
  | _ => simp only [lstOf] at e; cases e
theorem rep_seq (r : RelS K T ρ Z st H) {d : D} {v : V} {ds : List D} (h : Rep K ρ Z H d v) (e : seqOf st d = some ds) : ∃ a vs, v = .ref a ∧ (SqL K H a vs ∨ SqT K H a vs) ∧ Reps K ρ Z H ds vs := by
  cases d with
  | tup es =>
    simp only [seqOf] at e; cases e
    simp only [Rep] at h
    obtain ⟨a, vs, rfl, h1, h2⟩ := h
    exact ⟨a, vs, rfl, .inr h1.sq, h2⟩
  | lst es =>
    obtain ⟨a, vs, e1, h1, h2⟩ := rep_lst (st := st) r h (ds := ds) e
    exact ⟨a, vs, e1, .inl (.inl (.inl h1)), h2⟩
  | loc n =>
    obtain ⟨a, vs, e1, h1, h2⟩ := rep_lst (st := st) r h (ds := ds) e
    exact ⟨a, vs, e1, .inl (.inl (.inl h1)), h2⟩
  | _ => simp only [seqOf] at e; cases e
theorem rep_tup {d : List D} {v : V} (h : Rep K ρ Z H (.tup d) v) : ∃ a vs, v = .ref a ∧ SqT K H a vs ∧ Reps K ρ Z H d vs := by
  simp only [Rep] at h
  obtain ⟨a, vs, rfl, h1, h2⟩ := h
  exact ⟨a, vs, rfl, h1.sq, h2⟩
/-- a new tuple -/
theorem rep_newT (r : RelS K T ρ Z st H) {p : Addr} {ds : List D} {vs : List V} (hp : H p = none) (h : Reps K ρ Z H ds vs) : Rep K ρ Z (upd H p (.tup vs)) (.tup ds) (.ref p) := by
  simp only [Rep]
  exact ⟨p, vs, rfl, .inl ⟨upd_same, r.free hp⟩, Reps.mono r.sub (fr_new hp) _ _ h⟩
end
end Q

/-! QOps: operators, comparisons, subscripts by values: the evaluator's answer is the machine's. -/
namespace Q
open PySem PySem.Spec PyProof.Rows L2

/-! ### data as PyData -/
mutual
def D.py : D → PyData
  | .non => .none
  | .bl b => .bool b
  | .int i => .int i
  | .str s => .str s
  | .tup ds => .tuple (D.pyL ds)
  | .lst ds => .list (D.pyL ds)
  | .loc _ => .none
  | .frz _ => .none
def D.pyL : List D → List PyData
  | [] => []
  | d :: ds => D.py d :: D.pyL ds
end
section
variable {K : PySem.W.Frag} {T : List (Addr × Str)} {ρ ρ' : List Addr} {Z Z' : Addr → Prop} {H H' : Hp} {st st' : Store}
mutual
theorem dp_of : ∀ (n : Nat) (d : D) (v : V), Rep K ρ Z H d v → d.ok n = true → Dp K H v d.py ∧ d.py.canLay0 = true ∧ d.py.depth ≤ n
  | n, .non, v, h, _ => by simp only [Rep] at h; subst h; exact ⟨.non, by simp [D.py, PyData.canLay0], by simp [D.py, PyData.depth]⟩
  | n, .bl b, v, h, _ => by simp only [Rep] at h; subst h; exact ⟨.bl b, by simp [D.py, PyData.canLay0], by simp [D.py, PyData.depth]⟩
  | n, .int b, v, h, _ => by simp only [Rep] at h; subst h; exact ⟨.int b, by simp [D.py, PyData.canLay0], by simp [D.py, PyData.depth]⟩
  | n, .str b, v, h, _ => by simp only [Rep] at h; obtain ⟨rfl, h⟩ := h; exact ⟨.str b, by simp [D.py, PyData.canLay0, h], by simp [D.py, PyData.depth]⟩
  | 0, .tup ds, v, h, o => by simp [D.ok] at o
  | 0, .lst ds, v, h, o => by simp [D.ok] at o
  | n + 1, .tup ds, v, h, o => by
    simp only [Rep] at h
    obtain ⟨a, vs, rfl, h1, h2⟩ := h
    obtain ⟨q1, q2, q3⟩ := dp_ofL n ds vs h2 (by simpa [D.ok] using o)
    exact ⟨.tup h1.sq q1, by simpa [D.py, PyData.canLay0] using q2, by simp only [D.py, PyData.depth]; omega⟩
  | n + 1, .lst ds, v, h, o => by
    simp only [Rep] at h
    obtain ⟨a, vs, rfl, h1, h2⟩ := h
    obtain ⟨q1, q2, q3⟩ := dp_ofL n ds vs h2 (by simpa [D.ok] using o)
    exact ⟨.lst (.inl (.inl h1.1)) q1, by simpa [D.py, PyData.canLay0] using q2, by simp only [D.py, PyData.depth]; omega⟩
  | n, .loc _, v, h, o => by simp [D.ok] at o
  | n, .frz _, v, h, o => by simp [D.ok] at o
theorem dp_ofL : ∀ (n : Nat) (ds : List D) (vs : List V), Reps K ρ Z H ds vs → D.okL n ds = true → DpAll K H vs (D.pyL ds) ∧ PyData.canLayAll0 (D.pyL ds) = true ∧ PyData.depthAll (D.pyL ds) ≤ n
  | n, [], vs, h, _ => by simp only [Reps] at h; subst h; exact ⟨.nil, by simp [D.pyL, PyData.canLayAll0], by simp [D.pyL, PyData.depthAll]⟩
  | n, d :: ds, vs, h, o => by
    simp only [Reps] at h
    obtain ⟨v, r, rfl, h1, h2⟩ := h
    simp only [D.okL, Bool.and_eq_true] at o
    obtain ⟨a1, a2, a3⟩ := dp_of n d v h1 o.1
    obtain ⟨b1, b2, b3⟩ := dp_ofL n ds r h2 o.2
    exact ⟨.cons a1 b1, by simp [D.pyL, PyData.canLayAll0, a2, b2], by simp only [D.pyL, PyData.depthAll]; omega⟩
end
mutual
theorem eqv_py : ∀ (n m : Nat) (a b : D), a.ok n = true → b.ok m = true → PyData.eqv a.py b.py = D.eq a b
  | n, m, .non, b, h, k => by cases b <;> simp_all [D.py, PyData.eqv, D.eq, D.ok]
  | n, m, .bl _, b, h, k => by cases b <;> simp_all [D.py, PyData.eqv, D.eq, D.ok]
  | n, m, .int _, b, h, k => by cases b <;> simp_all [D.py, PyData.eqv, D.eq, D.ok]
  | n, m, .str _, b, h, k => by cases b <;> simp_all [D.py, PyData.eqv, D.eq, D.ok]
  | n, m, .loc _, b, h, k => by simp [D.ok] at h
  | n, m, .frz _, b, h, k => by simp [D.ok] at h
  | n, m, .tup x, b, h, k => by
    cases b with
    | tup y =>
      simp only [D.py, PyData.eqv, D.eq]
      cases n with
      | zero => simp [D.ok] at h
      | succ n =>
        cases m with
        | zero => simp [D.ok] at k
        | succ m => exact eqv_pyL n m x y (by simpa [D.ok] using h) (by simpa [D.ok] using k)
    | _ => simp_all [D.py, PyData.eqv, D.eq, D.ok]
  | n, m, .lst x, b, h, k => by
    cases b with
    | lst y =>
      simp only [D.py, PyData.eqv, D.eq]
      cases n with
      | zero => simp [D.ok] at h
      | succ n =>
        cases m with
        | zero => simp [D.ok] at k
        | succ m => exact eqv_pyL n m x y (by simpa [D.ok] using h) (by simpa [D.ok] using k)
    | _ => simp_all [D.py, PyData.eqv, D.eq, D.ok]
theorem eqv_pyL : ∀ (n m : Nat) (a b : List D), D.okL n a = true → D.okL m b = true → PyData.eqvAll (D.pyL a) (D.pyL b) = D.eqL a b
  | n, m, [], b, h, k => by cases b <;> simp [D.pyL, PyData.eqvAll, D.eqL]
  | n, m, x :: xs, b, h, k => by
    cases b with
    | nil => simp [D.pyL, PyData.eqvAll, D.eqL]
    | cons y ys =>
      simp only [D.okL, Bool.and_eq_true] at h k
      simp only [D.pyL, PyData.eqvAll, D.eqL, eqv_py n m x y h.1 k.1, eqv_pyL n m xs ys h.2 k.2]
end
theorem shaped_of {d : PyData} {n : Nat} (h : d.canLay0 = true) (h2 : d.depth ≤ n) (h3 : n ≤ 64) : SeqAt.shaped d = true := by
  unfold SeqAt.shaped
  rw [h, Bool.true_and]
  exact decide_eq_true (by omega)
/-- a value that may be a place, as data -/
theorem dp_top (r : RelS K T ρ Z st H) {d : D} {v : V} {n : Nat} (h : Rep K ρ Z H d v) (o : (pure1 st d).ok n = true) : Dp K H v (pure1 st d).py ∧ (pure1 st d).py.canLay0 = true ∧ (pure1 st d).py.depth ≤ n := by
  cases d with
  | loc m =>
    simp only [Rep] at h
    obtain ⟨a, rfl, h1⟩ := h
    obtain ⟨so, h2, h3⟩ := r.at h1
    simp only [pure1, h2] at o ⊢
    cases so with
    | lst ds =>
      obtain ⟨vs, h4, h5⟩ := h3
      cases n with
      | zero => simp [D.ok] at o
      | succ n =>
        obtain ⟨q1, q2, q3⟩ := dp_ofL n ds vs h5 (by simpa [D.ok] using o)
        exact ⟨.lst (.inl (.inl h4)) q1, by simpa [D.py, PyData.canLay0] using q2, by simp only [D.py, PyData.depth]; omega⟩
    | dct _ => simp [D.ok] at o
    | lck _ => simp [D.ok] at o
  | _ => exact dp_of n _ v h o
theorem deq_ok (r : RelS K T ρ Z st H) {x y : D} {v u : V} {b : Bool} (hx : Rep K ρ Z H x v) (hy : Rep K ρ Z H y u) (h : deq st x y = some b) :
    ∃ d e, Dp K H v d ∧ Dp K H u e ∧ SeqAt.shaped d = true ∧ SeqAt.shaped e = true ∧ PyData.eqv d e = b := by
  unfold deq at h
  split at h
  · rename_i o
    simp only [Bool.and_eq_true] at o
    obtain ⟨a1, a2, a3⟩ := dp_top r hx o.1
    obtain ⟨b1, b2, b3⟩ := dp_top r hy o.2
    refine ⟨_, _, a1, b1, shaped_of a2 a3 (by decide), shaped_of b2 b3 (by decide), ?_⟩
    rw [eqv_py 20 20 _ _ o.1 o.2]
    exact Option.some.inj h
  · cases h

/-! ### binary operators -/
theorem op_fdivB {X : Cx} : OpR X (binaryOp .FloorDiv) (rI (fun _ j => j ≠ 0 ∧ j.natAbs.log2 < 9000) fun i j => .int (i.fdiv j)) := opI fun i j _ _ _ _ _ hc q =>
  floordiv_int hc.1 q (.inl (PyProof.noPylong_of_log2 hc.2))
theorem log2_9000 {n : Nat} (h : n < 2 ^ 1000) : n.log2 < 9000 := Nat.lt_of_lt_of_le (PySem.Flt.log2_lt_of (by decide) h) (by decide)
/-- what the rule of an operator asks, all kinds -/
def rBin (K : PySem.W.Frag) : Operator → R2
  | .Add => fun x y H Q => rI0 (fun i j => .int (i + j)) x y H Q ∨ ((∃ i j, x = .str i ∧ y = .str j ∧ i.length + j.length ≤ sizeLine ∧ Q (.str (i ++ j)) H) ∨ rCatA K x y H Q)
  | .Sub => rI0 fun i j => .int (i - j)
  | .Mult => fun x y H Q => rI CMulW (fun i j => .int (i * j)) x y H Q ∨ rRepT K x y H Q
  | .FloorDiv => rI (fun _ j => j ≠ 0 ∧ j.natAbs.log2 < 9000) fun i j => .int (i.fdiv j)
  | .Mod => rI (fun _ j => j ≠ 0) fun i j => .int (i.fmod j)
  | .Pow => rI CPow fun i j => .int (i ^ j.toNat)
  | _ => fun _ _ _ _ => False
theorem op_bin {X : Cx} (op : Operator) : OpR X (binaryOp op) (rBin X.K op) := by
  cases op
  case Add => exact OpR.or op_add (OpR.or op_add_str op_catA)
  case Sub => exact op_sub
  case Mult => exact OpR.or op_mulW op_repT
  case FloorDiv => exact op_fdivB
  case Mod => exact op_modN
  case Pow => exact op_pow
  all_goals (intro pins s σ H x y v u Q I rx ry h; exact h.elim)
theorem strOk_app {x y : Str} (h : PySem.PyData.strOk x = true) (k : PySem.PyData.strOk y = true) : PySem.PyData.strOk (x ++ y) = true := by
  unfold PySem.PyData.strOk at *
  show (x.cps ++ y.cps).all _ = true
  rw [Array.all_append, h, k]; rfl
theorem bin_ok (r : RelS K T ρ Z st H) {op : Operator} {x y d : D} {v u : V} {Q : VK} (hx : Rep K ρ Z H x v) (hy : Rep K ρ Z H y u) (h : binD op x y st = some (d, st'))
    (k : ∀ H' w, Fr ρ Z H ρ Z H' → RelS K T ρ Z st' H' → Rep K ρ Z H' d w → Q w H') : rBin K op v u H Q := by
  have inn : ∀ (i j : Int), x = .int i → y = .int j → rBin K op v u H Q := by
    intro i j e1 e2
    subst e1 e2
    simp only [Rep] at hx hy
    subst hx hy
    have h' : (binI op i j).map (fun k => (D.int k, st)) = some (d, st') := by simpa [binD] using h
    cases hb : binI op i j with
    | none => rw [hb] at h'; cases h'
    | some z =>
      rw [hb] at h'
      simp only [Option.map_some, Option.some.injEq, Prod.mk.injEq] at h'
      obtain ⟨rfl, rfl⟩ := h'
      have q := k H (.int z) .refl r (by simp [Rep])
      cases op <;> simp only [binI] at hb
      case Add => cases hb; exact .inl ⟨i, j, rfl, rfl, q⟩
      case Sub => cases hb; exact ⟨i, j, rfl, rfl, q⟩
      case Mult =>
        split at hb
        · rename_i c
          cases hb
          exact .inl ⟨i, j, rfl, rfl, wide_mul c.1 c.2 (by decide) (by decide) (by decide), q⟩
        · cases hb
      case FloorDiv =>
        split at hb
        · rename_i c
          cases hb
          exact ⟨i, j, rfl, rfl, ⟨c.1, log2_9000 c.2⟩, q⟩
        · cases hb
      case Mod =>
        split at hb
        · rename_i c
          cases hb
          exact ⟨i, j, rfl, rfl, c, q⟩
        · cases hb
      case Pow =>
        split at hb
        · rename_i c
          cases hb
          exact ⟨i, j, rfl, rfl, c, q⟩
        · cases hb
      all_goals cases hb
  unfold binD at h
  split at h
  · exact inn _ _ rfl rfl
  · rename_i a b
    simp only [Rep] at hx hy
    obtain ⟨rfl, hx⟩ := hx
    obtain ⟨rfl, hy⟩ := hy
    split at h
    · rename_i c
      cases h
      exact .inr (.inl ⟨a, b, rfl, rfl, Nat.le_trans c (by decide), k H _ .refl r (by simp only [Rep]; exact ⟨trivial, strOk_app hx hy⟩)⟩)
    · cases h
  · rename_i xs ys
    have hx0 := hx
    have hy0 := hy
    obtain ⟨a, vs, rfl, h1, h2⟩ := rep_tup hx
    obtain ⟨b, us, rfl, h3, h4⟩ := rep_tup hy
    unfold mkT at h
    split at h
    · rename_i c
      cases h
      refine .inr (.inr ⟨a, b, vs, us, rfl, rfl, h1, h3, ?_, fun e => ?_, fun e e2 => ?_, fun e e2 p hp => ?_⟩)
      · rw [← h2.len, ← h4.len, ← List.length_append]; exact c
      · have : xs = [] := by have q := h2.len; rw [e] at q; exact List.eq_nil_of_length_eq_zero q
        subst this
        exact k H _ .refl r hy0
      · have : ys = [] := by have q := h4.len; rw [e2] at q; exact List.eq_nil_of_length_eq_zero q
        subst this
        exact k H _ .refl r (by rw [List.append_nil]; exact hx0)
      · exact k _ _ (fr_new hp) (r.new hp) (rep_newT r hp (h2.append h4))
    · cases h
  · rename_i xs n
    obtain ⟨a, vs, rfl, h1, h2⟩ := rep_tup hx
    simp only [Rep] at hy
    subst hy
    split at h
    · rename_i c
      unfold mkT at h
      split at h
      · cases h
        refine .inr ⟨a, n, vs, rfl, rfl, h1, fun e => ?_, c.2.1, c.2.2.1, by rw [← h2.len]; exact c.2.2.2, fun p hp => ?_⟩
        · have q := h2.len
          rw [e] at q
          exact c.1 (List.eq_nil_of_length_eq_zero q)
        · refine k _ _ (fr_new hp) (r.new hp) (rep_newT r hp ?_)
          have rep : ∀ m, Reps K ρ Z H (List.replicate m xs).flatten (List.replicate m vs).flatten := by
            intro m
            induction m with
            | zero => exact .nil
            | succ m ih => rw [List.replicate_succ, List.replicate_succ, List.flatten_cons, List.flatten_cons]; exact h2.append ih
          exact rep _
      · cases h
    · cases h
  · cases h

/-! ### comparisons -/
def rCmp (K : PySem.W.Frag) : CmpOp → R2
  | .Eq => rEqD K
  | .NotEq => rNeD K
  | .Lt => rI0 fun i j => .bl (decide (i < j))
  | .LtE => fun x y H Q => rI0 (fun i j => .bl (decide (i ≤ j))) x y H Q ∨ ∃ i j, x = .str i ∧ y = .str j ∧ Q (.bl (!decide (j.cps.toList < i.cps.toList))) H
  | .Gt => rI0 fun i j => .bl (decide (j < i))
  | .GtE => rI0 fun i j => .bl (decide (j ≤ i))
  | _ => fun _ _ _ _ => False
theorem op_cmp {X : Cx} (hu : X.A.units + 64 < cLine) (op : CmpOp) : OpR X (compareOp op) (rCmp X.K op) := by
  cases op
  case Eq => exact op_eqD hu
  case NotEq => exact op_neD hu
  case Lt => exact op_lt
  case LtE => exact OpR.or op_le op_le_str
  case Gt => exact op_gt
  case GtE => exact op_ge
  all_goals (intro pins s σ H x y v u Q I rx ry h; exact h.elim)
theorem cmp_ok (r : RelS K T ρ Z st H) {op : CmpOp} {x y : D} {v u : V} {b : Bool} {Q : VK} (hx : Rep K ρ Z H x v) (hy : Rep K ρ Z H y u) (h : cmpD st op x y = some b) (q : Q (.bl b) H) : rCmp K op v u H Q := by
  unfold cmpD at h
  split at h
  · obtain ⟨d, e, a1, a2, a3, a4, a5⟩ := deq_ok r hx hy h
    exact ⟨d, e, a1, a2, a3, a4, by rw [a5]; exact q⟩
  · cases hd : deq st x y with
    | none => rw [hd] at h; cases h
    | some c =>
      rw [hd] at h
      cases h
      obtain ⟨d, e, a1, a2, a3, a4, a5⟩ := deq_ok r hx hy hd
      exact ⟨d, e, a1, a2, a3, a4, by rw [a5]; exact q⟩
  · simp only [Rep] at hx hy
    subst hx hy
    cases op <;> simp only [cmpI] at h <;> cases h
    · exact ⟨_, _, rfl, rfl, q⟩
    · exact .inl ⟨_, _, rfl, rfl, q⟩
    · exact ⟨_, _, rfl, rfl, q⟩
    · exact ⟨_, _, rfl, rfl, q⟩
  · simp only [Rep] at hx hy
    obtain ⟨rfl, _⟩ := hx
    obtain ⟨rfl, _⟩ := hy
    cases h
    exact .inr ⟨_, _, rfl, rfl, q⟩
  · cases h

/-! ### in -/
def rMem (K : PySem.W.Frag) (neg : Bool) : R2 := fun x y H Q =>
  (∃ (c : Nat) (z : Str), x = .str ⟨#[c]⟩ ∧ y = .str z ∧ Q (.bl (if neg then !decide (c ∈ z.cps.toList) else decide (c ∈ z.cps.toList))) H) ∨ (rIn K neg x y H Q ∨
    ∃ d ds, Dp K H x d ∧ Dp K H y (.list ds) ∧ SeqAt.shaped d = true ∧ SeqAt.shaped (.list ds) = true ∧ Q (.bl (if neg then !(ds.any fun z => PyData.eqv z d) else ds.any fun z => PyData.eqv z d)) H)
theorem op_mem {X : Cx} (hu : X.A.units + 65 < cLine) : OpR X (compareOp .In) (rMem X.K false) := OpR.or op_in_sign (OpR.or op_in_seq (op_inD hu))
theorem op_notMem {X : Cx} (hu : X.A.units + 65 < cLine) : OpR X (compareOp .NotIn) (rMem X.K true) := OpR.or op_notIn_sign (OpR.or op_notIn_seq (op_notInD hu))
theorem flat_rep {d : D} {v : V} (h : Rep K ρ Z H d v) (f : flatD d = true) : flatV v = true := by
  cases d <;> simp only [flatD, Bool.false_eq_true] at f <;> simp only [Rep] at h
  · subst h; rfl
  · subst h; rfl
  · subst h; rfl
  · obtain ⟨rfl, _⟩ := h; rfl
theorem flat_eq {d e : D} {v u : V} (h : Rep K ρ Z H d v) (h2 : Rep K ρ Z H e u) (f : flatD d = true) (f2 : flatD e = true) : eqV v u = D.eq d e := by
  cases d <;> simp only [flatD, Bool.false_eq_true] at f <;> cases e <;> simp only [flatD, Bool.false_eq_true] at f2 <;> simp only [Rep] at h h2 <;> (try obtain ⟨rfl, _⟩ := h) <;> (try obtain ⟨rfl, _⟩ := h2) <;> (try subst h) <;> (try subst h2) <;> simp [eqV, D.eq]
theorem flat_all : ∀ {ds : List D} {vs : List V}, Reps K ρ Z H ds vs → ds.all flatD = true → vs.all flatV = true
  | [], vs, h, _ => by simp only [Reps] at h; subst h; rfl
  | d :: ds, vs, h, f => by
    simp only [Reps] at h
    obtain ⟨v, r, rfl, h1, h2⟩ := h
    simp only [List.all_cons, Bool.and_eq_true] at f ⊢
    exact ⟨flat_rep h1 f.1, flat_all h2 f.2⟩
theorem flat_in {x : D} {v : V} (hx : Rep K ρ Z H x v) (fx : flatD x = true) : ∀ {ds : List D} {vs : List V}, Reps K ρ Z H ds vs → ds.all flatD = true → inV v vs = ds.any fun y => D.eq y x
  | [], vs, h, _ => by simp only [Reps] at h; subst h; rfl
  | d :: ds, vs, h, f => by
    simp only [Reps] at h
    obtain ⟨u, r, rfl, h1, h2⟩ := h
    simp only [List.all_cons, Bool.and_eq_true] at f
    have ih := flat_in hx fx h2 f.2
    unfold inV at ih ⊢
    simp only [List.any_cons, ih, flat_eq h1 hx f.1 fx]
theorem any_py {x : D} (hx : x.ok 20 = true) : ∀ {ds : List D} {n : Nat}, D.okL n ds = true → ((D.pyL ds).any fun z => PyData.eqv z x.py) = ds.any fun y => D.eq y x
  | [], _, _ => rfl
  | d :: ds, n, h => by
    simp only [D.okL, Bool.and_eq_true] at h
    simp only [D.pyL, List.any_cons, any_py hx h.2, eqv_py n 20 d x h.1 hx]
theorem isSign_eq {x : Str} {c : Nat} (h : isSign x = some c) : x = ⟨#[c]⟩ := by
  unfold isSign at h
  split at h
  · rename_i c' e
    cases h
    cases x with
    | mk a =>
      congr 1
      have : a = a.toList.toArray := by simp
      rw [this]
      show (a.toList).toArray = _
      rw [show a.toList = [c] from e]
  · cases h
theorem mem_ok (r : RelS K T ρ Z st H) {neg : Bool} {x y : D} {v u : V} {b : Bool} {Q : VK} (hx : Rep K ρ Z H x v) (hy : Rep K ρ Z H y u) (h : memD st x y = some b) (q : Q (.bl (if neg then !b else b)) H) : rMem K neg v u H Q := by
  have deep : ∀ ds, lstOf st y = some ds → x.ok 20 = true → D.okL 20 ds = true → (ds.any fun y => y.eq x) = b → rMem K neg v u H Q := by
    intro ds hl o1 o2 e
    obtain ⟨a, vs, rfl, h1, h2⟩ := rep_lst r hy hl
    obtain ⟨a1, a2, a3⟩ := dp_of 20 x v hx o1
    obtain ⟨b1, b2, b3⟩ := dp_ofL 20 ds vs h2 o2
    refine .inr (.inr ⟨_, D.pyL ds, a1, .lst (.inl (.inl h1)) b1, shaped_of a2 a3 (by decide), shaped_of (n := 21) (by simpa [PyData.canLay0] using b2) (by simp only [PyData.depth]; omega) (by decide), ?_⟩)
    rw [any_py o1 o2, e]
    exact q
  unfold memD at h
  split at h
  · rename_i z
    split at h
    · rename_i x'
      split at h
      · rename_i c hc
        cases h
        simp only [Rep] at hx hy
        obtain ⟨rfl, _⟩ := hx
        obtain ⟨rfl, _⟩ := hy
        exact .inl ⟨c, z, by rw [isSign_eq hc], rfl, q⟩
      · cases h
    · cases h
  · rename_i ds
    split at h
    · rename_i o
      cases h
      simp only [Bool.and_eq_true] at o
      obtain ⟨a, vs, rfl, h1, h2⟩ := rep_tup hy
      refine .inr (.inl ⟨a, vs, rfl, .inr h1, flat_rep hx o.1, flat_all h2 o.2, ?_⟩)
      rw [flat_in hx o.1 h2 o.2]
      exact q
    · cases h
  · split at h
    · rename_i ds hl
      split at h
      · rename_i o
        cases h
        simp only [Bool.and_eq_true] at o
        exact deep ds hl o.1 o.2 rfl
      · cases h
    · cases h

/-! ### subscripts -/
theorem atI_rep {ds : List D} {vs : List V} {i : Int} {d : D} (h : Reps K ρ Z H ds vs) (e : atI ds i = some d) : ∃ v, atI vs i = some v ∧ Rep K ρ Z H d v := by
  unfold atI at e ⊢
  rw [← h.len]
  cases hj : ixN ds.length i with
  | none => rw [hj] at e; cases e
  | some j =>
    rw [hj] at e
    exact h.get e
theorem strOk_sign {z : Str} {c : Nat} (h : PySem.PyData.strOk z = true) (hc : c ∈ z.cps.toList) : PySem.PyData.strOk ⟨#[c]⟩ = true := by
  unfold PySem.PyData.strOk at h ⊢
  rw [Array.all_eq_true_iff_forall_mem] at h
  simp
  have := h c (by simpa using hc)
  simpa using this
theorem atI_mem {α : Type} {xs : List α} {i : Int} {c : α} (e : atI xs i = some c) : c ∈ xs := by
  obtain ⟨j, _, h, _⟩ := atI_get e
  exact List.mem_of_getElem? h
theorem sub_ok (r : RelS K T ρ Z st H) {x y d : D} {v u : V} {Q : VK} (hx : Rep K ρ Z H x v) (hy : Rep K ρ Z H y u) (h : subD st x y = some d) (k : ∀ w, Rep K ρ Z H d w → Q w H) : rIx K v u H Q := by
  unfold subD at h
  split at h
  · rename_i i
    simp only [Rep] at hy
    subst hy
    split at h
    · rename_i z
      simp only [Rep] at hx
      obtain ⟨rfl, hz⟩ := hx
      split at h
      · rename_i hl
        obtain ⟨c, h1, rfl⟩ := Option.map_eq_some_iff.mp h
        exact .inr (.inr ⟨z, i, c, rfl, rfl, hl, h1, k _ (by simp only [Rep]; exact ⟨trivial, strOk_sign hz (atI_mem h1)⟩)⟩)
      · cases h
    · split at h
      · rename_i ds hs
        obtain ⟨a, vs, rfl, h1, h2⟩ := rep_seq r hx hs
        obtain ⟨w, h3, h4⟩ := atI_rep h2 h
        rcases h1 with h1 | h1
        · exact .inl ⟨a, vs, i, w, rfl, rfl, h1, h3, k w h4⟩
        · exact .inr (.inl ⟨a, vs, i, w, rfl, rfl, h1, h3, k w h4⟩)
      · cases h
  · cases h

/-! ### slices -/
def rSlice (K : PySem.W.Frag) : V → Option Int → Option Int → Hp → VK → Prop := fun x lo hi H Q => rSlS x lo hi H Q ∨ (rSlA K x lo hi H Q ∨ rSlL K x lo hi H Q)
theorem sl_any {X : Cx} : L2.SlR X (rSlice X.K) := SlR.or sl_str (SlR.or sl_tupA sl_list)
theorem cut_reps {ds : List D} {vs : List V} (lo hi : Option Int) (h : Reps K ρ Z H ds vs) : Reps K ρ Z H (cutD ds lo hi) (cutV vs lo hi) := by
  unfold cutD cutV
  rw [← h.len]
  exact (h.drop _).take _
theorem cutS_eq (z : Str) (lo hi : Option Int) : cutS z lo hi = ⟨(cutD z.cps.toList lo hi).toArray⟩ := by
  unfold cutS cutD Str.length
  simp
theorem cut_sub {α : Type} (xs : List α) (lo hi : Option Int) {c : α} (h : c ∈ cutD xs lo hi) : c ∈ xs := List.mem_of_mem_drop (List.mem_of_mem_take h)
theorem cut_all {α : Type} (xs : List α) (lo hi : Option Int) (h : HT.sIx xs.length 0 lo = 0 ∧ HT.sIx xs.length xs.length hi = xs.length) : cutD xs lo hi = xs := by
  unfold cutD
  rw [h.1, h.2, List.drop_zero, Nat.sub_zero, List.take_length]
theorem slice_ok (r : RelS K T ρ Z st H) {x d : D} {v : V} {lo hi : Option Int} {Q : VK} (hx : Rep K ρ Z H x v) (h : sliceD x lo hi st = some (d, st'))
    (k : ∀ H' w, Fr ρ Z H ρ Z H' → RelS K T ρ Z st' H' → Rep K ρ Z H' d w → Q w H') : rSlice K v lo hi H Q := by
  unfold sliceD at h
  split at h
  · rename_i z
    simp only [Rep] at hx
    obtain ⟨rfl, hz⟩ := hx
    split at h
    · rename_i hl
      cases h
      refine .inl ⟨z, rfl, hl, ?_⟩
      rw [cutS_eq]
      refine k H _ .refl r ?_
      simp only [Rep]
      refine ⟨trivial, ?_⟩
      unfold PySem.PyData.strOk at hz ⊢
      rw [Array.all_eq_true_iff_forall_mem] at hz ⊢
      intro c hc
      exact hz c (by have : c ∈ cutD z.cps.toList lo hi := by simpa using hc
                     simpa using cut_sub _ _ _ this)
    · cases h
  · rename_i ds
    cases h
    have hx0 := hx
    obtain ⟨a, vs, rfl, h1, h2⟩ := rep_tup hx
    refine .inr (.inl ⟨a, vs, rfl, h1, fun e => ?_, fun _ p hp => ?_⟩)
    · rw [← h2.len] at e
      rw [cut_all ds lo hi e] at k
      exact k H _ .refl r hx0
    · exact k _ _ (fr_new hp) (r.new hp) (rep_newT r hp (cut_reps lo hi h2))
  · split at h
    · rename_i ds hl
      cases h
      obtain ⟨a, vs, rfl, h1, h2⟩ := rep_lst r hx hl
      refine .inr (.inr ⟨a, vs, rfl, .inl (.inl h1), fun p hp => ?_⟩)
      refine k _ _ (fr_new hp) (r.new hp) ?_
      simp only [Rep]
      exact ⟨p, _, rfl, ⟨upd_same, r.free hp⟩, Reps.mono r.sub (fr_new hp) _ _ (cut_reps lo hi h2)⟩
    · cases h

/-! ### new lists, dicts -/
theorem mkL_ok (r : RelS K T ρ Z st H) {m : Bool} {ds : List D} {vs : List V} {d : D} {p : Addr} {Q : VK} (hp : H p = none) (h : Reps K ρ Z H ds vs) (e : mkL m ds st = some (d, st'))
    (k : ∀ ρ' Z' H' w, Fr ρ Z H ρ' Z' H' → RelS K T ρ' Z' st' H' → Rep K ρ' Z' H' d w → Q w H') : Q (.ref p) (upd H p (.lst vs)) := by
  unfold mkL at e
  split at e
  · cases m with
    | false =>
      cases e
      refine k ρ Z _ _ (fr_new hp) (r.new hp) ?_
      simp only [Rep]
      exact ⟨p, vs, rfl, ⟨upd_same, r.free hp⟩, Reps.mono r.sub (fr_new hp) _ _ h⟩
    | true =>
      cases e
      refine k (ρ ++ [p]) _ _ _ (fr_place hp) (r.place hp ⟨vs, upd_same, Reps.mono r.sub (fr_place hp) _ _ h⟩) ?_
      simp only [Rep]
      exact ⟨p, rfl, by rw [List.getElem?_append_right (by rw [r.len]; exact Nat.le_refl _), r.len]; simp⟩
  · cases e
theorem mkL_le {m : Bool} {ds : List D} {d : D} (e : mkL m ds st = some (d, st')) : ds.length ≤ sizeLine := by
  unfold mkL at e
  split at e
  · assumption
  · cases e
theorem mkD_ok (r : RelS K T ρ Z st H) {kvs : List (Key × D)} {ws : List (Key × V)} {d : D} {p : Addr} {Q : VK} (hp : H p = none) (h : KReps K ρ Z H kvs ws) (e : mkD kvs st = some (d, st'))
    (k : ∀ ρ' Z' H' w, Fr ρ Z H ρ' Z' H' → RelS K T ρ' Z' st' H' → Rep K ρ' Z' H' d w → Q w H') : Q (.ref p) (upd H p (.dK ws)) := by
  unfold mkD at e
  cases e
  refine k (ρ ++ [p]) _ _ _ (fr_place hp) (r.place hp ⟨ws, upd_same, h.mono r.sub (fr_place hp)⟩) ?_
  simp only [Rep]
  exact ⟨p, rfl, by rw [List.getElem?_append_right (by rw [r.len]; exact Nat.le_refl _), r.len]; simp⟩

/-! ### dicts -/
theorem valV_rep : ∀ {kvs : List (Key × D)} {ws : List (Key × V)} {k : Key}, KReps K ρ Z H kvs ws → (∀ d, dget kvs k = some d → ∃ v, valV ws k = some v ∧ Rep K ρ Z H d v) ∧ (dget kvs k = none → valV ws k = none)
  | [], ws, k, h => by
    have e : ws = [] := by have q := congrArg List.length h.1; simp at q; exact List.eq_nil_of_length_eq_zero q.symm
    subst e
    exact ⟨fun d q => by simp [dget] at q, fun _ => rfl⟩
  | (j, x) :: kvs, ws, k, h => by
    cases ws with
    | nil => have q := congrArg List.length h.1; simp at q
    | cons w ws =>
      obtain ⟨h1, h2, hz⟩ := h
      simp only [List.map_cons, List.cons.injEq] at h1
      simp only [List.map_cons, Reps] at h2
      obtain ⟨v, rr, e, h3, h4⟩ := h2
      cases e
      have ih := valV_rep (k := k) (kvs := kvs) (ws := ws) ⟨h1.2, h4, fun z m => hz z (List.mem_cons_of_mem _ m)⟩
      by_cases hk : j = k
      · have hw : w.1 = k := h1.1.symm.trans hk
        have e1 : dget ((j, x) :: kvs) k = some x := by simp [dget, hk]
        rw [e1, valV_pos hw]
        exact ⟨fun d q => ⟨_, rfl, by cases q; exact h3⟩, fun q => by cases q⟩
      · have hw : ¬ w.1 = k := fun e => hk (h1.1.trans e)
        have e1 : dget ((j, x) :: kvs) k = dget kvs k := by simp [dget, hk]
        rw [e1, valV_neg hw]
        exact ih
theorem rep_key {d : D} {k : Key} {v : V} (h : Rep K ρ Z H d v) (e : keyOf d = some k) : v = kV k := by
  cases d <;> simp only [keyOf] at e <;> cases e <;> simp only [Rep] at h
  · subst h; rfl
  · obtain ⟨rfl, _⟩ := h; rfl
theorem rep_dct (r : RelS K T ρ Z st H) {d : D} {v : V} {kvs : List (Key × D)} (h : Rep K ρ Z H d v) (e : dctOf st d = some kvs) : ∃ a ws, v = .ref a ∧ Rd H a (.dK ws) ∧ KReps K ρ Z H kvs ws := by
  cases d <;> simp only [dctOf] at e
  case loc n =>
    simp only [Rep] at h
    obtain ⟨a, rfl, h1⟩ := h
    obtain ⟨so, h2, h3⟩ := r.at h1
    rw [h2] at e
    cases so with
    | lst _ => cases e
    | dct es => cases e; obtain ⟨ws, h4, h5⟩ := h3; exact ⟨a, ws, rfl, .inl h4, h5⟩
    | lck es => cases e; obtain ⟨o, ws, h4, h5⟩ := h3; exact ⟨a, ws, rfl, .inr ⟨o, h4⟩, h5⟩
  all_goals cases e
theorem dget_ok {kvs : List (Key × D)} {ws : List (Key × V)} {a : Addr} {k : Key} {d : D} {v : V} {H : Hp} (h : Rd H a (.dK ws)) (q : KReps K ρ Z H kvs ws) (hv : v = kV k) :
    ∃ o, DGet H a v o ∧ o.isSome = (dget kvs k).isSome ∧ ∀ d, dget kvs k = some d → ∃ w, o = some w ∧ Rep K ρ Z H d w := by
  refine ⟨valV ws k, .inl ⟨ws, k, h, hv, rfl⟩, ?_, fun d e => ?_⟩
  · obtain ⟨h1, h2⟩ := valV_rep (k := k) q
    cases e : dget kvs k with
    | none => rw [h2 e]; rfl
    | some d => obtain ⟨w, h3, _⟩ := h1 d e; rw [h3]; rfl
  · obtain ⟨w, h3, h4⟩ := (valV_rep (k := k) q).1 d e
    exact ⟨w, h3, h4⟩
theorem any_keys : ∀ {kvs : List (Key × D)} {ws : List (Key × V)} (k : Key), kvs.map (·.1) = ws.map (·.1) → (kvs.any fun kv => decide (kv.1 = k)) = ws.any fun kv => decide (kv.1 = k)
  | [], [], _, _ => rfl
  | [], _ :: _, _, h => by simp at h
  | _ :: _, [], _, h => by simp at h
  | p :: kvs, q :: ws, k, h => by
    simp only [List.map_cons, List.cons.injEq] at h
    simp only [List.any_cons, h.1, any_keys k h.2]
theorem KReps.nil : KReps K ρ Z H [] [] := ⟨rfl, .nil, fun _ m => absurd m (by simp)⟩
theorem KReps.cons {p : Key × D} {w : Key × V} {kvs : List (Key × D)} {ws : List (Key × V)} (hk : p.1 = w.1) (hr : Rep K ρ Z H p.2 w.2) (hz : ∀ z, p.1 = .inr z → PySem.PyData.strOk z = true) (t : KReps K ρ Z H kvs ws) : KReps K ρ Z H (p :: kvs) (w :: ws) :=
  ⟨by simp only [List.map_cons, hk, t.1], by simp only [List.map_cons]; exact .cons hr t.2.1, fun z m => by
    rw [List.map_cons] at m
    rcases List.mem_cons.mp m with e | m
    · exact hz z e.symm
    · exact t.2.2 z m⟩
theorem KReps.uncons {p : Key × D} {kvs : List (Key × D)} {ws : List (Key × V)} (h : KReps K ρ Z H (p :: kvs) ws) : ∃ w r, ws = w :: r ∧ p.1 = w.1 ∧ Rep K ρ Z H p.2 w.2 ∧ (∀ z, p.1 = .inr z → PySem.PyData.strOk z = true) ∧ KReps K ρ Z H kvs r := by
  cases ws with
  | nil => have q := congrArg List.length h.1; simp at q
  | cons w ws =>
    obtain ⟨h1, h2, hz⟩ := h
    simp only [List.map_cons, List.cons.injEq] at h1
    simp only [List.map_cons, Reps] at h2
    obtain ⟨u, rr, e, h3, h4⟩ := h2
    cases e
    exact ⟨w, ws, rfl, h1.1, h3, fun z e => hz z (by rw [List.map_cons, e]; exact List.mem_cons_self), h1.2, h4, fun z m => hz z (List.mem_cons_of_mem _ m)⟩
theorem KReps.unnil {ws : List (Key × V)} (h : KReps K ρ Z H [] ws) : ws = [] := by
  have q := congrArg List.length h.1
  simp at q
  exact List.eq_nil_of_length_eq_zero q.symm
theorem KReps.snoc : ∀ {kvs : List (Key × D)} {ws : List (Key × V)} {k : Key} {d : D} {v : V}, KReps K ρ Z H kvs ws → Rep K ρ Z H d v → (∀ z, k = .inr z → PySem.PyData.strOk z = true) → KReps K ρ Z H (kvs ++ [(k, d)]) (ws ++ [(k, v)])
  | [], ws, k, d, v, h, hd, hz => by
    rw [h.unnil]
    exact .cons rfl hd hz .nil
  | p :: kvs, ws, k, d, v, h, hd, hz => by
    obtain ⟨w, r, rfl, a1, a2, a3, a4⟩ := h.uncons
    exact .cons a1 a2 a3 (KReps.snoc a4 hd hz)
theorem put_rep {kvs : List (Key × D)} {ws : List (Key × V)} {k : Key} {d : D} {v : V} (q : KReps K ρ Z H kvs ws) (h : Rep K ρ Z H d v) (hz : ∀ z, k = .inr z → PySem.PyData.strOk z = true) : KReps K ρ Z H (dput kvs k d) (L2.putK ws k v) := by
  have mp : ∀ {kvs : List (Key × D)} {ws : List (Key × V)}, KReps K ρ Z H kvs ws → KReps K ρ Z H (kvs.map fun kv => if kv.1 = k then (kv.1, d) else kv) (ws.map fun kv => if kv.1 = k then (kv.1, v) else kv) := by
    intro kvs
    induction kvs with
    | nil =>
      intro ws h
      rw [h.unnil]
      exact .nil
    | cons p kvs ih =>
      intro ws hh
      obtain ⟨w, r, rfl, a1, a2, a3, a4⟩ := hh.uncons
      have i := ih a4
      simp only [List.map_cons]
      by_cases hk : p.1 = k
      · have hw : w.1 = k := a1.symm.trans hk
        rw [if_pos hk, if_pos hw]
        exact .cons a1 h a3 i
      · have hw : ¬ w.1 = k := fun e => hk (a1.trans e)
        rw [if_neg hk, if_neg hw]
        exact .cons a1 a2 a3 i
  unfold dput L2.putK
  rw [any_keys k q.1]
  split
  · exact mp q
  · exact q.snoc h hz
theorem drop_rep : ∀ {kvs : List (Key × D)} {ws : List (Key × V)} {k : Key}, KReps K ρ Z H kvs ws → KReps K ρ Z H (ddrop kvs k) (dropK ws k)
  | [], ws, k, h => by
    rw [h.unnil]
    exact .nil
  | p :: kvs, ws, k, h => by
    obtain ⟨w, r, rfl, h1, h3, hz, h4⟩ := h.uncons
    have i := drop_rep (k := k) h4
    by_cases hk : p.1 = k
    · have hw : w.1 = k := h1.symm.trans hk
      have e1 : ddrop (p :: kvs) k = ddrop kvs k := by simp [ddrop, hk]
      rw [e1, dropK_pos hw]
      exact i
    · have hw : ¬ w.1 = k := fun e => hk (h1.trans e)
      have e1 : ddrop (p :: kvs) k = p :: ddrop kvs k := by simp [ddrop, hk]
      rw [e1, dropK_neg hw]
      exact .cons h1 h3 hz i
theorem key_str {d : D} {v : V} {k : Key} (h : Rep K ρ Z H d v) (e : keyOf d = some k) : ∀ z, k = .inr z → PySem.PyData.strOk z = true := by
  intro z hz
  subst hz
  cases d <;> simp only [keyOf] at e <;> cases e
  simp only [Rep] at h
  exact h.2
end
end Q

/-! QSnd1: expressions: what a tree gives is what the machine gives (names, operators, comparisons, displays, subscripts). -/
namespace Q
open PySem PySem.Spec PyProof.Rows L2

/-- the slots hold what the evaluator's names hold -/
def RelE (K : PySem.W.Frag) (ρ : List Addr) (Z : Addr → Prop) (H : Hp) (env : Env) (σ : L2.St) : Prop :=
  env.length = σ.length ∧ ∀ (i : Nat) (d : D), env[i]? = some (some d) → ∃ v, σ[i]? = some (some v) ∧ Rep K ρ Z H d v
def tEv (K : PySem.W.Frag) (T : List (Addr × Str)) (C : Ctx) (x : X) : TE := fun σ H Q => ∃ ρ Z st env d st', RelS K T ρ Z st H ∧ RelE K ρ Z H env σ ∧ ev C x env st = some (d, st') ∧
  ∀ ρ' Z' H' v, Fr ρ Z H ρ' Z' H' → RelS K T ρ' Z' st' H' → Rep K ρ' Z' H' d v → Q v H'
def tEvL (K : PySem.W.Frag) (T : List (Addr × Str)) (C : Ctx) (xs : List X) : TA := fun σ H Q => ∃ ρ Z st env ds st', RelS K T ρ Z st H ∧ RelE K ρ Z H env σ ∧ evL C xs env st = some (ds, st') ∧
  ∀ ρ' Z' H' vs, Fr ρ Z H ρ' Z' H' → RelS K T ρ' Z' st' H' → Reps K ρ' Z' H' ds vs → Q vs H'
theorem _root_.L2.PE.imp {X : Cx} {e : Expr} {t t' : TE} (h : PE X e t) (i : ∀ σ H Q, t' σ H Q → t σ H Q) : PE X e t' := ⟨fun pins s σ H Q I hw => h.run pins s σ H Q I (i σ H Q hw)⟩
theorem _root_.L2.PT.imp {X : Cx} {e : Expr} {t t' : TT} (h : PT X e t) (i : ∀ σ H Q, t' σ H Q → t σ H Q) : PT X e t' := ⟨fun pins s σ H Q I hw => h.run pins s σ H Q I (i σ H Q hw)⟩
theorem _root_.L2.PW.imp {X : Cx} {e : Expr} {t t' : TT} (h : PW X e t) (i : ∀ σ H Q, t' σ H Q → t σ H Q) : PW X e t' := ⟨fun wh pins s σ H Q I hw => h.run wh pins s σ H Q I (i σ H Q hw)⟩
theorem _root_.L2.PA.imp {X : Cx} {e : List Expr} {t t' : TA} (h : PA X e t) (i : ∀ σ H Q, t' σ H Q → t σ H Q) : PA X e t' := ⟨fun pos pins s σ H Q I hw => h.run pos pins s σ H Q I (i σ H Q hw)⟩
theorem _root_.L2.PS.imp {X : Cx} {e : Stmt} {t t' : TS} (h : PS X e t) (i : ∀ D σ H, t' D σ H → t D σ H) : PS X e t' := ⟨fun pins s σ H D I hw => h.run pins s σ H D I (i D σ H hw)⟩

section
variable {K : PySem.W.Frag} {T : List (Addr × Str)} {ρ ρ' : List Addr} {Z Z' : Addr → Prop} {H H' : Hp} {st st' st1 st2 : Store} {C : Ctx} {env : Env} {σ : L2.St}
theorem RelE.mono (sub : ∀ a ∈ ρ, Z a) (f : Fr ρ Z H ρ' Z' H') (h : RelE K ρ Z H env σ) : RelE K ρ' Z' H' env σ := ⟨h.1, fun i d e => let ⟨v, e1, r⟩ := h.2 i d e; ⟨v, e1, Rep.mono sub f d v r⟩⟩
theorem RelE.mz (f : Fz ρ Z H ρ' Z' H') (h : RelE K ρ Z H env σ) : RelE K ρ' Z' H' env σ := ⟨h.1, fun i d e => let ⟨v, e1, r⟩ := h.2 i d e; ⟨v, e1, Rep.mz f d v r⟩⟩
theorem RelE.anti (hz : ∀ a, Z' a → Z a) (h : RelE K ρ Z H env σ) : RelE K ρ Z' H env σ := ⟨h.1, fun i d e => let ⟨v, e1, r⟩ := h.2 i d e; ⟨v, e1, Rep.anti hz d v r⟩⟩
theorem RelE.set {i : Nat} {d : D} {v : V} (h : RelE K ρ Z H env σ) (r : Rep K ρ Z H d v) : RelE K ρ Z H (env.set i (some d)) (σ.set i (some v)) := by
  refine ⟨by rw [List.length_set, List.length_set]; exact h.1, fun j d' e => ?_⟩
  rw [List.getElem?_set] at e ⊢
  split
  · rename_i hi
    rw [if_pos hi] at e
    split at e
    · rename_i hl
      rw [if_pos (by rw [← h.1]; exact hl)]
      cases e
      exact ⟨v, rfl, r⟩
    · cases e
  · rename_i hi
    rw [if_neg hi] at e
    exact h.2 j d' e
theorem wipe_rel (h : RelE K ρ Z H env σ) : ∀ vs : List Nat, RelE K ρ Z H (wipeE env vs) (wipe σ vs)
  | [] => h
  | i :: is => by
    have ih := wipe_rel h is
    refine ⟨by show ((wipeE env is).set i none).length = ((wipe σ is).set i none).length; rw [List.length_set, List.length_set]; exact ih.1, fun j d e => ?_⟩
    have e' : ((wipeE env is).set i none)[j]? = some (some d) := e
    show ∃ v, ((wipe σ is).set i none)[j]? = some (some v) ∧ _
    rw [List.getElem?_set] at e' ⊢
    split
    · rename_i hi
      rw [if_pos hi] at e'
      split at e' <;> simp at e'
    · rename_i hi
      rw [if_neg hi] at e'
      exact ih.2 j d e'
/-- one expression, then what follows -/
theorem tEv.go {x : X} {d : D} {Q : VK} (r : RelS K T ρ Z st H) (e : RelE K ρ Z H env σ) (h : ev C x env st = some (d, st1))
    (k : ∀ ρ' Z' H' v, Fr ρ Z H ρ' Z' H' → RelS K T ρ' Z' st1 H' → RelE K ρ' Z' H' env σ → Rep K ρ' Z' H' d v → Q v H') : tEv K T C x σ H Q :=
  ⟨ρ, Z, st, env, d, st1, r, e, h, fun ρ' Z' H' v f r' q => k ρ' Z' H' v f r' (e.mono r.sub f) q⟩
/-- two expressions in a row -/
theorem two {a b : X} {x y : D} {R : V → V → Hp → Prop} (r : RelS K T ρ Z st H) (e : RelE K ρ Z H env σ) (h1 : ev C a env st = some (x, st1)) (h2 : ev C b env st1 = some (y, st2))
    (k : ∀ ρ' Z' H' v u, Fr ρ Z H ρ' Z' H' → RelS K T ρ' Z' st2 H' → RelE K ρ' Z' H' env σ → Rep K ρ' Z' H' x v → Rep K ρ' Z' H' y u → R v u H') :
    tEv K T C a σ H fun v H1 => tEv K T C b σ H1 fun u H2 => R v u H2 :=
  tEv.go r e h1 fun ρ1 Z1 H1 v f1 r1 e1 q1 => tEv.go r1 e1 h2 fun ρ2 Z2 H2 u f2 r2 e2 q2 => k ρ2 Z2 H2 v u (f1.trans f2) r2 e2 (Rep.mono r1.sub f2 x v q1) q2
theorem asB_some {q : R} {b : Bool} (h : asB q = some (b, st1)) : q = some (.bl b, st1) := by
  unfold asB at h
  split at h
  · cases h; rfl
  · cases h
/-- a test, then what follows -/
theorem tst {x : X} {b : Bool} {Q : Bool → Hp → Prop} (r : RelS K T ρ Z st H) (e : RelE K ρ Z H env σ) (h : asB (ev C x env st) = some (b, st1))
    (k : ∀ ρ' Z' H', Fr ρ Z H ρ' Z' H' → RelS K T ρ' Z' st1 H' → RelE K ρ' Z' H' env σ → Q b H') : tB (tEv K T C x) σ H Q :=
  tEv.go r e (asB_some h) fun ρ1 Z1 H1 v f1 r1 e1 q1 => ⟨b, by simpa [Rep] using q1, k ρ1 Z1 H1 f1 r1 e1⟩
end

/-! ### what surrounds a body -/
structure Sig where
  fns : List (Str × Nat)
  cst : List Str
  /-- defs that hold a lambda; defs that give keys -/
  lam : List Str := []
  keys : List (Str × Nat) := []
/-- the promise of a def: the evaluator's answer -/
def spC (K : PySem.W.Frag) (T : List (Addr × Str)) (c : List D → Store → R) : Sp := fun vs H Q _ => ∃ ρ Z st ds d st', RelS K T ρ Z st H ∧ Reps K ρ Z H ds vs ∧ c ds st = some (d, st') ∧
  ∀ ρ' Z' H' v, Fr ρ Z H ρ' Z' H' → RelS K T ρ' Z' st' H' → Rep K ρ' Z' H' d v → Q v H'
/-- a def at hand -/
def FnE (X : Cx) (T : List (Addr × Str)) (k : Nat) (C : Ctx) (f : Str) (n : Nat) : Prop :=
  ∃ (a : Addr) (fd : FuncData) (ps : List Str), X.mg f = some (.ref a) ∧ FnOk X.prog X.w X.K X.mg X.base CX0 k a fd ps (spC X.K T (C.call f)) ∧ PySem.W.keepIn X.K (.ref a) = true ∧ L2.Binds X.K fd ps [] ∧ ps.length = n
/-- a constant at hand -/
def CsE (X : Cx) (C : Ctx) (x : Str) : Prop := ∃ d v u, C.cst x = some d ∧ X.mg x = some u ∧ RelV v u ∧ ∀ ρ Z H, Rep X.K ρ Z H d v
def blts : List Str := ["len", "int", "bool", "abs", "max", "min", "all", "any", "tuple", "list", "range", "sorted", "dict", "enumerate", "zip", "isinstance", "set", "str"]
/-- a level: the names by slot, the scope, the names whose cells are the level's own -/
structure Lv where
  N : List Str
  sc : Scope
  fn : Str → Bool
  lam : Bool
/-- a def that gives keys, at hand -/
def KeyFn (K : PySem.W.Frag) (mg : Str → Option Value) (f : Str) (n : Nat) : Prop := ∃ (a : Addr) (st : Stmt) (oc : Value) (od an : Option Addr) (sl : Array (Option Value)) (kV doc pm cdv ct : Value), mg f = some (.ref a) ∧
  K.lookup a = some ⟨oc, od, .func (PySem.W.fnOf f f (defArgs st) (defBody st) (defScope st) .none kV doc pm an cdv ct), sl⟩ ∧ PySem.W.codeIn K cdv f = true ∧ QK.keyDef n st = true
structure Good (g : Sig) (C : Ctx) (T : List (Addr × Str)) (k : Nat) (L : Lv) (X : Cx) : Prop where
  fn : ∀ x, L.fn x = true → X.fn x = true
  hN : X.N = L.N
  nd : L.N.Nodup
  sc : X.env.scope = L.sc
  calm : X.calm = true
  room : Room k X.A
  never : X.xe = fun _ _ => False
  fns : ∀ p ∈ g.fns, FnE X T k C p.1 p.2
  cst : ∀ x ∈ g.cst, CsE X C x
  blt : ∀ x ∈ blts, X.mg x = none
  lam : L.lam = true → ∃ c P, X.env.code = .ref c ∧ LamX.TabB X.base X.mg c P ∧ (P, X.env.qual ++ "<lambda>") ∈ T ∧ ∀ p ∈ T, p.1 = P → p.2 = X.env.qual ++ "<lambda>"
  keys : ∀ p ∈ g.keys, KeyFn X.K X.mg p.1 p.2
section
variable {g : Sig} {C : Ctx} {T : List (Addr × Str)} {k : Nat} {L : Lv} {X : Cx}
theorem Good.u64 (G : Good g C T k L X) : X.A.units + 64 < cLine := G.room.units
theorem Good.u65 (G : Good g C T k L X) : X.A.units + 65 < cLine := by have := G.room.un; omega
theorem Good.u1 (G : Good g C T k L X) : X.A.units + 1 < cLine := by have := G.room.un; omega
end
def visB (sc : Scope) (x : Str) : Bool := sc.names.lookup x == some .local || sc.names.lookup x == some .cell || sc.names.lookup x == some .free
theorem visB_ok {sc : Scope} {x : Str} (h : visB sc x = true) : Vis sc x := by
  unfold visB at h
  simp only [Bool.or_eq_true, beq_iff_eq] at h
  rcases h with (h | h) | h
  · exact .inl h
  · exact .inr (.inl h)
  · exact .inr (.inr h)
def locB (sc : Scope) (x : Str) : Bool := sc.names.lookup x == some .local || sc.names.lookup x == some .cell
theorem locB_ok {sc : Scope} {x : Str} (h : locB sc x = true) : Loc sc x := by
  unfold locB at h
  simp only [Bool.or_eq_true, beq_iff_eq] at h
  exact h
def glB (sc : Scope) (x : Str) : Bool := sc.names.lookup x == some .globalImplicit && !(x == ("__debug__" : Str)) && !(x == ("__name__" : Str))
theorem glB_ok {g : Sig} {C : Ctx} {T : List (Addr × Str)} {k : Nat} {L : Lv} {X : Cx} {x : Str} (G : Good g C T k L X) (h : glB L.sc x = true) : Gl X x ∧ (x == ("__debug__" : Str)) = false ∧ x ≠ "__name__" := by
  unfold glB at h
  simp only [Bool.and_eq_true, beq_iff_eq, Bool.not_eq_true'] at h
  refine ⟨?_, h.1.2, fun e => ?_⟩
  · show X.env.scope.names.lookup x = _
    rw [G.sc]
    exact h.1.1
  · subst e
    exact absurd h.2 (by decide)
def starX : X → Bool
  | .star _ => true
  | _ => false
def starP : Expr → Bool
  | .Starred _ _ => true
  | _ => false
theorem star_plain {e : Expr} {es : List Expr} {env : PySem.Env} (h : starP e = false) : starEach (e :: es) env = (false, eval e env) :: starEach es env := by
  cases e <;> first | rfl | (simp [starP] at h)
theorem stars_none {es : List Expr} {env : PySem.Env} {pos : Pos} (h : es.all (fun e => !starP e) = true) : (backTo pos (starEach es env)).any (·.1) = false := by
  induction es with
  | nil => rfl
  | cons e es ih =>
    simp only [List.all_cons, Bool.and_eq_true, Bool.not_eq_true'] at h
    rw [star_plain h.1]
    show (false || (backTo pos (starEach es env)).any (·.1)) = false
    rw [ih h.2]; rfl

/-! ### the nodes -/
section
variable {g : Sig} {C : Ctx} {T : List (Addr × Str)} {k : Nat} {L : Lv} {X : Cx} {e l r : Expr} {pos : Pos} {a b c : Q.X}
theorem i_bin {op : Operator} {σ : L2.St} {H : Hp} {Q : VK} (h : tEv X.K T C (.bin op a b) σ H Q) : tOp (rBin X.K op) (tEv X.K T C a) (tEv X.K T C b) σ H Q := by
  obtain ⟨ρ, Z, st, env, d, st', rs, re, h, k⟩ := h
  simp only [ev, Option.bind_eq_some_iff] at h
  obtain ⟨⟨x, st1⟩, h1, ⟨y, st2⟩, h2, h3⟩ := h
  exact two rs re h1 h2 fun ρ' Z' H' v u f r' e' q1 q2 => bin_ok r' q1 q2 h3 fun H2 w f2 r2 q => k _ _ _ _ (f.trans f2) r2 q
theorem s_bin {op : Operator} (ha : PE X l (tEv X.K T C a)) (hb : PE X r (tEv X.K T C b)) : PE X (.BinOp l op r pos) (tEv X.K T C (.bin op a b)) := (pe_op (op_bin op) ha hb).imp fun _ _ _ h => i_bin h
theorem s_cat {m : Bool} (ha : PE X l (tEv X.K T C a)) (hb : PE X r (tEv X.K T C b)) : PE X (.BinOp l .Add r pos) (tEv X.K T C (.cat m a b)) := (pe_op op_cat ha hb).imp fun σ H Q h => by
  obtain ⟨ρ, Z, st, env, d, st', rs, re, h, k⟩ := h
  simp only [ev, Option.bind_eq_some_iff] at h
  obtain ⟨⟨x, st1⟩, h1, ⟨y, st2⟩, h2, xs, h3, ys, h4, h5⟩ := h
  refine two rs re h1 h2 fun ρ' Z' H' v u f r' e' q1 q2 => ?_
  obtain ⟨p, vs, rfl, a1, a2⟩ := rep_lst r' q1 h3
  obtain ⟨q, us, rfl, b1, b2⟩ := rep_lst r' q2 h4
  refine ⟨p, q, vs, us, rfl, rfl, a1, b1, ?_, fun n hn => ?_⟩
  · have := mkL_le h5
    rw [List.length_append] at this
    rw [← a2.len, ← b2.len]; exact this
  · exact mkL_ok r' hn (a2.append b2) h5 fun ρ2 Z2 H2 w f2 r2 q => k _ _ _ _ (f.trans f2) r2 q
theorem s_neg (ha : PE X e (tEv X.K T C a)) : PE X (.UnaryOp .USub e pos) (tEv X.K T C (.neg a)) := (pe_un un_neg ha).imp fun σ H Q h => by
  obtain ⟨ρ, Z, st, env, d, st', rs, re, h, k⟩ := h
  simp only [ev, Option.bind_eq_some_iff] at h
  obtain ⟨⟨x, st1⟩, h1, h2⟩ := h
  refine tEv.go rs re h1 fun ρ' Z' H' v f r' e' q1 => ?_
  cases x <;> simp only at h2 <;> cases h2
  simp only [Rep] at q1
  subst q1
  exact ⟨_, rfl, k _ _ _ _ f r' (by simp [Rep])⟩
theorem i_not {σ : L2.St} {H : Hp} {Q : VK} (h : tEv X.K T C (.not a) σ H Q) : tB (tEv X.K T C a) σ H fun c H1 => Q (.bl (!c)) H1 := by
  obtain ⟨ρ, Z, st, env, d, st', rs, re, h, k⟩ := h
  simp only [ev, Option.map_eq_some_iff] at h
  obtain ⟨⟨b, st1⟩, h1, h2⟩ := h
  cases h2
  exact tst rs re h1 fun ρ' Z' H' f r' e' => k _ _ _ _ f r' (by simp [Rep])
theorem s_not (ha : PE X e (tEv X.K T C a)) : PE X (.UnaryOp .Not e pos) (tEv X.K T C (.not a)) := (pe_not ha).imp fun σ H Q h => i_not h
theorem p_not (ha : PT X e (tB (tEv X.K T C a))) : PT X (.UnaryOp .Not e pos) (tB (tEv X.K T C (.not a))) := (pt_not ha).imp fun σ H Q h => by
  have q : tB (tEv X.K T C a) σ H fun c H1 => ∃ b, V.bl (!c) = .bl b ∧ Q b H1 := i_not h
  obtain ⟨ρ, Z, st, env, d, st', rs, re, h, k⟩ := q
  refine ⟨ρ, Z, st, env, d, st', rs, re, h, fun ρ' Z' H' v f r' q => ?_⟩
  obtain ⟨c, e, b, e2, q⟩ := k ρ' Z' H' v f r' q
  cases e2
  exact ⟨c, e, q⟩
theorem i_cmp {op : CmpOp} {σ : L2.St} {H : Hp} {Q : VK} (h : tEv X.K T C (.cmp op a b) σ H Q) : tOp (rCmp X.K op) (tEv X.K T C a) (tEv X.K T C b) σ H Q := by
  obtain ⟨ρ, Z, st, env, d, st', rs, re, h, k⟩ := h
  simp only [ev, Option.bind_eq_some_iff, Option.map_eq_some_iff] at h
  obtain ⟨⟨x, st1⟩, h1, ⟨y, st2⟩, h2, z, h3, h4⟩ := h
  cases h4
  exact two rs re h1 h2 fun ρ' Z' H' v u f r' e' q1 q2 => cmp_ok r' q1 q2 h3 (k _ _ _ _ f r' (by simp [Rep]))
def isCmp (op : CmpOp) : Bool := op == .Eq || op == .NotEq || op == .Lt || op == .LtE || op == .Gt || op == .GtE
theorem nm {op : CmpOp} (h : isCmp op = true) (r : Expr) : behindInMarks op r = false := nobehind r (fun e => by subst e; simp [isCmp] at h) (fun e => by subst e; simp [isCmp] at h)
theorem s_cmp {op : CmpOp} (G : Good g C T k L X) (ho : isCmp op = true) (ha : PE X l (tEv X.K T C a)) (hb : PE X r (tEv X.K T C b)) : PE X (.Compare l [op] [r] pos) (tEv X.K T C (.cmp op a b)) :=
  (pe_cmpR (op_cmp G.u64 op) ha hb (nm ho r)).imp fun σ H Q h => i_cmp h
theorem p_cmp {op : CmpOp} (G : Good g C T k L X) (ho : isCmp op = true) (ha : PE X l (tEv X.K T C a)) (hb : PE X r (tEv X.K T C b)) : PT X (.Compare l [op] [r] pos) (tB (tEv X.K T C (.cmp op a b))) :=
  (pt_cmpR (op_cmp G.u64 op) ha hb (nm ho r)).imp fun σ H Q h => i_cmp h
theorem i_chain {op op' : CmpOp} {σ : L2.St} {H : Hp} {Q : VK} (h : tEv X.K T C (.chain op op' a b c) σ H Q) : tChain (rCmp X.K op) (rCmp X.K op') (tEv X.K T C a) (tEv X.K T C b) (tEv X.K T C c) σ H Q := by
  obtain ⟨ρ, Z, st, env, d, st', rs, re, h, k⟩ := h
  simp only [ev, Option.bind_eq_some_iff, Option.map_eq_some_iff] at h
  obtain ⟨⟨x, st1⟩, h1, ⟨y, st2⟩, h2, z, h3, h4⟩ := h
  refine two rs re h1 h2 fun ρ' Z' H' v u f r' e' q1 q2 => cmp_ok r' q1 q2 h3 ?_
  refine ⟨z, rfl, ?_⟩
  cases z with
  | true =>
    simp only [if_true, Option.bind_eq_some_iff, Option.map_eq_some_iff] at h4 ⊢
    obtain ⟨⟨w, st3⟩, h5, k2, h6, h7⟩ := h4
    cases h7
    exact tEv.go r' e' h5 fun ρ2 Z2 H2 v2 f2 r2 e2 q3 => cmp_ok r2 (Rep.mono r'.sub f2 _ _ q2) q3 h6 (k _ _ _ _ (f.trans f2) r2 (by simp [Rep]))
  | false =>
    simp only [Bool.false_eq_true, if_false] at h4 ⊢
    cases h4
    exact k _ _ _ _ f r' (by simp [Rep])
variable {e1 e2 e3 : Expr}
theorem nm2 {op op' : CmpOp} (h : isCmp op' = true) : lastMarks [op, op'] [e1, e2] = false := nm h e2
theorem s_chain {op op' : CmpOp} (G : Good g C T k L X) (ho' : isCmp op' = true) (ha : PE X e1 (tEv X.K T C a)) (hb : PE X e2 (tEv X.K T C b)) (hc : PE X e3 (tEv X.K T C c)) :
    PE X (.Compare e1 [op, op'] [e2, e3] pos) (tEv X.K T C (.chain op op' a b c)) := (pe_chain (op_cmp G.u64 op) (op_cmp G.u64 op') ha hb hc (nm2 ho')).imp fun σ H Q h => i_chain h
theorem p_chain {op op' : CmpOp} (G : Good g C T k L X) (ho' : isCmp op' = true) (ha : PE X e1 (tEv X.K T C a)) (hb : PE X e2 (tEv X.K T C b)) (hc : PE X e3 (tEv X.K T C c)) :
    PT X (.Compare e1 [op, op'] [e2, e3] pos) (tB (tEv X.K T C (.chain op op' a b c))) := (pt_chain (op_cmp G.u64 op) (op_cmp G.u64 op') ha hb hc (nm2 ho')).imp fun σ H Q h => i_chain h
theorem non_iff {ρ : List Addr} {Z : Addr → Prop} {H : Hp} {K : PySem.W.Frag} {d : D} {v : V} (h : Rep K ρ Z H d v) : decide (v = .non) = isNon d := by
  cases d <;> simp only [Rep] at h <;> (first | (subst h; simp [isNon]; done) | (obtain ⟨rfl, _⟩ := h; simp [isNon]; done) | (obtain ⟨a, h⟩ := h; simp [h.1, isNon]; done) | (obtain ⟨a, vs, h⟩ := h; simp [h.1, isNon]; done))
theorem i_isN {σ : L2.St} {H : Hp} {Q : VK} (h : tEv X.K T C (.isN a) σ H Q) : tIsN (tEv X.K T C a) σ H Q := by
  obtain ⟨ρ, Z, st, env, d, st', rs, re, h, k⟩ := h
  simp only [ev, Option.map_eq_some_iff] at h
  obtain ⟨⟨x, st1⟩, h1, h2⟩ := h
  cases h2
  refine tEv.go rs re h1 fun ρ' Z' H' v f r' e' q1 => ?_
  rw [non_iff q1]
  exact k _ _ _ _ f r' (by simp [Rep])
theorem i_notN {σ : L2.St} {H : Hp} {Q : VK} (h : tEv X.K T C (.notN a) σ H Q) : tNotN (tEv X.K T C a) σ H Q := by
  obtain ⟨ρ, Z, st, env, d, st', rs, re, h, k⟩ := h
  simp only [ev, Option.map_eq_some_iff] at h
  obtain ⟨⟨x, st1⟩, h1, h2⟩ := h
  cases h2
  refine tEv.go rs re h1 fun ρ' Z' H' v f r' e' q1 => ?_
  rw [non_iff q1]
  exact k _ _ _ _ f r' (by simp [Rep])
theorem s_isN {j : Nat} {p2 : Pos} (ha : PE X e (tEv X.K T C a)) : PE X (.Compare e [.Is] [.Constant .none j p2] pos) (tEv X.K T C (.isN a)) := (pe_cmp (pc_isN ha)).imp fun σ H Q h => i_isN h
theorem p_isN {j : Nat} {p2 : Pos} (ha : PE X e (tEv X.K T C a)) : PT X (.Compare e [.Is] [.Constant .none j p2] pos) (tB (tEv X.K T C (.isN a))) := (pt_cmp (pc_isN ha)).imp fun σ H Q h => i_isN h
theorem s_notN {j : Nat} {p2 : Pos} (ha : PE X e (tEv X.K T C a)) : PE X (.Compare e [.IsNot] [.Constant .none j p2] pos) (tEv X.K T C (.notN a)) := (pe_cmp (pc_notN ha)).imp fun σ H Q h => i_notN h
theorem p_notN {j : Nat} {p2 : Pos} (ha : PE X e (tEv X.K T C a)) : PT X (.Compare e [.IsNot] [.Constant .none j p2] pos) (tB (tEv X.K T C (.notN a))) := (pt_cmp (pc_notN ha)).imp fun σ H Q h => i_notN h
theorem i_isB {t : Bool} {σ : L2.St} {H : Hp} {Q : VK} (h : tEv X.K T C (.isB a t) σ H Q) : tOp rIsB (tEv X.K T C a) (tC (.bl t)) σ H Q := by
  obtain ⟨ρ, Z, st, env, d, st', rs, re, h, k⟩ := h
  simp only [ev, Option.map_eq_some_iff] at h
  obtain ⟨⟨x, st1⟩, h1, h2⟩ := h
  cases h2
  refine tEv.go rs re (asB_some h1) fun ρ' Z' H' v f r' e' q1 => ?_
  simp only [Rep] at q1
  subst q1
  exact ⟨x, t, rfl, rfl, k _ _ _ _ f r' (by simp [Rep])⟩
theorem s_isB {t : Bool} {j : Nat} {p2 : Pos} (ha : PE X e (tEv X.K T C a)) : PE X (.Compare e [.Is] [.Constant (.bool t) j p2] pos) (tEv X.K T C (.isB a t)) := (pe_cmpR op_isBl ha pe_bl (by rfl)).imp fun σ H Q h => i_isB h
theorem p_isB {t : Bool} {j : Nat} {p2 : Pos} (ha : PE X e (tEv X.K T C a)) : PT X (.Compare e [.Is] [.Constant (.bool t) j p2] pos) (tB (tEv X.K T C (.isB a t))) := (pt_cmpR op_isBl ha pe_bl (by rfl)).imp fun σ H Q h => i_isB h
theorem i_mem {σ : L2.St} {H : Hp} {Q : VK} (h : tEv X.K T C (.mem a b) σ H Q) : tOp (rMem X.K false) (tEv X.K T C a) (tEv X.K T C b) σ H Q := by
  obtain ⟨ρ, Z, st, env, d, st', rs, re, h, k⟩ := h
  simp only [ev, Option.bind_eq_some_iff, Option.map_eq_some_iff] at h
  obtain ⟨⟨x, st1⟩, h1, ⟨y, st2⟩, h2, z, h3, h4⟩ := h
  cases h4
  exact two rs re h1 h2 fun ρ' Z' H' v u f r' e' q1 q2 => mem_ok r' q1 q2 h3 (k _ _ _ _ f r' (by simp [Rep]))
theorem i_notIn {σ : L2.St} {H : Hp} {Q : VK} (h : tEv X.K T C (.notIn a b) σ H Q) : tOp (rMem X.K true) (tEv X.K T C a) (tEv X.K T C b) σ H Q := by
  obtain ⟨ρ, Z, st, env, d, st', rs, re, h, k⟩ := h
  simp only [ev, Option.bind_eq_some_iff, Option.map_eq_some_iff] at h
  obtain ⟨⟨x, st1⟩, h1, ⟨y, st2⟩, h2, z, h3, h4⟩ := h
  cases h4
  exact two rs re h1 h2 fun ρ' Z' H' v u f r' e' q1 q2 => mem_ok r' q1 q2 h3 (k _ _ _ _ f r' (by simp [Rep]))
theorem s_mem (G : Good g C T k L X) (hm : behindInMarks .In r = false) (ha : PE X l (tEv X.K T C a)) (hb : PE X r (tEv X.K T C b)) : PE X (.Compare l [.In] [r] pos) (tEv X.K T C (.mem a b)) :=
  (pe_cmpR (op_mem G.u65) ha hb hm).imp fun σ H Q h => i_mem h
theorem p_mem (G : Good g C T k L X) (hm : behindInMarks .In r = false) (ha : PE X l (tEv X.K T C a)) (hb : PE X r (tEv X.K T C b)) : PT X (.Compare l [.In] [r] pos) (tB (tEv X.K T C (.mem a b))) :=
  (pt_cmpR (op_mem G.u65) ha hb hm).imp fun σ H Q h => i_mem h
theorem s_notIn (G : Good g C T k L X) (hm : behindInMarks .NotIn r = false) (ha : PE X l (tEv X.K T C a)) (hb : PE X r (tEv X.K T C b)) : PE X (.Compare l [.NotIn] [r] pos) (tEv X.K T C (.notIn a b)) :=
  (pe_cmpR (op_notMem G.u65) ha hb hm).imp fun σ H Q h => i_notIn h
theorem p_notIn (G : Good g C T k L X) (hm : behindInMarks .NotIn r = false) (ha : PE X l (tEv X.K T C a)) (hb : PE X r (tEv X.K T C b)) : PT X (.Compare l [.NotIn] [r] pos) (tB (tEv X.K T C (.notIn a b))) :=
  (pt_cmpR (op_notMem G.u65) ha hb hm).imp fun σ H Q h => i_notIn h
theorem i_memK {σ : L2.St} {H : Hp} {Q : VK} (h : tEv X.K T C (.memK a b) σ H Q) : tDIn (tEv X.K T C a) (tEv X.K T C b) σ H Q := by
  obtain ⟨ρ, Z, st, env, d, st', rs, re, h, k⟩ := h
  simp only [ev, Option.bind_eq_some_iff, Option.map_eq_some_iff] at h
  obtain ⟨⟨x, st1⟩, h1, ⟨y, st2⟩, h2, kvs, h3, kk, h4, h5⟩ := h
  cases h5
  refine two rs re h1 h2 fun ρ' Z' H' v u f r' e' q1 q2 => ?_
  obtain ⟨p, ws, rfl, a1, a2⟩ := rep_dct r' q2 h3
  obtain ⟨o, b1, b2, _⟩ := dget_ok (d := D.non) (v := v) a1 a2 (rep_key q1 h4)
  exact ⟨p, o, rfl, b1, by rw [b2]; exact k _ _ _ _ f r' (by simp [Rep])⟩
theorem i_notInK {σ : L2.St} {H : Hp} {Q : VK} (h : tEv X.K T C (.notInK a b) σ H Q) : tDNotIn (tEv X.K T C a) (tEv X.K T C b) σ H Q := by
  obtain ⟨ρ, Z, st, env, d, st', rs, re, h, k⟩ := h
  simp only [ev, Option.bind_eq_some_iff, Option.map_eq_some_iff] at h
  obtain ⟨⟨x, st1⟩, h1, ⟨y, st2⟩, h2, kvs, h3, kk, h4, h5⟩ := h
  cases h5
  refine two rs re h1 h2 fun ρ' Z' H' v u f r' e' q1 q2 => ?_
  obtain ⟨p, ws, rfl, a1, a2⟩ := rep_dct r' q2 h3
  obtain ⟨o, b1, b2, _⟩ := dget_ok (d := D.non) (v := v) a1 a2 (rep_key q1 h4)
  exact ⟨p, o, rfl, b1, by rw [b2]; exact k _ _ _ _ f r' (by simp [Rep])⟩
theorem s_memK (G : Good g C T k L X) (hm : behindInMarks .In r = false) (ha : PE X l (tEv X.K T C a)) (hb : PE X r (tEv X.K T C b)) : PE X (.Compare l [.In] [r] pos) (tEv X.K T C (.memK a b)) :=
  (pe_cmp (pc_din G.u1 ha hb) hm).imp fun σ H Q h => i_memK h
theorem p_memK (G : Good g C T k L X) (hm : behindInMarks .In r = false) (ha : PE X l (tEv X.K T C a)) (hb : PE X r (tEv X.K T C b)) : PT X (.Compare l [.In] [r] pos) (tB (tEv X.K T C (.memK a b))) :=
  (pt_cmp (pc_din G.u1 ha hb) hm).imp fun σ H Q h => i_memK h
theorem s_notInK (G : Good g C T k L X) (hm : behindInMarks .NotIn r = false) (ha : PE X l (tEv X.K T C a)) (hb : PE X r (tEv X.K T C b)) : PE X (.Compare l [.NotIn] [r] pos) (tEv X.K T C (.notInK a b)) :=
  (pe_cmp (pc_dnotin G.u1 ha hb) hm).imp fun σ H Q h => i_notInK h
theorem p_notInK (G : Good g C T k L X) (hm : behindInMarks .NotIn r = false) (ha : PE X l (tEv X.K T C a)) (hb : PE X r (tEv X.K T C b)) : PT X (.Compare l [.NotIn] [r] pos) (tB (tEv X.K T C (.notInK a b))) :=
  (pt_cmp (pc_dnotin G.u1 ha hb) hm).imp fun σ H Q h => i_notInK h
theorem s_ite {t : Expr} (hc : PT X t (tB (tEv X.K T C c))) (ha : PE X l (tEv X.K T C a)) (hb : PE X r (tEv X.K T C b)) : PE X (.IfExp t l r pos) (tEv X.K T C (.ite c a b)) := (pe_ifExp hc ha hb).imp fun σ H Q h => by
  obtain ⟨ρ, Z, st, env, d, st', rs, re, h, k⟩ := h
  simp only [ev, Option.bind_eq_some_iff] at h
  obtain ⟨⟨x, st1⟩, h1, h2⟩ := h
  refine tst rs re h1 fun ρ' Z' H' f r' e' => ?_
  cases x with
  | true => exact iteT (tEv.go r' e' h2 fun ρ2 Z2 H2 v f2 r2 e2 q => k _ _ _ _ (f.trans f2) r2 q)
  | false => exact iteF (tEv.go r' e' h2 fun ρ2 Z2 H2 v f2 r2 e2 q => k _ _ _ _ (f.trans f2) r2 q)
theorem s_var {i : Nat} {x : Str} (G : Good g C T k L X) (hN : L.N[i]? = some x) (hv : visB L.sc x = true) (hd : (x == ("__debug__" : Str)) = false) (hcd : (x == ("__classdict__" : Str)) = false) : PE X (.Name x pos) (tEv X.K T C (.var i)) :=
  (pe_var (i := i) (by rw [G.hN]; exact hN) (by rw [G.sc]; exact visB_ok hv) hd hcd).imp fun σ H Q h => by
    obtain ⟨ρ, Z, st, env, d, st', rs, re, h, k⟩ := h
    simp only [ev] at h
    split at h
    · rename_i d' e
      cases h
      obtain ⟨v, e2, q⟩ := re.2 i _ e
      exact ⟨v, e2, k _ _ _ _ .refl rs q⟩
    · cases h
theorem s_glb {x : Str} (G : Good g C T k L X) (hx : x ∈ g.cst) (hg : glB L.sc x = true) : PE X (.Name x pos) (tEv X.K T C (.glb x)) := by
  obtain ⟨d, v, u, h1, h2, h3, h4⟩ := G.cst x hx
  obtain ⟨g1, g2, g3⟩ := glB_ok G hg
  refine (pe_glob g1 h2 h3 g2).imp fun σ H Q h => ?_
  obtain ⟨ρ, Z, st, env, d', st', rs, re, h, k⟩ := h
  simp only [ev, h1, Option.map_some, Option.some.injEq, Prod.mk.injEq] at h
  obtain ⟨rfl, rfl⟩ := h
  exact k _ _ _ _ .refl rs (h4 _ _ _)
theorem s_const {x : Q.X} {d : D} {v : V} {t : TE} (hp : PE X e t) (hv : ∀ env st, ev C x env st = some (d, st)) (ht : ∀ σ H Q, Q v H → t σ H Q) (hr : ∀ ρ Z H, Rep X.K ρ Z H d v) : PE X e (tEv X.K T C x) := hp.imp fun σ H Q h => by
  obtain ⟨ρ, Z, st, env, d', st', rs, re, h, k⟩ := h
  rw [hv] at h
  cases h
  exact ht _ _ _ (k _ _ _ _ .refl rs (hr _ _ _))
theorem s_sub (G : Good g C T k L X) (hs : PlainIx r) (ha : PE X l (tEv X.K T C a)) (hb : PE X r (tEv X.K T C b)) : PE X (.Subscript l r pos) (tEv X.K T C (.sub a b)) := (pe_ix ix_seq ha hb hs).imp fun σ H Q h => by
  obtain ⟨ρ, Z, st, env, d, st', rs, re, h, k⟩ := h
  simp only [ev, Option.bind_eq_some_iff, Option.map_eq_some_iff] at h
  obtain ⟨⟨x, st1⟩, h1, ⟨y, st2⟩, h2, z, h3, h4⟩ := h
  cases h4
  exact two rs re h1 h2 fun ρ' Z' H' v u f r' e' q1 q2 => sub_ok r' q1 q2 h3 fun w q => k _ _ _ _ f r' q
theorem s_subK (G : Good g C T k L X) (hs : NoSl r) (ha : PE X l (tEv X.K T C a)) (hb : PE X r (tEv X.K T C b)) : PE X (.Subscript l r pos) (tEv X.K T C (.subK a b)) := (pe_dget G.u1 ha hb hs).imp fun σ H Q h => by
  obtain ⟨ρ, Z, st, env, d, st', rs, re, h, k⟩ := h
  simp only [ev, Option.bind_eq_some_iff, Option.map_eq_some_iff] at h
  obtain ⟨⟨x, st1⟩, h1, ⟨y, st2⟩, h2, kvs, h3, kk, h4, z, h5, h6⟩ := h
  cases h6
  refine two rs re h1 h2 fun ρ' Z' H' v u f r' e' q1 q2 => ?_
  obtain ⟨p, ws, rfl, a1, a2⟩ := rep_dct r' q1 h3
  obtain ⟨o, b1, b2, b3⟩ := dget_ok (d := D.non) (v := u) a1 a2 (rep_key q2 h4)
  obtain ⟨w, rfl, b4⟩ := b3 _ h5
  exact ⟨p, w, rfl, b1, k _ _ _ _ f r' b4⟩
end
end Q

/-! QSnd2: arguments, displays, and/or, slices, calls of defs and built-ins, methods. -/
namespace Q
open PySem PySem.Spec PyProof.Rows L2

def tRun (K : PySem.W.Frag) (T : List (Addr × Str)) (f : Env → Store → R) : TE := fun σ H Q => ∃ ρ Z st env d st', RelS K T ρ Z st H ∧ RelE K ρ Z H env σ ∧ f env st = some (d, st') ∧
  ∀ ρ' Z' H' v, Fr ρ Z H ρ' Z' H' → RelS K T ρ' Z' st' H' → Rep K ρ' Z' H' d v → Q v H'
inductive All2 (P : Q.X → Expr → Prop) : List Q.X → List Expr → Prop where
  | nil : All2 P [] []
  | cons {x : Q.X} {e : Expr} {xs : List Q.X} {es : List Expr} (h : P x e) (t : All2 P xs es) : All2 P (x :: xs) (e :: es)
def iteX : Q.X → Bool
  | .ite _ _ _ => true
  | _ => false
/-- an element: plain, or with a star -/
def SA (X : Cx) (T : List (Addr × Str)) (C : Ctx) (x : Q.X) (e : Expr) : Prop :=
  (∃ a e' p, x = .star a ∧ e = .Starred e' p ∧ PE X e' (tEv X.K T C a)) ∨ (starX x = false ∧ starP e = false ∧ PE X e (tEv X.K T C x) ∧ (iteX x = false → PT X e (tB (tEv X.K T C x))))
section
variable {g : Sig} {C : Ctx} {T : List (Addr × Str)} {k : Nat} {L : Lv} {X : Cx} {e l r : Expr} {pos : Pos} {a b c : Q.X} {xs : List Q.X} {es : List Expr}
theorem evL_cons {x : Q.X} (h : starX x = false) (xs : List Q.X) (env : Env) (st : Store) : evL C (x :: xs) env st = (ev C x env st).bind fun r => (evL C xs env r.2).map fun q => (r.1 :: q.1, q.2) := by
  cases x <;> first | rfl | (simp [starX] at h)
theorem pa_all (h : All2 (SA X T C) xs es) : PA X es (tEvL X.K T C xs) := by
  induction h with
  | nil =>
    refine pa_nil.imp fun σ H Q h => ?_
    obtain ⟨ρ, Z, st, env, d, st', rs, re, h, k⟩ := h
    simp only [evL] at h
    cases h
    exact k _ _ _ _ .refl rs .nil
  | @cons x e xs es h t ih =>
    rcases h with ⟨a, e', p, rfl, rfl, he⟩ | ⟨h1, h2, he, _⟩
    · refine (StX.pa_star he ih).imp fun σ H Q h => ?_
      obtain ⟨ρ, Z, st, env, d, st', rs, re, h, k⟩ := h
      simp only [evL, Option.bind_eq_some_iff, Option.map_eq_some_iff] at h
      obtain ⟨⟨y, st1⟩, h1, ys, h2, ⟨zs, st2⟩, h3, h4⟩ := h
      cases h4
      refine tEv.go rs re h1 fun ρ' Z' H' v f r' e' q1 => ?_
      obtain ⟨p, vs, rfl, a1, a2⟩ := rep_seq r' q1 h2
      refine ⟨p, vs, rfl, a1.symm, ρ', Z', st1, env, zs, st2, r', e', h3, fun ρ2 Z2 H2 us f2 r2 q2 => ?_⟩
      exact k _ _ _ _ (f.trans f2) r2 ((Reps.mono r'.sub f2 _ _ a2).append q2)
    · refine (pa_cons he ih (star_plain h2)).imp fun σ H Q h => ?_
      obtain ⟨ρ, Z, st, env, d, st', rs, re, h, k⟩ := h
      rw [evL_cons h1] at h
      simp only [Option.bind_eq_some_iff, Option.map_eq_some_iff] at h
      obtain ⟨⟨y, st1⟩, h1, ⟨zs, st2⟩, h3, h4⟩ := h
      cases h4
      refine tEv.go rs re h1 fun ρ' Z' H' v f r' e' q1 => ?_
      exact ⟨ρ', Z', st1, env, zs, st2, r', e', h3, fun ρ2 Z2 H2 us f2 r2 q2 => k _ _ _ _ (f.trans f2) r2 (.cons (Rep.mono r'.sub f2 _ _ q1) q2)⟩
theorem s_tup {j : Nat} (h : All2 (SA X T C) xs es) : PE X (.Tuple es j pos) (tEv X.K T C (.tup xs)) := (pe_tup (pa_all h)).imp fun σ H Q h => by
  obtain ⟨ρ, Z, st, env, d, st', rs, re, h, k⟩ := h
  simp only [ev, Option.bind_eq_some_iff] at h
  obtain ⟨⟨ds, st1⟩, h1, h2⟩ := h
  unfold mkT at h2
  split at h2
  · rename_i hl
    cases h2
    refine ⟨ρ, Z, st, env, ds, _, rs, re, h1, fun ρ' Z' H' vs f r' q => ⟨by rw [← q.len]; exact hl, fun p hp => ?_⟩⟩
    exact k _ _ _ _ (f.trans (fr_new hp)) (r'.new hp) (rep_newT r' hp q)
  · cases h2
theorem s_lst {m : Bool} (h : All2 (SA X T C) xs es) : PE X (.List es pos) (tEv X.K T C (.lst m xs)) := (pe_lst (pa_all h)).imp fun σ H Q h => by
  obtain ⟨ρ, Z, st, env, d, st', rs, re, h, k⟩ := h
  simp only [ev, Option.bind_eq_some_iff] at h
  obtain ⟨⟨ds, st1⟩, h1, h2⟩ := h
  refine ⟨ρ, Z, st, env, ds, st1, rs, re, h1, fun ρ' Z' H' vs f r' q => ⟨by rw [← q.len]; exact mkL_le h2, fun p hp => ?_⟩⟩
  exact mkL_ok r' hp q h2 fun ρ2 Z2 H2 w f2 r2 q2 => k _ _ _ _ (f.trans f2) r2 q2
/-- and, as a value and as a test -/
theorem and_all : ∀ {xs : List Q.X} {es : List Expr}, All2 (SA X T C) xs es → (∀ x ∈ xs, iteX x = false ∧ starX x = false) → xs ≠ [] → PE X (.BoolOp .And es pos) (tRun X.K T (evAnd C xs)) ∧ PW X (.BoolOp .And es pos) (tB (tRun X.K T (evAnd C xs)))
  | _, _, .nil, _, hn => absurd rfl hn
  | [x], _, .cons h .nil, hi, _ => by
    rcases h with ⟨_, _, _, e1, _⟩ | ⟨_, _, he, ht⟩
    · have := (hi x (by simp)).2; rw [e1] at this; simp [starX] at this
    · exact ⟨(pe_one he).imp fun σ H Q h => h, (pw_and1 (ht (hi x (by simp)).1)).imp fun σ H Q h => h⟩
  | x :: y :: xs, _, .cons h (.cons h2 t), hi, _ => by
    obtain ⟨i1, i2⟩ := and_all (.cons h2 t) (fun z hz => hi z (List.mem_cons_of_mem _ hz)) (by simp)
    rcases h with ⟨_, _, _, e1, _⟩ | ⟨_, _, he, ht⟩
    · have := (hi x (by simp)).2; rw [e1] at this; simp [starX] at this
    · have key : ∀ {σ : L2.St} {H : Hp} {Q : VK}, tRun X.K T (evAnd C (x :: y :: xs)) σ H Q → tEv X.K T C x σ H fun v H1 => ∃ c, v = .bl c ∧ if c = true then tRun X.K T (evAnd C (y :: xs)) σ H1 Q else Q (.bl false) H1 := by
        intro σ H Q h
        obtain ⟨ρ, Z, st, env, d, st', rs, re, h, k⟩ := h
        simp only [evAnd, Option.bind_eq_some_iff] at h
        obtain ⟨⟨b, st1⟩, h1, h2⟩ := h
        refine tEv.go rs re (asB_some h1) fun ρ' Z' H' v f r' e' q => ⟨b, by simpa [Rep] using q, ?_⟩
        cases b with
        | true =>
          simp only [if_true] at h2 ⊢
          exact ⟨ρ', Z', st1, env, d, st', r', e', h2, fun ρ2 Z2 H2 v2 f2 r2 q2 => k _ _ _ _ (f.trans f2) r2 q2⟩
        | false =>
          simp only [Bool.false_eq_true, if_false] at h2 ⊢
          cases h2
          exact k _ _ _ _ f r' (by simp [Rep])
      refine ⟨(pe_and he i1).imp fun σ H Q h => key h, (pw_and (ht (hi x (by simp)).1) i2).imp fun σ H Q h => ?_⟩
      have q := key h
      obtain ⟨ρ, Z, st, env, d, st', rs, re, h, k⟩ := q
      refine ⟨ρ, Z, st, env, d, st', rs, re, h, fun ρ' Z' H' v f r' q => ?_⟩
      obtain ⟨c, e, q⟩ := k ρ' Z' H' v f r' q
      refine ⟨c, e, ?_⟩
      cases c with
      | true => exact q
      | false =>
        obtain ⟨b, e2, q⟩ := q
        cases e2
        exact q
theorem or_all : ∀ {xs : List Q.X} {es : List Expr}, All2 (SA X T C) xs es → (∀ x ∈ xs, iteX x = false ∧ starX x = false) → xs ≠ [] → PE X (.BoolOp .Or es pos) (tRun X.K T (evOr C xs)) ∧ PW X (.BoolOp .Or es pos) (tB (tRun X.K T (evOr C xs)))
  | _, _, .nil, _, hn => absurd rfl hn
  | [x], _, .cons h .nil, hi, _ => by
    rcases h with ⟨_, _, _, e1, _⟩ | ⟨_, _, he, ht⟩
    · have := (hi x (by simp)).2; rw [e1] at this; simp [starX] at this
    · exact ⟨(pe_one he).imp fun σ H Q h => h, (pw_or1 (ht (hi x (by simp)).1)).imp fun σ H Q h => h⟩
  | x :: y :: xs, _, .cons h (.cons h2 t), hi, _ => by
    obtain ⟨i1, i2⟩ := or_all (.cons h2 t) (fun z hz => hi z (List.mem_cons_of_mem _ hz)) (by simp)
    rcases h with ⟨_, _, _, e1, _⟩ | ⟨_, _, he, ht⟩
    · have := (hi x (by simp)).2; rw [e1] at this; simp [starX] at this
    · have key : ∀ {σ : L2.St} {H : Hp} {Q : VK}, tRun X.K T (evOr C (x :: y :: xs)) σ H Q → tEv X.K T C x σ H fun v H1 => ∃ c, v = .bl c ∧ if c = true then Q (.bl true) H1 else tRun X.K T (evOr C (y :: xs)) σ H1 Q := by
        intro σ H Q h
        obtain ⟨ρ, Z, st, env, d, st', rs, re, h, k⟩ := h
        simp only [evOr, Option.bind_eq_some_iff] at h
        obtain ⟨⟨b, st1⟩, h1, h2⟩ := h
        refine tEv.go rs re (asB_some h1) fun ρ' Z' H' v f r' e' q => ⟨b, by simpa [Rep] using q, ?_⟩
        cases b with
        | false =>
          simp only [Bool.false_eq_true, if_false] at h2 ⊢
          exact ⟨ρ', Z', st1, env, d, st', r', e', h2, fun ρ2 Z2 H2 v2 f2 r2 q2 => k _ _ _ _ (f.trans f2) r2 q2⟩
        | true =>
          simp only [if_true] at h2 ⊢
          cases h2
          exact k _ _ _ _ f r' (by simp [Rep])
      refine ⟨(pe_or he i1).imp fun σ H Q h => key h, (pw_or (ht (hi x (by simp)).1) i2).imp fun σ H Q h => ?_⟩
      have q := key h
      obtain ⟨ρ, Z, st, env, d, st', rs, re, h, k⟩ := q
      refine ⟨ρ, Z, st, env, d, st', rs, re, h, fun ρ' Z' H' v f r' q => ?_⟩
      obtain ⟨c, e, q⟩ := k ρ' Z' H' v f r' q
      refine ⟨c, e, ?_⟩
      cases c with
      | false => exact q
      | true =>
        obtain ⟨b, e2, q⟩ := q
        cases e2
        exact q
/-! ### slices -/
def tOpt (K : PySem.W.Frag) (T : List (Addr × Str)) (C : Ctx) (x : Q.X) : TO := fun σ H Q => ∃ ρ Z st env o st', RelS K T ρ Z st H ∧ RelE K ρ Z H env σ ∧ asO (noneX x) (ev C x env st) = some (o, st') ∧
  ∀ ρ' Z' H', Fr ρ Z H ρ' Z' H' → RelS K T ρ' Z' st' H' → Q o H'
theorem _root_.L2.PO.imp {X : Cx} {e : Option Expr} {t t' : TO} (h : PO X e t) (i : ∀ σ H Q, t' σ H Q → t σ H Q) : PO X e t' := ⟨fun pins s σ H Q I hw => h.run pins s σ H Q I (i σ H Q hw)⟩
theorem po_no : PO X none (tOpt X.K T C .none_) := po_none.imp fun σ H Q h => by
  obtain ⟨ρ, Z, st, env, d, st', rs, re, h, k⟩ := h
  simp only [ev, asO, noneX, if_true] at h
  cases h
  exact k _ _ _ .refl rs
theorem po_yes (hn : noneX a = false) (ha : PE X e (tEv X.K T C a)) : PO X (some e) (tOpt X.K T C a) := (po_some ha).imp fun σ H Q h => by
  obtain ⟨ρ, Z, st, env, d, st', rs, re, h, k⟩ := h
  rw [hn] at h
  unfold asO at h
  split at h
  · rename_i i st1 h1
    cases h
    refine tEv.go rs re h1 fun ρ' Z' H' v f r' e' q => ?_
    simp only [Rep] at q
    exact ⟨i, q, k _ _ _ f r'⟩
  · cases h
  · cases h
theorem s_slice {lo hi : Option Expr} {p2 : Pos} (ha : PE X e (tEv X.K T C a)) (hb : PO X lo (tOpt X.K T C b)) (hc : PO X hi (tOpt X.K T C c)) : PE X (.Subscript e (.Slice lo hi none p2) pos) (tEv X.K T C (.slice a b c)) :=
  (pe_slice sl_any ha hb hc).imp fun σ H Q h => by
    obtain ⟨ρ, Z, st, env, d, st', rs, re, h, k⟩ := h
    simp only [ev, Option.bind_eq_some_iff] at h
    obtain ⟨⟨x, st1⟩, h1, ⟨lo, st2⟩, h2, ⟨hi, st3⟩, h3, h4⟩ := h
    refine tEv.go rs re h1 fun ρ' Z' H' v f r' e' q => ?_
    refine ⟨ρ', Z', st1, env, lo, st2, r', e', h2, fun ρ2 Z2 H2 f2 r2 => ?_⟩
    refine ⟨ρ2, Z2, st2, env, hi, st3, r2, e'.mono r'.sub f2, h3, fun ρ3 Z3 H3 f3 r3 => ?_⟩
    have f23 := f2.trans f3
    exact slice_ok r3 (Rep.mono r'.sub f23 _ _ q) h4 fun H4 w f4 r4 q4 => k _ _ _ _ ((f.trans f23).trans f4) r4 q4
theorem reps_rev {K : PySem.W.Frag} {ρ : List Addr} {Z : Addr → Prop} {H : Hp} {ds : List D} {vs : List V} (h : Reps K ρ Z H ds vs) : Reps K ρ Z H ds.reverse vs.reverse := by
  obtain ⟨l1, l2⟩ := reps_iff.mp h
  refine .of_get (by simp [l1]) fun i d v e1 e2 => ?_
  have hi : i < ds.length := by have := (List.getElem?_eq_some_iff.mp e1).1; simpa using this
  rw [List.getElem?_reverse hi] at e1
  rw [List.getElem?_reverse (by rw [← l1]; exact hi), ← l1] at e2
  exact l2 _ d v e1 e2
theorem s_rev {j : Nat} {p1 p2 p3 : Pos} (ha : PE X e (tEv X.K T C a)) : PE X (.Subscript e (.Slice none none (some (.UnaryOp .USub (.Constant (.int 1) j p1) p2)) p3) pos) (tEv X.K T C (.rev a)) := (pe_revQ ha).imp fun σ H Q h => by
  obtain ⟨ρ, Z, st, env, d, st', rs, re, h, k⟩ := h
  simp only [ev, Option.bind_eq_some_iff] at h
  obtain ⟨⟨x, st1⟩, h1, h2⟩ := h
  refine tEv.go rs re h1 fun ρ' Z' H' v f r' e' q => ?_
  have lists : ∀ {ds : List D}, lstOf st1 x = some ds → (D.lst ds.reverse, st1) = (d, st') → (∃ a xs, v = .ref a ∧ SqL X.K H' a xs ∧ ∀ p, H' p = none → Q (.ref p) (upd H' p (.lst xs.reverse))) := fun {ds} hl h3 => by
    cases h3
    obtain ⟨p, vs, rfl, a1, a2⟩ := rep_lst r' q hl
    refine ⟨p, vs, rfl, .inl (.inl a1), fun n hn => ?_⟩
    refine k _ _ _ _ (f.trans (fr_new hn)) (r'.new hn) ?_
    simp only [Rep]
    exact ⟨n, _, rfl, ⟨upd_same, r'.free hn⟩, Reps.mono r'.sub (fr_new hn) _ _ (reps_rev a2)⟩
  have h2 : revD x st1 = some (d, st') := h2
  cases x with
  | tup ds =>
    cases h2
    obtain ⟨p, vs, rfl, a1, a2⟩ := rep_tup q
    exact .inr ⟨p, vs, rfl, a1, fun n hn => k _ _ _ _ (f.trans (fr_new hn)) (r'.new hn) (rep_newT r' hn (reps_rev a2))⟩
  | _ =>
    simp only [revD, Option.map_eq_some_iff] at h2
    obtain ⟨ds, hl, h3⟩ := h2
    exact .inl (lists hl h3)
/-! ### calls -/
theorem sp_call {f : Str} {ds : List D} {vs : List V} {d : D} {ρ : List Addr} {Z : Addr → Prop} {st st' : Store} {H : Hp} {Q : VK} (rs : RelS X.K T ρ Z st H) (q : Reps X.K ρ Z H ds vs) (h : C.call f ds st = some (d, st'))
    (k : ∀ ρ' Z' H' v, Fr ρ Z H ρ' Z' H' → RelS X.K T ρ' Z' st' H' → Rep X.K ρ' Z' H' d v → Q v H') : spC X.K T (C.call f) vs H Q E0 := ⟨ρ, Z, st, ds, d, st', rs, q, h, k⟩
theorem s_call {f : Str} {p : Pos} (G : Good g C T k L X) (hf : (f, xs.length) ∈ g.fns) (hg : glB L.sc f = true) (hs : es.all (fun e => !starP e) = true) (h : All2 (SA X T C) xs es) :
    PE X (.Call (.Name f p) es [] pos) (tEv X.K T C (.call f xs)) := by
  obtain ⟨ad, fd, ps, h1, h2, h3, h4, h5⟩ := G.fns _ hf
  obtain ⟨g1, g2, g3⟩ := glB_ok G hg
  have imp : ∀ (σ : L2.St) (H : Hp) (Q : VK), tEv X.K T C (.call f xs) σ H Q → tCall (spC X.K T (C.call f)) [] E0 (tEvL X.K T C xs) σ H Q := fun σ H Q h => by
    obtain ⟨ρ, Z, st, env, d, st', rs, re, h, k⟩ := h
    simp only [ev, Option.bind_eq_some_iff] at h
    obtain ⟨⟨ds, st1⟩, h1, h2⟩ := h
    refine ⟨ρ, Z, st, env, ds, st1, rs, re, h1, fun ρ' Z' H' vs f1 r' q => ?_⟩
    show spC X.K T (C.call f) (vs ++ []) H' Q E0
    rw [List.append_nil]
    exact sp_call r' q h2 fun ρ2 Z2 H2 v f2 r2 q2 => k _ _ _ _ (f1.trans f2) r2 q2
  cases h with
  | nil =>
    refine (pe_call0 h2 G.room g1 h1 h3 h4 .nil pass0 g2).imp fun σ H Q h => ?_
    have q := imp σ H Q h
    obtain ⟨ρ, Z, st, env, d, st', rs, re, h, k⟩ := q
    simp only [evL] at h
    cases h
    exact k _ _ _ _ .refl rs .nil
  | @cons x e xs es a t =>
    simp only [List.all_cons, Bool.and_eq_true, Bool.not_eq_true'] at hs
    exact (pe_call h2 G.room g1 h1 h3 h4 .nil pass0 (pa_all (.cons a t)) g2 (star_plain hs.1) (stars_none hs.2)).imp imp
/-- a built-in function, a built-in class -/
theorem s_bi {f : Bi} {m : Bool} {p : Pos} {r : List V → Hp → VK → Prop} (G : Good g C T k L X) (hb : (f.name : Str) ∈ blts) (hg : glB L.sc f.name = true) (hs : es.all (fun e => !starP e) = true) (hn : es ≠ []) (h : All2 (SA X T C) xs es)
    (hc : (bootBuiltins f.name = some (.builtin f.name) ∧ CallR X (.builtin f.name) r) ∨ (bootBuiltins f.name = some (.type f.name) ∧ CallR X (.type f.name) r))
    (ok : ∀ {ρ : List Addr} {Z : Addr → Prop} {st st' : Store} {H : Hp} {ds : List D} {d : D} {vs : List V} {Q : VK}, RelS X.K T ρ Z st H → Reps X.K ρ Z H ds vs → biD f m ds st = some (d, st') →
      (∀ ρ' Z' H' v, Fr ρ Z H ρ' Z' H' → RelS X.K T ρ' Z' st' H' → Rep X.K ρ' Z' H' d v → Q v H') → r vs H Q) :
    PE X (.Call (.Name f.name p) es [] pos) (tEv X.K T C (.bi f m xs)) := by
  obtain ⟨g1, g2, g3⟩ := glB_ok G hg
  have imp : ∀ (σ : L2.St) (H : Hp) (Q : VK), tEv X.K T C (.bi f m xs) σ H Q → tCB r (tEvL X.K T C xs) σ H Q := fun σ H Q h => by
    obtain ⟨ρ, Z, st, env, d, st', rs, re, h, k⟩ := h
    simp only [ev, Option.bind_eq_some_iff] at h
    obtain ⟨⟨ds, st1⟩, h1, h2⟩ := h
    exact ⟨ρ, Z, st, env, ds, st1, rs, re, h1, fun ρ' Z' H' vs f r' q => ok r' q h2 fun ρ2 Z2 H2 v f2 r2 q2 => k _ _ _ _ (f.trans f2) r2 q2⟩
  cases h with
  | nil => exact absurd rfl hn
  | @cons x e xs es a t =>
    simp only [List.all_cons, Bool.and_eq_true, Bool.not_eq_true'] at hs
    rcases hc with ⟨hv, hc⟩ | ⟨hv, hc⟩
    · exact (pe_callB hc g1 (G.blt _ hb) hv (pa_all (.cons a t)) g3 g2 (star_plain hs.1) (stars_none hs.2)).imp imp
    · exact (pe_callTy hc g1 (G.blt _ hb) hv (pa_all (.cons a t)) g3 g2 (star_plain hs.1) (stars_none hs.2)).imp imp
end
end Q

/-! QSnd3: the built-ins by values; isinstance; methods. -/
namespace Q
open PySem PySem.Spec PyProof.Rows L2

/-! ### sorted texts -/
theorem str_eq {x y : Str} (h : x.cps.toList = y.cps.toList) : x = y := by
  cases x; cases y
  congr 1
  exact Array.toList_inj.mp h
theorem leS_total (x y : Str) : leS x y = true ∨ leS y x = true := by
  unfold leS
  by_cases h : y.cps.toList < x.cps.toList
  · right
    have : ¬ x.cps.toList < y.cps.toList := List.lt_asymm h
    simp [this]
  · left; simp [h]
theorem leS_anti {x y : Str} (h : leS x y = true) (k : leS y x = true) : x = y := by
  unfold leS at h k
  simp only [Bool.not_eq_true', decide_eq_false_iff_not] at h k
  exact str_eq (List.le_antisymm h k)
theorem leS_trans {x y z : Str} (h : leS x y = true) (k : leS y z = true) : leS x z = true := by
  unfold leS at h k ⊢
  simp only [Bool.not_eq_true', decide_eq_false_iff_not] at h k ⊢
  exact List.le_trans (α := Nat) h k
theorem insS_perm (x : Str) : ∀ l : List Str, (insS x l).Perm (x :: l)
  | [] => .refl _
  | y :: l => by
    unfold insS
    split
    · exact .refl _
    · exact ((insS_perm x l).cons y).trans (.swap x y l)
theorem sortS_perm : ∀ l : List Str, (sortS l).Perm l
  | [] => .refl _
  | x :: l => (insS_perm x _).trans ((sortS_perm l).cons x)
theorem insS_sorted (x : Str) : ∀ l : List Str, l.Pairwise (fun a b => leS a b = true) → (insS x l).Pairwise (fun a b => leS a b = true)
  | [], _ => by simp [insS]
  | y :: l, h => by
    unfold insS
    rw [List.pairwise_cons] at h
    split
    · rename_i hxy
      rw [List.pairwise_cons]
      refine ⟨fun z hz => ?_, by rw [List.pairwise_cons]; exact h⟩
      rcases List.mem_cons.mp hz with rfl | hz
      · exact hxy
      · exact leS_trans hxy (h.1 z hz)
    · rename_i hxy
      have hyx : leS y x = true := by
        rcases leS_total x y with q | q
        · exact absurd q hxy
        · exact q
      rw [List.pairwise_cons]
      refine ⟨fun z hz => ?_, insS_sorted x l h.2⟩
      rcases List.mem_cons.mp ((insS_perm x l).mem_iff.mp hz) with rfl | hz
      · exact hyx
      · exact h.1 z hz
theorem sortS_sorted : ∀ l : List Str, (sortS l).Pairwise (fun a b => leS a b = true)
  | [] => .nil
  | x :: l => insS_sorted x _ (sortS_sorted l)
theorem sorted_uniq : ∀ {a b : List Str}, a.Perm b → a.Pairwise (fun a b => leS a b = true) → b.Pairwise (fun a b => leS a b = true) → a = b
  | [], b, p, _, _ => (List.nil_perm.mp p).symm
  | x :: a, [], p, _, _ => by have := p.length_eq; simp at this
  | x :: a, y :: b, p, ha, hb => by
    rw [List.pairwise_cons] at ha hb
    have e : x = y := by
      rcases List.mem_cons.mp (p.mem_iff.mp (List.mem_cons_self (a := x))) with e | hx
      · exact e
      · rcases List.mem_cons.mp (p.mem_iff.mpr (List.mem_cons_self (a := y))) with e | hy
        · exact e.symm
        · exact leS_anti (ha.1 y hy) (hb.1 x hx)
    subst e
    rw [sorted_uniq (List.Perm.cons_inv p) ha.2 hb.2]
theorem risingS_ok : ∀ {r : List Str} {p : Str}, risingS p r = true → (p :: r).Pairwise (fun a b => leS a b = true)
  | [], p, _ => by simp
  | x :: r, p, h => by
    simp only [risingS, Bool.and_eq_true] at h
    have ih := risingS_ok h.2
    rw [List.pairwise_cons]
    refine ⟨fun z hz => ?_, ih⟩
    have hpx : leS p x = true := by
      have q := h.1
      simp only [Bool.not_eq_true'] at q
      unfold leS; rw [le_meets, q]; rfl
    rcases List.mem_cons.mp hz with rfl | hz
    · exact hpx
    · exact leS_trans hpx ((List.pairwise_cons.mp ih).1 z hz)
theorem sortedS_ok {l : List Str} (h : sortedS l = true) : l.Pairwise (fun a b => leS a b = true) := by
  cases l with
  | nil => exact .nil
  | cons x r => exact risingS_ok h
theorem sort_is {ys xs : List Str} (p : ys.Perm xs) (s : sortedS ys = true) : ys = sortS xs := sorted_uniq (p.trans (sortS_perm xs).symm) (sortedS_ok s) (sortS_sorted xs)
theorem maxI_is : ∀ {ns : List Int} {m : Int}, m ∈ ns → (∀ y ∈ ns, y ≤ m) → m = maxI ns
  | [x], m, h, _ => by simp at h; rw [h]; rfl
  | x :: y :: ns, m, h, k => by
    show m = max x (maxI (y :: ns))
    have mem : ∀ (l : List Int), l ≠ [] → maxI l ∈ l ∧ ∀ z ∈ l, z ≤ maxI l := by
      intro l
      induction l with
      | nil => intro h; exact absurd rfl h
      | cons a l ih =>
        intro _
        cases l with
        | nil => simp [maxI]
        | cons b l =>
          obtain ⟨i1, i2⟩ := ih (by simp)
          show max a (maxI (b :: l)) ∈ _ ∧ ∀ z ∈ _, z ≤ max a (maxI (b :: l))
          refine ⟨?_, fun z hz => ?_⟩
          · rcases Int.le_total a (maxI (b :: l)) with q | q
            · rw [Int.max_eq_right q]; exact List.mem_cons_of_mem _ i1
            · rw [Int.max_eq_left q]; exact List.mem_cons_self
          · rcases List.mem_cons.mp hz with rfl | hz
            · omega
            · have := i2 z hz; omega
    obtain ⟨a1, a2⟩ := mem (x :: y :: ns) (by simp)
    have b1 := k _ a1
    have b2 := a2 m h
    show m = maxI (x :: y :: ns)
    omega
theorem minI_is : ∀ {ns : List Int} {m : Int}, m ∈ ns → (∀ y ∈ ns, m ≤ y) → m = minI ns
  | [x], m, h, _ => by simp at h; rw [h]; rfl
  | x :: y :: ns, m, h, k => by
    have mem : ∀ (l : List Int), l ≠ [] → minI l ∈ l ∧ ∀ z ∈ l, minI l ≤ z := by
      intro l
      induction l with
      | nil => intro h; exact absurd rfl h
      | cons a l ih =>
        intro _
        cases l with
        | nil => simp [minI]
        | cons b l =>
          obtain ⟨i1, i2⟩ := ih (by simp)
          show min a (minI (b :: l)) ∈ _ ∧ ∀ z ∈ _, min a (minI (b :: l)) ≤ z
          refine ⟨?_, fun z hz => ?_⟩
          · rcases Int.le_total a (minI (b :: l)) with q | q
            · rw [Int.min_eq_left q]; exact List.mem_cons_self
            · rw [Int.min_eq_right q]; exact List.mem_cons_of_mem _ i1
          · rcases List.mem_cons.mp hz with rfl | hz
            · omega
            · have := i2 z hz; omega
    obtain ⟨a1, a2⟩ := mem (x :: y :: ns) (by simp)
    have b1 := k _ a1
    have b2 := a2 m h
    omega

section
variable {g : Sig} {C : Ctx} {T : List (Addr × Str)} {kk : Nat} {L : Lv} {X : Cx}
variable {ρ : List Addr} {Z : Addr → Prop} {st st' : Store} {H : Hp} {ds : List D} {d : D} {vs : List V} {Q : VK} {m : Bool} {xs : List _root_.Q.X} {es : List Expr} {pos p : Pos}
theorem reps1 {K : PySem.W.Frag} {d : D} {vs : List V} (h : Reps K ρ Z H [d] vs) : ∃ v, vs = [v] ∧ Rep K ρ Z H d v := by
  simp only [Reps] at h
  obtain ⟨v, r, rfl, h, rfl⟩ := h
  exact ⟨v, rfl, h⟩
theorem reps2 {K : PySem.W.Frag} {d e : D} {vs : List V} (h : Reps K ρ Z H [d, e] vs) : ∃ v u, vs = [v, u] ∧ Rep K ρ Z H d v ∧ Rep K ρ Z H e u := by
  simp only [Reps] at h
  obtain ⟨v, r, rfl, h, u, r2, rfl, h2, rfl⟩ := h
  exact ⟨v, u, rfl, h, h2⟩
def BiOk (X : Cx) (T : List (Addr × Str)) (f : Bi) (m : Bool) (r : List V → Hp → VK → Prop) : Prop :=
  ∀ {ρ : List Addr} {Z : Addr → Prop} {st st' : Store} {H : Hp} {ds : List D} {d : D} {vs : List V} {Q : VK}, RelS X.K T ρ Z st H → Reps X.K ρ Z H ds vs → biD f m ds st = some (d, st') →
      (∀ ρ' Z' H' v, Fr ρ Z H ρ' Z' H' → RelS X.K T ρ' Z' st' H' → Rep X.K ρ' Z' H' d v → Q v H') → r vs H Q
theorem one_of {f : Bi} (hf : ∀ (m : Bool) (a b : D) (l : List D) (st : Store), biD f m (a :: b :: l) st = none) (h0 : ∀ (m : Bool) (st : Store), biD f m [] st = none) (h : biD f m ds st = some (d, st')) : ∃ x, ds = [x] := by
  rcases ds with _ | ⟨x, _ | ⟨y, l⟩⟩
  · rw [h0] at h; cases h
  · exact ⟨x, rfl⟩
  · rw [hf] at h; cases h
theorem bi_len : BiOk X T .len m (fun xs H Q => (∃ z, xs = [.str z] ∧ z.length ≤ sizeLine ∧ Q (.int z.length) H) ∨ ∃ p ys, xs = [.ref p] ∧ (SqL X.K H p ys ∨ SqT X.K H p ys) ∧ Q (.int ys.length) H) := by
  intro ρ Z st st' H ds d vs Q rs q h k
  obtain ⟨x, rfl⟩ := one_of (fun _ _ _ _ _ => rfl) (fun _ _ => rfl) h
  have h : (lenD st x).map (fun n => (D.int n, st)) = some (d, st') := h
  obtain ⟨n, h1, h2⟩ := Option.map_eq_some_iff.mp h
  cases h2
  obtain ⟨v, rfl, hv⟩ := reps1 q
  unfold lenD at h1
  split at h1
  · rename_i z
    split at h1
    · rename_i hl
      cases h1
      simp only [Rep] at hv
      obtain ⟨rfl, _⟩ := hv
      exact .inl ⟨_, rfl, hl, k _ _ _ _ .refl rs (by simp [Rep])⟩
    · cases h1
  · obtain ⟨ys, h3, h4⟩ := Option.map_eq_some_iff.mp h1
    obtain ⟨a, us, rfl, a1, a2⟩ := rep_seq rs hv h3
    refine .inr ⟨a, us, rfl, a1, k _ _ _ _ .refl rs ?_⟩
    simp only [Rep]
    rw [← a2.len, h4]
theorem bi_int : BiOk X T .int m (fun xs H Q => ((∃ i, xs = [.int i] ∧ Q (.int i) H) ∨ ∃ k, xs = [.bl k] ∧ Q (.int (if k then 1 else 0)) H) ∨ ∃ a n, xs = [.str a] ∧ PySem.intText? a = some n ∧ a.length ≤ 640 ∧ Q (.int n) H) := by
  intro ρ Z st st' H ds d vs Q rs q h k
  obtain ⟨x, rfl⟩ := one_of (fun _ _ _ _ _ => rfl) (fun _ _ => rfl) h
  have h : (intD x).map (fun n => (D.int n, st)) = some (d, st') := h
  obtain ⟨n, h1, h2⟩ := Option.map_eq_some_iff.mp h
  cases h2
  obtain ⟨v, rfl, hv⟩ := reps1 q
  cases x <;> simp only [intD] at h1 <;> simp only [Rep] at hv
  case bl b => cases h1; subst hv; exact .inl (.inr ⟨_, rfl, k _ _ _ _ .refl rs (by simp [Rep])⟩)
  case int b => cases h1; subst hv; exact .inl (.inl ⟨_, rfl, k _ _ _ _ .refl rs (by simp [Rep])⟩)
  case str z =>
    obtain ⟨rfl, _⟩ := hv
    split at h1
    · rename_i hl
      exact .inr ⟨_, n, rfl, h1, hl, k _ _ _ _ .refl rs (by simp [Rep])⟩
    · cases h1
  all_goals cases h1
theorem bi_bool : BiOk X T .bool m (fun xs H Q => (∃ i, xs = [.int i] ∧ Q (.bl (i != 0)) H) ∨ ∃ k, xs = [.bl k] ∧ Q (.bl k) H) := by
  intro ρ Z st st' H ds d vs Q rs q h k
  obtain ⟨x, rfl⟩ := one_of (fun _ a b l st => by cases a <;> rfl) (fun _ _ => rfl) h
  obtain ⟨v, rfl, hv⟩ := reps1 q
  cases x <;> simp only [biD] at h <;> cases h
  simp only [Rep] at hv
  subst hv
  exact .inr ⟨_, rfl, k _ _ _ _ .refl rs (by simp [Rep])⟩
theorem bi_abs : BiOk X T .abs m (fun xs H Q => ∃ i, xs = [.int i] ∧ Q (.int (if i < 0 then -i else i)) H) := by
  intro ρ Z st st' H ds d vs Q rs q h k
  obtain ⟨x, rfl⟩ := one_of (fun _ a b l st => by cases a <;> rfl) (fun _ _ => rfl) h
  obtain ⟨v, rfl, hv⟩ := reps1 q
  cases x <;> simp only [biD] at h <;> cases h
  simp only [Rep] at hv
  subst hv
  exact ⟨_, rfl, k _ _ _ _ .refl rs (by simp [Rep])⟩
theorem two_of {f : Bi} {e : List Int → Int} {c : Int → Int → Int} (hb : ∀ (m : Bool) (st : Store) (a : D), biD f m [a] st = (extD e st a).map fun n => (D.int n, st)) (h2 : ∀ (m : Bool) (st : Store) (i j : Int), biD f m [.int i, .int j] st = some (.int (c i j), st))
    (h0 : ∀ (m : Bool) (st : Store), biD f m [] st = none) (h3 : ∀ (m : Bool) (a b x : D) (l : List D) (st : Store), biD f m (a :: b :: x :: l) st = none)
    (hn : ∀ (m : Bool) (a b : D) (st : Store), (∀ i j, a = .int i → b ≠ .int j) → biD f m [a, b] st = none) (h : biD f m ds st = some (d, st')) :
    (∃ x n, ds = [x] ∧ extD e st x = some n ∧ d = .int n ∧ st' = st) ∨ ∃ i j, ds = [.int i, .int j] ∧ d = .int (c i j) ∧ st' = st := by
  rcases ds with _ | ⟨x, _ | ⟨y, _ | ⟨z, l⟩⟩⟩
  · rw [h0] at h; cases h
  · rw [hb] at h
    obtain ⟨n, h4, h5⟩ := Option.map_eq_some_iff.mp h
    cases h5
    exact .inl ⟨x, n, rfl, h4, rfl, rfl⟩
  · by_cases q : ∃ i j, x = .int i ∧ y = .int j
    · obtain ⟨i, j, rfl, rfl⟩ := q
      rw [h2] at h
      cases h
      exact .inr ⟨i, j, rfl, rfl, rfl⟩
    · rw [hn _ _ _ _ (fun i j e1 e2 => q ⟨i, j, e1, e2⟩)] at h; cases h
  · rw [h3] at h; cases h
theorem ext_ok {e : List Int → Int} {x : D} {n : Int} {v : V} (rs : RelS X.K T ρ Z st H) (hv : Rep X.K ρ Z H x v) (h : extD e st x = some n) : ∃ a ns, v = .ref a ∧ SqL X.K H a (ns.map V.int) ∧ 0 < ns.length ∧ n = e ns := by
  unfold extD at h
  simp only [Option.bind_eq_some_iff] at h
  obtain ⟨ys, h1, ns, h2, h3⟩ := h
  split at h3
  · cases h3
  · rename_i hne
    cases h3
    obtain ⟨a, us, rfl, a1, a2⟩ := rep_lst rs hv h1
    rw [a2.eq_ints h2] at a1
    exact ⟨a, ns, rfl, .inl (.inl a1), List.length_pos_iff.mpr hne, rfl⟩
theorem bi_max : BiOk X T .max m (fun xs H Q => (∃ i j, xs = [.int i, .int j] ∧ Q (.int (if j > i then j else i)) H) ∨ rMax X.K xs H Q) := by
  intro ρ Z st st' H ds d vs Q rs q h k
  rcases two_of (c := fun i j => if j > i then j else i) (fun m st a => by cases a <;> rfl) (fun _ _ _ _ => rfl) (fun _ _ => rfl) (fun _ a b _ _ _ => by cases a <;> cases b <;> rfl)
    (fun _ a b _ hh => by cases a <;> cases b <;> first | rfl | exact absurd rfl (hh _ _ rfl)) h with ⟨x, n, rfl, h1, rfl, rfl⟩ | ⟨i, j, rfl, rfl, rfl⟩
  · obtain ⟨v, rfl, hv⟩ := reps1 q
    obtain ⟨a, ns, rfl, a1, a2, rfl⟩ := ext_ok rs hv h1
    refine .inr ⟨a, ns, rfl, a1, a2, fun m hm hl => ?_⟩
    rw [maxI_is hm hl]
    exact k _ _ _ _ .refl rs (by simp [Rep])
  · obtain ⟨v, u, rfl, hv, hu⟩ := reps2 q
    simp only [Rep] at hv hu
    subst hv hu
    exact .inl ⟨i, j, rfl, k _ _ _ _ .refl rs (by simp [Rep])⟩
theorem bi_min : BiOk X T .min m (fun xs H Q => (∃ i j, xs = [.int i, .int j] ∧ Q (.int (if j < i then j else i)) H) ∨ rMin X.K xs H Q) := by
  intro ρ Z st st' H ds d vs Q rs q h k
  rcases two_of (c := fun i j => if j < i then j else i) (fun m st a => by cases a <;> rfl) (fun _ _ _ _ => rfl) (fun _ _ => rfl) (fun _ a b _ _ _ => by cases a <;> cases b <;> rfl)
    (fun _ a b _ hh => by cases a <;> cases b <;> first | rfl | exact absurd rfl (hh _ _ rfl)) h with ⟨x, n, rfl, h1, rfl, rfl⟩ | ⟨i, j, rfl, rfl, rfl⟩
  · obtain ⟨v, rfl, hv⟩ := reps1 q
    obtain ⟨a, ns, rfl, a1, a2, rfl⟩ := ext_ok rs hv h1
    refine .inr ⟨a, ns, rfl, a1, a2, fun m hm hl => ?_⟩
    rw [minI_is hm hl]
    exact k _ _ _ _ .refl rs (by simp [Rep])
  · obtain ⟨v, u, rfl, hv, hu⟩ := reps2 q
    simp only [Rep] at hv hu
    subst hv hu
    exact .inl ⟨i, j, rfl, k _ _ _ _ .refl rs (by simp [Rep])⟩
theorem bi_all : BiOk X T .all m (rAll X.K) := by
  intro ρ Z st st' H ds d vs Q rs q h k
  obtain ⟨x, rfl⟩ := one_of (fun _ a b l st => rfl) (fun _ _ => rfl) h
  obtain ⟨v, rfl, hv⟩ := reps1 q
  simp only [biD, Option.bind_eq_some_iff, Option.map_eq_some_iff] at h
  obtain ⟨ys, h1, bs, h2, h3⟩ := h
  cases h3
  obtain ⟨a, us, rfl, a1, a2⟩ := rep_lst rs hv h1
  rw [a2.eq_bls h2] at a1
  exact ⟨a, bs, rfl, .inl (.inl a1), k _ _ _ _ .refl rs (by simp [Rep])⟩
theorem bi_any : BiOk X T .any m (rAny X.K) := by
  intro ρ Z st st' H ds d vs Q rs q h k
  obtain ⟨x, rfl⟩ := one_of (fun _ a b l st => rfl) (fun _ _ => rfl) h
  obtain ⟨v, rfl, hv⟩ := reps1 q
  simp only [biD, Option.bind_eq_some_iff, Option.map_eq_some_iff] at h
  obtain ⟨ys, h1, bs, h2, h3⟩ := h
  cases h3
  obtain ⟨a, us, rfl, a1, a2⟩ := rep_lst rs hv h1
  rw [a2.eq_bls h2] at a1
  exact ⟨a, bs, rfl, .inl (.inl a1), k _ _ _ _ .refl rs (by simp [Rep])⟩
theorem seq_lst (rs : RelS X.K T ρ Z st H) {x : D} {v : V} (hv : Rep X.K ρ Z H x v) {ys : List D} (h : seqOf st x = some ys) : ∃ a us, v = .ref a ∧ ((SqL X.K H a us ∧ ∀ zs, x ≠ .tup zs) ∨ (SqT X.K H a us ∧ x = .tup ys)) ∧ Reps X.K ρ Z H ys us := by
  cases x
  case tup zs =>
    simp only [seqOf] at h
    cases h
    obtain ⟨a, us, rfl, a1, a2⟩ := rep_tup hv
    exact ⟨a, us, rfl, .inr ⟨a1, rfl⟩, a2⟩
  case lst zs =>
    obtain ⟨a, us, rfl, a1, a2⟩ := rep_lst (st := st) rs hv (ds := ys) h
    exact ⟨a, us, rfl, .inl ⟨.inl (.inl a1), fun _ q => nomatch q⟩, a2⟩
  case loc n =>
    obtain ⟨a, us, rfl, a1, a2⟩ := rep_lst (st := st) rs hv (ds := ys) h
    exact ⟨a, us, rfl, .inl ⟨.inl (.inl a1), fun _ q => nomatch q⟩, a2⟩
  all_goals (simp only [seqOf] at h; cases h)
theorem bi_tuple : BiOk X T .tuple m (fun xs H Q => ∃ p ys, xs = [.ref p] ∧ ((SqL X.K H p ys ∧ ∀ l, H l = none → Q (.ref l) (upd H l (.tup ys))) ∨ (SqT X.K H p ys ∧ Q (.ref p) H))) := by
  intro ρ Z st st' H ds d vs Q rs q h k
  obtain ⟨x, rfl⟩ := one_of (fun _ a b l st => rfl) (fun _ _ => rfl) h
  obtain ⟨v, rfl, hv⟩ := reps1 q
  simp only [biD, Option.bind_eq_some_iff] at h
  obtain ⟨ys, h1, h2⟩ := h
  unfold mkT at h2
  split at h2
  · cases h2
    obtain ⟨a, us, rfl, a1, a2⟩ := seq_lst rs hv h1
    rcases a1 with ⟨a1, _⟩ | ⟨a1, rfl⟩
    · exact ⟨a, us, rfl, .inl ⟨a1, fun l hl => k _ _ _ _ (fr_new hl) (rs.new hl) (rep_newT rs hl a2)⟩⟩
    · exact ⟨a, us, rfl, .inr ⟨a1, k _ _ _ _ .refl rs hv⟩⟩
  · cases h2
theorem unkey_rep : ∀ {kvs : List (Key × D)} {ws : List (Key × V)}, KReps X.K ρ Z H kvs ws → Reps X.K ρ Z H (kvs.map fun kv => unkey kv.1) (ws.map fun kv => kV kv.1)
  | [], ws, h => by rw [h.unnil]; exact .nil
  | p :: kvs, ws, h => by
    obtain ⟨w, r, rfl, h1, h3, hz, h4⟩ := h.uncons
    simp only [List.map_cons]
    refine .cons ?_ (unkey_rep h4)
    rw [← h1]
    cases hp : p.1 with
    | inl i => simp [unkey, kV, Rep]
    | inr z => simp only [unkey, kV, Rep]; exact ⟨trivial, hz z hp⟩
theorem bi_list : BiOk X T .list m (fun xs H Q => (∃ p ys, xs = [.ref p] ∧ (SqL X.K H p ys ∨ SqT X.K H p ys) ∧ ∀ l, H l = none → Q (.ref l) (upd H l (.lst ys))) ∨
    ∃ (a : Addr) (kvs : List (Key × V)), xs = [.ref a] ∧ Rd H a (.dK kvs) ∧ ∀ p, H p = none → Q (.ref p) (upd H p (.lst (kvs.map fun kv => kV kv.1)))) := by
  intro ρ Z st st' H ds d vs Q rs q h k
  obtain ⟨x, rfl⟩ := one_of (fun _ a b l st => rfl) (fun _ _ => rfl) h
  obtain ⟨v, rfl, hv⟩ := reps1 q
  have h : listD m st x = some (d, st') := h
  unfold listD at h
  split at h
  · simp only [Rep] at hv
    obtain ⟨a, rfl, hv⟩ := hv
    refine .inl ⟨a, _, rfl, .inl ?_, fun l hl => mkL_ok rs hl (Reps.ints _) h k⟩
    rcases hv with ⟨o, hv⟩ | hv | hv
    · exact .inl (.inr ⟨o, hv⟩)
    · exact .inr hv
    · exact .inl (.inl hv.1)
  · split at h
    · rename_i ys hy
      obtain ⟨a, us, rfl, a1, a2⟩ := rep_seq rs hv hy
      exact .inl ⟨a, us, rfl, a1, fun l hl => mkL_ok rs hl a2 h k⟩
    · obtain ⟨kvs, h1, h2⟩ := Option.bind_eq_some_iff.mp h
      obtain ⟨a, ws, rfl, a1, a2⟩ := rep_dct rs hv h1
      exact .inr ⟨a, ws, rfl, a1, fun l hl => mkL_ok rs hl (unkey_rep a2) h2 k⟩
theorem bi_sorted : BiOk X T .sorted m (rSortedS X.K) := by
  intro ρ Z st st' H ds d vs Q rs q h k
  obtain ⟨x, rfl⟩ := one_of (fun _ a b l st => rfl) (fun _ _ => rfl) h
  obtain ⟨v, rfl, hv⟩ := reps1 q
  simp only [biD, Option.bind_eq_some_iff] at h
  obtain ⟨ys, h1, ss, h2, h3⟩ := h
  split at h3
  · rename_i hl
    obtain ⟨a, us, rfl, a1, a2⟩ := rep_lst rs hv h1
    obtain ⟨e, so⟩ := a2.eq_strs h2
    rw [e] at a1
    refine ⟨a, ss, rfl, .inl (.inl a1), hl, fun zs p pm so2 hp => ?_⟩
    rw [sort_is pm so2]
    exact mkL_ok rs hp (Reps.strs fun z hz => so z ((sortS_perm ss).mem_iff.mp hz)) h3 k
  · cases h3
/-- every built-in -/
theorem s_builtin {f : Bi} (G : Good g C T kk L X) (hg : glB L.sc f.name = true) (hs : es.all (fun e => !starP e) = true) (hn : es ≠ []) (h : All2 (SA X T C) xs es) : PE X (.Call (.Name f.name p) es [] pos) (tEv X.K T C (.bi f m xs)) := by
  cases f
  case len => exact s_bi G (by decide) hg hs hn h (.inl ⟨PySem.boot_len, CallR.or call_len_str call_len_seq⟩) bi_len
  case int => exact s_bi G (by decide) hg hs hn h (.inr ⟨PyProof.Rows.boot_int, CallR.or call_int1 call_int_str⟩) bi_int
  case bool => exact s_bi G (by decide) hg hs hn h (.inr ⟨PyProof.Rows.boot_bool, call_bool1⟩) bi_bool
  case abs => exact s_bi G (by decide) hg hs hn h (.inl ⟨PyProof.Rows.boot_abs, call_abs⟩) bi_abs
  case max => exact s_bi G (by decide) hg hs hn h (.inl ⟨PyProof.Rows.boot_max, CallR.or (call_max2 G.calm) (cr_max G.calm)⟩) bi_max
  case min => exact s_bi G (by decide) hg hs hn h (.inl ⟨PyProof.Rows.boot_min, CallR.or (call_min2 G.calm) (cr_min G.calm)⟩) bi_min
  case all => exact s_bi G (by decide) hg hs hn h (.inl ⟨PyProof.Rows.boot_all, cr_all G.calm⟩) bi_all
  case any => exact s_bi G (by decide) hg hs hn h (.inl ⟨PyProof.Rows.boot_any, cr_any G.calm⟩) bi_any
  case tuple => exact s_bi G (by decide) hg hs hn h (.inr ⟨PyProof.Rows.boot_tuple, call_tuple_of⟩) bi_tuple
  case list => exact s_bi G (by decide) hg hs hn h (.inr ⟨PyProof.Rows.boot_list, CallR.or call_list_of (call_listD G.calm)⟩) bi_list
  case sorted => exact s_bi G (by decide) hg hs hn h (.inl ⟨PyProof.Rows.boot_sorted, cr_sortedS⟩) bi_sorted

/-! ### list(range(n)), isinstance -/
variable {e : Expr} {a : _root_.Q.X}
theorem s_lrange {p2 pos2 : Pos} (G : Good g C T kk L X) (hl : glB L.sc "list" = true) (hr : glB L.sc "range" = true) (hs : starP e = false) (ha : PE X e (tEv X.K T C a)) :
    PE X (.Call (.Name "list" p) [.Call (.Name "range" p2) [e] [] pos2] [] pos) (tEv X.K T C (.lrange m a)) := by
  refine (pe_listRg G.calm (glB_ok G hl).1 (G.blt _ (by decide)) (prg_1 (glB_ok G hr).1 (G.blt _ (by decide)) ha (star_plain hs))).imp fun σ H Q h => ?_
  obtain ⟨ρ, Z, st, env, d, st', rs, re, h, k⟩ := h
  simp only [ev, Option.bind_eq_some_iff] at h
  obtain ⟨⟨x, st1⟩, h1, h2⟩ := h
  refine tEv.go rs re h1 fun ρ' Z' H' v f r' e' q => ?_
  cases x <;> simp only at h2
  case int j =>
    split at h2
    · rename_i hj
      simp only [Rep] at q
      subst q
      refine ⟨j, rfl, ?_, fun l hl => ?_⟩
      · exact RgOk.of_le (by decide) (by omega) (by decide) hj.1
      · refine mkL_ok r' hl (ds := rangeD 0 j) ?_ h2 fun ρ2 Z2 H2 w f2 r2 q2 => k _ _ _ _ (f.trans f2) r2 q2
        unfold rangeD rgV
        refine .of_get (by simp) fun i d v e1 e2 => ?_
        rw [List.getElem?_map] at e1 e2
        cases hi : (List.range (j - 0).toNat)[i]? with
        | none => rw [hi] at e1; cases e1
        | some n => rw [hi] at e1 e2; cases e1; cases e2; simp [Rep]
    · cases h2
  all_goals cases h2
end
end Q

/-! QSnd4: isinstance; methods of lists and dicts. -/
namespace Q
open PySem PySem.Spec PyProof.Rows L2

def tys5 : List String := ["bool", "int", "str", "tuple", "list"]
def tys6 : List String := ["NoneType", "bool", "int", "str", "tuple", "list"]
theorem kit_all : ∀ t ∈ tys6, ∀ u ∈ tys5, kitB t u = some (isTy t u) := by decide +kernel
theorem boot_tys : ∀ u ∈ tys5, bootBuiltins (u : Str) = some (.type u) := by decide +kernel
theorem blts_tys : ∀ u ∈ tys5, (u : Str) ∈ blts := by decide
theorem kit_any {K : PySem.W.Frag} {t : String} (ht : t ∈ tys6) : ∀ {us : List String}, (∀ u ∈ us, u ∈ tys5) → PySem.W.kitAny K (.type t) (us.map Value.type) = some (us.any fun u => isTy t u)
  | [], _ => kitAny_nil
  | u :: us, h => by
    have h1 := kit_ty (K := K) (kit_all t ht u (h u List.mem_cons_self))
    have ih := kit_any (K := K) ht (us := us) (fun z hz => h z (List.mem_cons_of_mem _ hz))
    simp only [List.map_cons, List.any_cons]
    refine kitAny_cons h1 (fun e => ?_) (fun e => ?_)
    · rw [ih, e]; rfl
    · rw [e]; rfl
section
variable {g : Sig} {C : Ctx} {T : List (Addr × Str)} {kk : Nat} {L : Lv} {X : Cx} {ρ : List Addr} {Z : Addr → Prop} {st st' : Store} {H : Hp} {e : Expr} {a : _root_.Q.X} {pos p p2 p3 : Pos}
theorem ty_rep (rs : RelS X.K T ρ Z st H) {d : D} {v : V} {t : String} (h : Rep X.K ρ Z H d v) (ht : tyOf st d = some t) : TyX X.K H v (.type t) ∧ t ∈ tys6 := by
  cases d <;> simp only [tyOf] at ht
  case non => cases ht; simp only [Rep] at h; subst h; exact ⟨.base .non, by decide⟩
  case bl => cases ht; simp only [Rep] at h; subst h; exact ⟨.base (.bl _), by decide⟩
  case int => cases ht; simp only [Rep] at h; subst h; exact ⟨.base (.int _), by decide⟩
  case str => cases ht; simp only [Rep] at h; obtain ⟨rfl, _⟩ := h; exact ⟨.base (.str _), by decide⟩
  case tup =>
    cases ht
    simp only [Rep] at h
    obtain ⟨a, vs, rfl, h1, _⟩ := h
    rcases h1 with ⟨h1, _⟩ | ⟨o, its, n, h1, h2, _⟩
    · exact ⟨.base (.tup h1), by decide⟩
    · exact ⟨.kTuple h1 h2, by decide⟩
  case lst =>
    cases ht
    simp only [Rep] at h
    obtain ⟨a, vs, rfl, ⟨h1, _⟩, _⟩ := h
    exact ⟨.base (.lst h1), by decide⟩
  case loc n =>
    simp only [Rep] at h
    obtain ⟨a, rfl, h1⟩ := h
    obtain ⟨so, h2, h3⟩ := rs.at h1
    rw [h2] at ht
    cases so <;> simp only at ht <;> cases ht
    obtain ⟨vs, h4, _⟩ := h3
    exact ⟨.base (.lst h4), by decide⟩
  case frz => cases ht
theorem isa_ok {us : List String} {d : D} {b : Bool} (h : isaD st us d = some b) : (∀ u ∈ us, u ∈ tys5) ∧ ∃ t, tyOf st d = some t ∧ b = us.any fun u => isTy t u := by
  unfold isaD at h
  split at h
  · rename_i ho
    obtain ⟨t, h1, h2⟩ := Option.map_eq_some_iff.mp h
    refine ⟨fun u hu => ?_, t, h1, h2.symm⟩
    have q := List.all_eq_true.mp ho u hu
    simp only [Bool.or_eq_true, beq_iff_eq] at q
    rcases q with (((rfl | rfl) | rfl) | rfl) | rfl <;> decide
  · cases h
theorem pe_ty {u : String} (G : Good g C T kk L X) (hu : u ∈ tys5) (hg : glB L.sc u = true) : PE X (.Name u p) (tC (.ty u)) :=
  pe_bltn (glB_ok G hg).1 (G.blt _ (blts_tys u hu)) (boot_tys u hu) rfl (glB_ok G hg).2.2 (glB_ok G hg).2.1
theorem s_isa1 {u : String} (G : Good g C T kk L X) (hi : glB L.sc "isinstance" = true) (hu : u ∈ tys5) (hg : glB L.sc u = true) (hs : starP e = false) (ha : PE X e (tEv X.K T C a)) :
    PE X (.Call (.Name "isinstance" p) [e, .Name u p2] [] pos) (tEv X.K T C (.isa [u] a)) := by
  refine (pe_callB call_isi (glB_ok G hi).1 (G.blt _ (by decide)) PyProof.Rows.boot_isinstance (pa_cons ha (pa_cons (pe_ty G hu hg) pa_nil (by rfl)) (star_plain hs)) (glB_ok G hi).2.2 (glB_ok G hi).2.1 (star_plain hs) (by rfl)).imp fun σ H Q h => ?_
  obtain ⟨ρ, Z, st, env, d, st', rs, re, h, k⟩ := h
  simp only [ev, Option.bind_eq_some_iff, Option.map_eq_some_iff] at h
  obtain ⟨⟨x, st1⟩, h1, b, h2, h3⟩ := h
  cases h3
  obtain ⟨_, t, h4, h5⟩ := isa_ok h2
  refine tEv.go rs re h1 fun ρ' Z' H' v f r' e' q => ?_
  obtain ⟨q1, q2⟩ := ty_rep r' q h4
  refine ⟨v, .ty u, .type t, .type u, isTy t u, rfl, .ty u, q1, kit_ty (kit_all t q2 u hu), ?_⟩
  have : b = isTy t u := by rw [h5]; simp
  rw [← this]
  exact k _ _ _ _ f r' (by simp [Rep])
theorem s_isa2 {u w : String} {j : Nat} {p4 : Pos} (G : Good g C T kk L X) (hi : glB L.sc "isinstance" = true) (hu : u ∈ tys5) (hg : glB L.sc u = true) (hw : w ∈ tys5) (hg2 : glB L.sc w = true) (hs : starP e = false) (ha : PE X e (tEv X.K T C a)) :
    PE X (.Call (.Name "isinstance" p) [e, .Tuple [.Name u p2, .Name w p3] j p4] [] pos) (tEv X.K T C (.isa [u, w] a)) := by
  refine (pe_callB call_isiT (glB_ok G hi).1 (G.blt _ (by decide)) PyProof.Rows.boot_isinstance (pa_cons ha (pa_cons (pe_tup (pa_cons (pe_ty G hu hg) (pa_cons (pe_ty G hw hg2) pa_nil (by rfl)) (by rfl))) pa_nil (by rfl)) (star_plain hs)) (glB_ok G hi).2.2 (glB_ok G hi).2.1 (star_plain hs) (by rfl)).imp fun σ H Q h => ?_
  obtain ⟨ρ, Z, st, env, d, st', rs, re, h, k⟩ := h
  simp only [ev, Option.bind_eq_some_iff, Option.map_eq_some_iff] at h
  obtain ⟨⟨x, st1⟩, h1, b, h2, h3⟩ := h
  cases h3
  obtain ⟨_, t, h4, h5⟩ := isa_ok h2
  refine tEv.go rs re h1 fun ρ' Z' H' v f r' e' q => ?_
  refine ⟨by show 2 ≤ sizeLine; decide, fun n hn => ?_⟩
  have fn := fr_new (ρ := ρ') (Z := Z') (o := .tup [.ty u, .ty w]) hn
  obtain ⟨q1, q2⟩ := ty_rep (r'.new (o := .tup [.ty u, .ty w]) hn) (Rep.mono r'.sub fn _ _ q) h4
  refine ⟨v, n, [.ty u, .ty w], .type t, [.type u, .type w], [u, w].any fun u => isTy t u, rfl, upd_same, .cons (.ty u) (.cons (.ty w) .nil), q1, kit_any q2 (us := [u, w]) (by simp [hu, hw]), ?_⟩
  rw [← h5]
  exact k _ _ _ _ (f.trans fn) (r'.new hn) (by simp [Rep])
/-! ### methods -/
def recvP : Expr → Bool
  | .Name _ _ => true
  | .Constant _ _ _ => true
  | _ => false
theorem recv_base {o : Expr} {m : Str} {env : PySem.Env} (h : recvP o = true) : attributeBase o m env (eval o env) = eval o env := by
  cases o <;> first | rfl | (simp [recvP] at h)
theorem few1 {e : Expr} {env : PySem.Env} {cpos : Pos} (h : starP e = false) : ((backTo cpos (starEach [e] env)).all (fun x => !x.1) && (backToKw cpos (keywordEach [] env)).all (fun x => x.1.isSome)
    && decide (([e] : List Expr).length + ([] : List Keyword).length + (if ([] : List Keyword).isEmpty then 0 else 1) < 30)) = true := by
  rw [star_plain h]; rfl
theorem few2 {e e' : Expr} {env : PySem.Env} {cpos : Pos} (h : starP e = false) (h' : starP e' = false) : ((backTo cpos (starEach [e, e'] env)).all (fun x => !x.1) && (backToKw cpos (keywordEach [] env)).all (fun x => x.1.isSome)
    && decide (([e, e'] : List Expr).length + ([] : List Keyword).length + (if ([] : List Keyword).isEmpty then 0 else 1) < 30)) = true := by
  rw [star_plain h, star_plain h']; rfl
theorem m1_ok {o e : Expr} {m : Str} {apos cpos : Pos} (ho : recvP o = true) (he : starP e = false) (hl : (apos.endLine == cpos.line) = true) : M1 X o m apos e cpos := ⟨recv_base ho, few1 he, hl, by rw [star_plain he]; rfl⟩
theorem setP {n : Nat} {so so' : SO} (h : st[n]? = some so) : n < st.length := (List.getElem?_eq_some_iff.mp h).1
variable {o : Expr} {b : _root_.Q.X} {apos cpos : Pos}
theorem ml_ty (rs : RelS X.K T ρ Z st H) {f : Me} {d : D} {v : V} (hf : f ≠ .popK ∧ f ≠ .get) (h : Rep X.K ρ Z H d v) (ho : meOk f d st = true) : tyV X.K "list" v H := by
  have : ∃ n, d = .loc n ∧ (lstOf st d).isSome = true := by
    unfold meOk at ho
    split at ho
    · exact absurd rfl hf.1
    · exact absurd rfl hf.2
    · split at ho
      · exact ⟨_, rfl, ho⟩
      · cases ho
  obtain ⟨n, rfl, hl⟩ := this
  obtain ⟨ds, hd⟩ := Option.isSome_iff_exists.mp hl
  obtain ⟨a, vs, rfl, a1, a2⟩ := rep_lst rs h hd
  exact .inl ⟨rfl, vs, .inl (.inl a1)⟩
theorem loc_lst (rs : RelS X.K T ρ Z st H) {n : Nat} {v : V} {ds : List D} (h : Rep X.K ρ Z H (.loc n) v) (e : st[n]? = some (.lst ds)) : ∃ a vs, v = .ref a ∧ ρ[n]? = some a ∧ H a = some (.lst vs) ∧ Reps X.K ρ Z H ds vs := by
  simp only [Rep] at h
  obtain ⟨a, rfl, h1⟩ := h
  obtain ⟨vs, h2, h3⟩ := rs.obj n a _ h1 e
  exact ⟨a, vs, rfl, h1, h2, h3⟩
theorem loc_dct (rs : RelS X.K T ρ Z st H) {n : Nat} {v : V} {kvs : List (Key × D)} (h : Rep X.K ρ Z H (.loc n) v) (e : st[n]? = some (.dct kvs)) : ∃ a ws, v = .ref a ∧ ρ[n]? = some a ∧ H a = some (.dK ws) ∧ KReps X.K ρ Z H kvs ws := by
  simp only [Rep] at h
  obtain ⟨a, rfl, h1⟩ := h
  obtain ⟨vs, h2, h3⟩ := rs.obj n a _ h1 e
  exact ⟨a, vs, rfl, h1, h2, h3⟩
/-- a list written at its place -/
theorem put_lst (rs : RelS X.K T ρ Z st H) {n : Nat} {a : Addr} {vs us : List V} {es : List D} (h1 : ρ[n]? = some a) (h2 : H a = some (.lst vs)) (h3 : Reps X.K ρ Z H es us) :
    Fr ρ Z H ρ Z (upd H a (.lst us)) ∧ RelS X.K T ρ Z (st.set n (.lst es)) (upd H a (.lst us)) := by
  have nf : ∀ o u, H a ≠ some (.frz o u) := fun o u e => by rw [h2] at e; cases e
  have f := fr_write (ρ := ρ) (Z := Z) (o := .lst us) (List.mem_of_getElem? h1) ⟨_, h2⟩ nf
  exact ⟨f, rs.write h1 nf ⟨us, upd_same, Reps.mono rs.sub f _ _ h3⟩⟩
theorem put_dct (rs : RelS X.K T ρ Z st H) {n : Nat} {a : Addr} {ws us : List (Key × V)} {es : List (Key × D)} (h1 : ρ[n]? = some a) (h2 : H a = some (.dK ws)) (h3 : KReps X.K ρ Z H es us) :
    Fr ρ Z H ρ Z (upd H a (.dK us)) ∧ RelS X.K T ρ Z (st.set n (.dct es)) (upd H a (.dK us)) := by
  have nf : ∀ o u, H a ≠ some (.frz o u) := fun o u e => by rw [h2] at e; cases e
  have f := fr_write (ρ := ρ) (Z := Z) (o := .dK us) (List.mem_of_getElem? h1) ⟨_, h2⟩ nf
  exact ⟨f, rs.write h1 nf ⟨us, upd_same, KReps.mono rs.sub f h3⟩⟩
theorem s_append (ha : PE X o (tEv X.K T C a)) (hb : PE X e (tEv X.K T C b)) (hr : recvP o = true) (hs : starP e = false) (hl : (apos.endLine == cpos.line) = true) (hx : starX b = false) :
    PE X (.Call (.Attribute o "append" apos) [e] [] cpos) (tEv X.K T C (.meth .append a [b])) := by
  refine (pe_bm PySem.F.plainAttrs_list PySem.F.slot_list_append PySem.F.type_list_append mt_append ha (pa_cons hb pa_nil (star_plain hs)) (recv_base hr) (few1 hs) hl (star_plain hs) (by rfl)).imp fun σ H Q h => ?_
  obtain ⟨ρ, Z, st, env, d, st', rs, re, h, k⟩ := h
  simp only [ev, Option.bind_eq_some_iff] at h
  obtain ⟨⟨x, st1⟩, h1, h2⟩ := h
  split at h2
  · rename_i ok
    rw [evL_cons hx] at h2
    simp only [evL, Option.bind_eq_some_iff, Option.map_eq_some_iff] at h2
    obtain ⟨⟨ds, st2⟩, ⟨⟨y, st3⟩, h3, ⟨w, st4⟩, h4, h5⟩, h6⟩ := h2
    cases h4; cases h5
    refine tEv.go rs re h1 fun ρ1 Z1 H1 v f1 r1 e1 q1 => ⟨ml_ty r1 (by decide) q1 ok, ?_⟩
    refine tEv.go r1 e1 h3 fun ρ2 Z2 H2 u f2 r2 e2 q2 => ?_
    have q1' := Rep.mono r1.sub f2 _ _ q1
    unfold methD at h6
    cases x <;> simp only at h6
    case loc n =>
      split at h6
      · rename_i xs hx
        split at h6
        · rename_i hz
          cases h6
          obtain ⟨p, vs, rfl, a1, a2, a3⟩ := loc_lst r2 q1' hx
          obtain ⟨f3, r3⟩ := put_lst r2 a1 a2 (a3.append (.cons q2 .nil))
          exact ⟨p, vs, u, rfl, rfl, a2, by rw [← a3.len]; exact hz, k _ _ _ _ ((f1.trans f2).trans f3) r3 (by simp [Rep])⟩
        · cases h6
      · cases h6
    all_goals cases h6
  · cases h2
theorem s_pop (ha : PE X o (tEv X.K T C a)) (hb : PE X e (tEv X.K T C b)) (hr : recvP o = true) (hs : starP e = false) (hl : (apos.endLine == cpos.line) = true) (hx : starX b = false) :
    PE X (.Call (.Attribute o "pop" apos) [e] [] cpos) (tEv X.K T C (.meth .pop a [b])) := by
  refine (pe_bm PySem.F.plainAttrs_list PySem.F.slot_list_pop PySem.F.type_list_pop mt_popAt ha (pa_cons hb pa_nil (star_plain hs)) (recv_base hr) (few1 hs) hl (star_plain hs) (by rfl)).imp fun σ H Q h => ?_
  obtain ⟨ρ, Z, st, env, d, st', rs, re, h, k⟩ := h
  simp only [ev, Option.bind_eq_some_iff] at h
  obtain ⟨⟨x, st1⟩, h1, h2⟩ := h
  split at h2
  · rename_i ok
    rw [evL_cons hx] at h2
    simp only [evL, Option.bind_eq_some_iff, Option.map_eq_some_iff] at h2
    obtain ⟨⟨ds, st2⟩, ⟨⟨y, st3⟩, h3, ⟨w, st4⟩, h4, h5⟩, h6⟩ := h2
    cases h4; cases h5
    refine tEv.go rs re h1 fun ρ1 Z1 H1 v f1 r1 e1 q1 => ⟨ml_ty r1 (by decide) q1 ok, ?_⟩
    refine tEv.go r1 e1 h3 fun ρ2 Z2 H2 u f2 r2 e2 q2 => ?_
    have q1' := Rep.mono r1.sub f2 _ _ q1
    unfold methD at h6
    cases x <;> simp only at h6
    case loc n =>
      cases y <;> simp only at h6
      case int i =>
        split at h6
        · rename_i xs hx
          split at h6
          · rename_i hlim
            simp only [Option.bind_eq_some_iff, Option.map_eq_some_iff] at h6
            obtain ⟨j, h7, z, h8, h9⟩ := h6
            cases h9
            simp only [Rep] at q2
            subst q2
            obtain ⟨p, vs, rfl, a1, a2, a3⟩ := loc_lst r2 q1' hx
            obtain ⟨zv, b1, b2⟩ := a3.get h8
            obtain ⟨f3, r3⟩ := put_lst r2 a1 a2 (a3.erase j)
            obtain ⟨c1, c2, c3, c4⟩ := ixN_seq h7
            have hm := of_decide_eq_true hlim
            exact ⟨p, vs, i, j, zv, rfl, rfl, a2, by omega, by omega, by rw [← a3.len]; exact c1, b1, k _ _ _ _ ((f1.trans f2).trans f3) r3 (Rep.mono r2.sub f3 _ _ b2)⟩
          · cases h6
        · cases h6
      all_goals cases h6
    all_goals cases h6
  · cases h2
theorem md_ty (rs : RelS X.K T ρ Z st H) {f : Me} {d : D} {v : V} (hf : f = .popK ∨ f = .get) (h : Rep X.K ρ Z H d v) (ho : meOk f d st = true) : ∃ a, v = .ref a ∧ IsD H a := by
  have hd : (dctOf st d).isSome = true := by rcases hf with rfl | rfl <;> exact ho
  obtain ⟨kvs, hk⟩ := Option.isSome_iff_exists.mp hd
  obtain ⟨a, ws, rfl, a1, a2⟩ := rep_dct rs h hk
  exact ⟨a, rfl, .inl ⟨ws, a1⟩⟩
theorem s_popK (ha : PE X o (tEv X.K T C a)) (hb : PE X e (tEv X.K T C b)) (hr : recvP o = true) (hs : starP e = false) (hl : (apos.endLine == cpos.line) = true) (hx : starX b = false) :
    PE X (.Call (.Attribute o "pop" apos) [e] [] cpos) (tEv X.K T C (.meth .popK a [b])) := by
  refine (pe_dpop1 ha hb (m1_ok hr hs hl)).imp fun σ H Q h => ?_
  obtain ⟨ρ, Z, st, env, d, st', rs, re, h, k⟩ := h
  simp only [ev, Option.bind_eq_some_iff] at h
  obtain ⟨⟨x, st1⟩, h1, h2⟩ := h
  split at h2
  · rename_i ok
    rw [evL_cons hx] at h2
    simp only [evL, Option.bind_eq_some_iff, Option.map_eq_some_iff] at h2
    obtain ⟨⟨ds, st2⟩, ⟨⟨y, st3⟩, h3, ⟨w, st4⟩, h4, h5⟩, h6⟩ := h2
    cases h4; cases h5
    refine tEv.go rs re h1 fun ρ1 Z1 H1 v f1 r1 e1 q1 => ?_
    obtain ⟨ad, rfl, isd⟩ := md_ty r1 (.inl rfl) q1 ok
    refine ⟨ad, rfl, isd, ?_⟩
    refine tEv.go r1 e1 h3 fun ρ2 Z2 H2 u f2 r2 e2 q2 => ?_
    have q1' := Rep.mono r1.sub f2 _ _ q1
    unfold methD at h6
    cases x <;> simp only at h6
    case loc n =>
      split at h6
      · rename_i kvs hk
        simp only [Option.bind_eq_some_iff, Option.map_eq_some_iff] at h6
        obtain ⟨ky, h7, z, h8, h9⟩ := h6
        cases h9
        obtain ⟨p, ws, e1, a1, a2, a3⟩ := loc_dct r2 q1' hk
        cases e1
        obtain ⟨zv, b1, b2⟩ := (valV_rep (k := ky) a3).1 _ h8
        obtain ⟨f3, r3⟩ := put_dct r2 a1 a2 (drop_rep (k := ky) a3)
        exact ⟨ws, ky, zv, a2, rep_key q2 h7, b1, k _ _ _ _ ((f1.trans f2).trans f3) r3 (Rep.mono r2.sub f3 _ _ b2)⟩
      · cases h6
    all_goals cases h6
  · cases h2
theorem s_get (G : Good g C T kk L X) (ha : PE X o (tEv X.K T C a)) (hb : PE X e (tEv X.K T C b)) (hr : recvP o = true) (hs : starP e = false) (hl : (apos.endLine == cpos.line) = true) (hx : starX b = false) :
    PE X (.Call (.Attribute o "get" apos) [e] [] cpos) (tEv X.K T C (.meth .get a [b])) := by
  refine (pe_dget1 G.u1 ha hb (m1_ok hr hs hl)).imp fun σ H Q h => ?_
  obtain ⟨ρ, Z, st, env, d, st', rs, re, h, k⟩ := h
  simp only [ev, Option.bind_eq_some_iff] at h
  obtain ⟨⟨x, st1⟩, h1, h2⟩ := h
  split at h2
  · rename_i ok
    rw [evL_cons hx] at h2
    simp only [evL, Option.bind_eq_some_iff, Option.map_eq_some_iff] at h2
    obtain ⟨⟨ds, st2⟩, ⟨⟨y, st3⟩, h3, ⟨w, st4⟩, h4, h5⟩, h6⟩ := h2
    cases h4; cases h5
    refine tEv.go rs re h1 fun ρ1 Z1 H1 v f1 r1 e1 q1 => ?_
    obtain ⟨ad, rfl, isd⟩ := md_ty r1 (.inr rfl) q1 ok
    refine ⟨ad, rfl, isd, ?_⟩
    refine tEv.go r1 e1 h3 fun ρ2 Z2 H2 u f2 r2 e2 q2 => ?_
    have q1' := Rep.mono r1.sub f2 _ _ q1
    simp only [methD, Option.bind_eq_some_iff, Option.map_eq_some_iff] at h6
    obtain ⟨kvs, h7, ky, h8, h9⟩ := h6
    cases h9
    obtain ⟨p, ws, e1, a1, a2⟩ := rep_dct r2 q1' h7
    cases e1
    obtain ⟨c1, c2⟩ := valV_rep (k := ky) a2
    refine ⟨valV ws ky, .inl ⟨ws, ky, a1, rep_key q2 h8, rfl⟩, ?_⟩
    cases hd : dget kvs ky with
    | none =>
      rw [c2 hd]
      refine k _ _ _ _ (f1.trans f2) r2 ?_
      rw [hd]; simp [Rep]
    | some z =>
      obtain ⟨zv, b1, b2⟩ := c1 z hd
      rw [b1]
      refine k _ _ _ _ (f1.trans f2) r2 ?_
      rw [hd]; exact b2
  · cases h2
variable {e2 : Expr} {b2 : _root_.Q.X}
theorem s_insert (ha : PE X o (tEv X.K T C a)) (hb : PE X e (tEv X.K T C b)) (hb2 : PE X e2 (tEv X.K T C b2)) (hr : recvP o = true) (hs : starP e = false) (hs2 : starP e2 = false) (hl : (apos.endLine == cpos.line) = true) (hx : starX b = false) (hx2 : starX b2 = false) :
    PE X (.Call (.Attribute o "insert" apos) [e, e2] [] cpos) (tEv X.K T C (.meth .insert a [b, b2])) := by
  refine (pe_bm PySem.F.plainAttrs_list PySem.F.slot_list_insert PySem.F.type_list_insert mt_insert ha (pa_cons hb (pa_cons hb2 pa_nil (star_plain hs2)) (star_plain hs)) (recv_base hr) (few2 hs hs2) hl (star_plain hs) (stars_none (by simp [hs2]))).imp fun σ H Q h => ?_
  obtain ⟨ρ, Z, st, env, d, st', rs, re, h, k⟩ := h
  simp only [ev, Option.bind_eq_some_iff] at h
  obtain ⟨⟨x, st1⟩, h1, h2⟩ := h
  split at h2
  · rename_i ok
    rw [evL_cons hx] at h2
    simp only [Option.bind_eq_some_iff, Option.map_eq_some_iff] at h2
    obtain ⟨⟨ds, st2⟩, ⟨⟨y, st3⟩, h3, ⟨w, st4⟩, h4, h5⟩, h6⟩ := h2
    rw [evL_cons hx2] at h4
    simp only [evL, Option.bind_eq_some_iff, Option.map_eq_some_iff] at h4
    obtain ⟨⟨y2, st5⟩, h7, ⟨w2, st6⟩, h8, h9⟩ := h4
    cases h8; cases h9; cases h5
    refine tEv.go rs re h1 fun ρ1 Z1 H1 v f1 r1 e1 q1 => ⟨ml_ty r1 (by decide) q1 ok, ?_⟩
    refine tEv.go r1 e1 h3 fun ρ2 Z2 H2 u f2 r2 e2 q2 => tEv.go r2 e2 h7 fun ρ3 Z3 H3 u2 f3 r3 e3 q3 => ?_
    have f23 := f2.trans f3
    have q1' := Rep.mono r1.sub f23 _ _ q1
    have q2' := Rep.mono r2.sub f3 _ _ q2
    unfold methD at h6
    cases x <;> simp only at h6
    case loc n =>
      cases y <;> simp only at h6
      case int i =>
        split at h6
        · rename_i xs hx
          split at h6
          · rename_i hz
            cases h6
            simp only [Rep] at q2'
            subst q2'
            obtain ⟨p, vs, rfl, a1, a2, a3⟩ := loc_lst r3 q1' hx
            obtain ⟨f4, r4⟩ := put_lst r3 a1 a2 (((a3.take i.toNat).append (.cons q3 .nil)).append (a3.drop i.toNat))
            exact ⟨p, vs, i, u2, rfl, rfl, a2, by rw [← a3.len]; exact hz.1, hz.2.1, hz.2.2, k _ _ _ _ ((f1.trans f23).trans f4) r4 (by simp [Rep])⟩
          · cases h6
        · cases h6
      all_goals cases h6
    all_goals cases h6
  · cases h2
end
end Q

/-! QLong: range(a, b) of any whole numbers. -/
namespace L2
open PySem PySem.Spec PyProof.Rows
theorem turn_long {P : Program} {w : World} {K : PySem.W.Frag} {tg : Expr} (it : Addr) (lo : Int) (n : Nat) : Turn P w K tg (Itr lo n) [it] it (fun i h => IsLongIter h it (lo + (i : Nat) * 1) ((n : Int) - (i : Nat)) 1) where
  mem := by simp
  obj := fun i h st b hb => by
    rcases List.mem_singleton.mp hb with rfl
    exact ⟨_, st, fun v z => nomatch z⟩
  keep := fun i h h' st k => k it (by simp) _ st
  item := by
    intro X hP hw hK hc i pins s σ H E I hf st hg
    subst hP hw hK
    obtain ⟨f0, f1, f2, f3, f4, f5⟩ := hf it (by simp)
    have W := Walks.longrange (prog := X.prog) (w := X.w) (I.ok.hd hc) it lo 1 n
    refine W.item i s _ _ hg st fun v h' tk hv st' kk => ?_
    obtain ⟨t, rfl⟩ := hv
    have J : Inv X pins σ H { s with heap := h', toks := tk } := I.turned (fun b o hb e => kk b o (by simpa using hb) e) f0 f1 f3 f4 f5
    refine ⟨_, rfl, go_of (s := { s with heap := h', toks := tk }) (n := "longrange_iterator") st' rfl rfl (by decide) ⟨.int (lo + i), H, J, ⟨t, ?_⟩, ⟨rfl, rfl⟩, st', fun b hb => (hf b hb).1⟩⟩
    rw [Int.mul_one]
  done := by
    intro X hP hw hK hc i pins s σ H E I hf st hg
    subst hP hw hK
    obtain ⟨f0, f1, f2, f3, f4, f5⟩ := hf it (by simp)
    exact wpAny_pyNext_long_end (I.ok.hd hc) st (by have : n ≤ i := hg; omega) fun h' eb => ⟨rfl, I.turned (t' := s.toks) (fun b o hb e => eb b o hb e) f0 f1 f3 f4 f5⟩
  self := fun _ _ _ _ _ st h => wpAny_pyIter_longiter st h
section
variable {X : Cx} {tg : Expr}
/-- a range object just made, of any size, walked -/
theorem range_any {pins : List (Addr × Obj)} {σ : St} {H : Hp} {s : Shared} {R : It → Hp → Prop} {E : Value → Shared → Prop} {lo hi : Int} {t u v : Tok} {tk : Nat} (I : Inv X pins σ H s)
    (q : R (Itr lo (hi - lo).toNat) H) : wpAny (model X.prog X.w) X.A (pyIter (.ref s.heap.objs.size)) (PIE X pins σ tg R) E { s with heap := s.heap.push { cls := .type "range", data := .fields #[.int lo t, .int hi u, .int 1 v] }, toks := tk } := by
  have J : Inv X pins σ H { s with heap := s.heap.push { cls := .type "range", data := .fields #[.int lo t, .int hi u, .int 1 v] }, toks := tk } := I.kept fun b o e => Heap.get?_push_of_some _ e
  have z1 : lo + ((0 : Nat) : Int) * 1 = lo := by simp
  have z2 : (((hi - lo).toNat : Nat) : Int) - ((0 : Nat) : Int) = Builtin.Range.rangeSize lo hi 1 := by rw [rangeSize_one]; split <;> omega
  cases sm : Builtin.Range.small lo hi 1 with
  | true =>
    refine wpAny_pyIter_range (IsRange.new ..) sm ?_
    refine ⟨(s.heap.push { cls := .type "range", data := .fields #[.int lo t, .int hi u, .int 1 v] }).objs.size, [_], _, _, H, rfl,
      J.kept (t' := tk) fun b o e => Heap.get?_push_of_some _ e, turn_range _ lo (hi - lo).toNat, ?_, fun b hb => ?_, q⟩
    · show IsRangeIter _ _ (lo + ((0 : Nat) : Int) * 1) ((((hi - lo).toNat : Nat) : Int) - ((0 : Nat) : Int)) 1
      rw [z1, z2]
      exact Heap.get?_push_size _ rfl
    · rcases List.mem_singleton.mp hb with rfl
      exact J.fpOk (Nat.le_refl _) (J.hok.fresh (Nat.le_refl _))
  | false =>
    refine wpAny_pyIter_longrange (IsRange.new ..) sm ?_
    refine ⟨(s.heap.push { cls := .type "range", data := .fields #[.int lo t, .int hi u, .int 1 v] }).objs.size, [_], _, _, H, rfl,
      J.kept (t' := tk) fun b o e => Heap.get?_push_of_some _ e, turn_long _ lo (hi - lo).toNat, ?_, fun b hb => ?_, q⟩
    · show IsLongIter _ _ (lo + ((0 : Nat) : Int) * 1) ((((hi - lo).toNat : Nat) : Int) - ((0 : Nat) : Int)) 1
      rw [z1, z2]
      exact Heap.get?_push_size _ rfl
    · rcases List.mem_singleton.mp hb with rfl
      exact J.fpOk (Nat.le_refl _) (J.hok.fresh (Nat.le_refl _))
def iRngA (ta : TA) : TI := fun σ H R => ta σ H fun vs H1 => ∃ i j : Int, vs = [.int i, .int j] ∧ R (Itr i (j - i).toNat) H1
theorem pi_rangeA {a b : Expr} {ta : TA} {p pos : Pos} (hg : Gl X "range") (hm : X.mg "range" = none) (ha : PA X [a, b] ta) (hs : starEach [a, b] X.env = [(false, eval a X.env), (false, eval b X.env)]) (hs2 : starEach [b] X.env = [(false, eval b X.env)]) :
    PI X tg (.Call (.Name "range" p) [a, b] [] pos) (iRngA ta) := by
  refine ⟨fun pins s0 σ H R I h => ?_⟩
  refine Call_ (ld_blt I hg hm boot_range (PyProof.Rows.callWith_type1 (thn (ha.run pos pins s0 σ H _ I h) fun us s1 ⟨vs, H1, I1, r1, q1⟩ => ?_) (by rw [hs, hs2]) (by rw [hs2]; rfl)))
  obtain ⟨i, j, rfl, q⟩ := q1
  cases r1 with
  | cons r rr =>
    cases rr with
    | cons r' rr =>
      cases rr
      obtain ⟨t, rfl⟩ := r
      obtain ⟨t', rfl⟩ := r'
      exact call_range_2 (range_any I1 q)
end
end L2

/-! QSnd5: targets of for and of comprehensions, what is walked, comprehensions. -/
namespace Q
open PySem PySem.Spec PyProof.Rows L2

/-- what a step keeps of the heap's reading -/
structure Here (K : PySem.W.Frag) (T : List (Addr × Str)) (ρ : List Addr) (Z : Addr → Prop) (st : Store) (H : Hp) (env : Env) (σ : L2.St) : Prop where
  rs : RelS K T ρ Z st H
  re : RelE K ρ Z H env σ

/-! ### targets -/
mutual
def tSlots : Tt → List Nat
  | .name i => [i]
  | .tup ts => tSlotsL ts
  | .sub _ _ => []
  | .subK _ _ => []
def tSlotsL : List Tt → List Nat
  | [] => []
  | t :: ts => tSlots t ++ tSlotsL ts
end
mutual
/-- the target is the tree's (names and tuples of names) -/
def okB (L : Lv) : Tt → Expr → Bool
  | .name i, .Name x _ => decide (L.N[i]? = some x) && ((L.fn x && locB L.sc x) || L.sc.names.lookup x == some .local)
  | .tup ts, .Tuple es _ _ => decide (ts.length = es.length) && okBs L ts es
  | _, _ => false
def okBs (L : Lv) : List Tt → List Expr → Bool
  | [], [] => true
  | t :: ts, e :: es => okB L t e && okBs L ts es
  | _, _ => false
end
def tBd (K : PySem.W.Frag) (t : Tt) : TG := fun v σ H Q => ∃ ρ Z env d env', (∀ a ∈ ρ, Z a) ∧ RelE K ρ Z H env σ ∧ Rep K ρ Z H d v ∧ bindT t d env = some env' ∧
  ∀ σ', RelE K ρ Z H env' σ' → σ'.length = σ.length → (∀ i, i ∉ tSlots t → σ'[i]? = σ[i]?) → Q σ' H
def tBds (K : PySem.W.Frag) (ts : List Tt) : TGs := fun vs σ H Q => ∃ ρ Z env ds env', (∀ a ∈ ρ, Z a) ∧ RelE K ρ Z H env σ ∧ Reps K ρ Z H ds vs ∧ bindTs ts ds env = some env' ∧
  ∀ σ', RelE K ρ Z H env' σ' → σ'.length = σ.length → (∀ i, i ∉ tSlotsL ts → σ'[i]? = σ[i]?) → Q σ' H
theorem _root_.L2.PG.imp {X : Cx} {e : Expr} {t t' : TG} (h : PG X e t) (i : ∀ v σ H Q, t' v σ H Q → t v σ H Q) : PG X e t' := ⟨fun pins s σ H x u Q I r hw => h.run pins s σ H x u Q I r (i x σ H Q hw)⟩
theorem _root_.L2.PGs.imp {X : Cx} {e : List Expr} {t t' : TGs} (h : PGs X e t) (i : ∀ v σ H Q, t' v σ H Q → t v σ H Q) : PGs X e t' := ⟨fun pins s σ H x u Q I r hw => h.run pins s σ H x u Q I r (i x σ H Q hw)⟩
theorem _root_.L2.PI.imp {X : Cx} {tg e : Expr} {t t' : TI} (h : PI X tg e t) (i : ∀ σ H R, t' σ H R → t σ H R) : PI X tg e t' := ⟨fun pins s σ H R I hw => h.run pins s σ H R I (i σ H R hw)⟩
theorem _root_.L2.PI.or {X : Cx} {tg e : Expr} {t t' : TI} (h : PI X tg e t) (h' : PI X tg e t') : PI X tg e (fun σ H R => t σ H R ∨ t' σ H R) := ⟨fun pins s σ H R I hw => by
  rcases hw with hw | hw
  · exact h.run pins s σ H R I hw
  · exact h'.run pins s σ H R I hw⟩
section
variable {g : Sig} {C : Ctx} {T : List (Addr × Str)} {kk : Nat} {L : Lv} {X : Cx}
theorem s_bname {i : Nat} {x : Str} {p : Pos} (G : Good g C T kk L X) (h : okB L (.name i) (.Name x p) = true) : PG X (.Name x p) (tBd X.K (.name i)) := by
  simp only [okB, Bool.and_eq_true, Bool.or_eq_true, decide_eq_true_eq, beq_iff_eq] at h
  obtain ⟨h1, h2⟩ := h
  have hloc : Loc X.env.scope x := by
    rw [G.sc]
    rcases h2 with h2 | h2
    · exact locB_ok h2.2
    · exact .inl h2
  have hf : X.fn x = true ∨ X.env.scope.names.lookup x = some .local := by
    rcases h2 with h2 | h2
    · exact .inl (G.fn x h2.1)
    · rw [G.sc]; exact .inr h2
  refine (pg_name (i := i) (by rw [G.hN]; exact G.nd) (by rw [G.hN]; exact h1) hloc hf).imp fun v σ H Q h => ?_
  obtain ⟨ρ, Z, env, d, env', sub, re, r, hb, k⟩ := h
  simp only [bindT] at hb
  split at hb
  · cases hb
    refine k _ (re.set r) (List.length_set) fun j hj => ?_
    rw [List.getElem?_set_ne (fun e => hj (by simp [tSlots, e]))]
  · cases hb
theorem okB_plain {L : Lv} {t : Tt} {e : Expr} (h : okB L t e = true) : starP e = false := by
  cases t <;> cases e <;> first | rfl | (simp [okB] at h)
theorem asg_cons {e : Expr} {es : List Expr} {env : PySem.Env} (h : starP e = false) : assignEach (e :: es) env = (false, assign e env) :: assignEach es env := by
  cases e <;> first | rfl | (simp [starP] at h)
theorem asg_len {env : PySem.Env} : ∀ {ts : List Tt} {es : List Expr}, okBs L ts es = true → (assignEach es env).length = es.length ∧ List.findIdx? (fun x => x.1) (assignEach es env) = none
  | [], es, h => by
    cases es <;> first | (simp [okBs] at h; done) | skip
    exact ⟨rfl, rfl⟩
  | t :: ts, es, h => by
    cases es <;> first | (simp [okBs] at h; done) | skip
    simp only [okBs, Bool.and_eq_true] at h
    obtain ⟨h1, h2⟩ := asg_len (env := env) h.2
    rw [asg_cons (okB_plain h.1)]
    exact ⟨by simp [h1], by simp [List.findIdx?_cons, h2]⟩
mutual
theorem s_bind (G : Good g C T kk L X) : ∀ (t : Tt) (e : Expr), okB L t e = true → PG X e (tBd X.K t)
  | .name i, e, h => by
    cases e <;> first | (simp [okB] at h; done) | skip
    exact s_bname G h
  | .tup ts, e, h => by
    cases e <;> first | (simp [okB] at h; done) | skip
    rename_i es j p
    simp only [okB, Bool.and_eq_true, decide_eq_true_eq] at h
    refine (pg_tup (n := es.length) G.calm (s_binds G ts es h.2) (asg_len h.2).1 (asg_len h.2).2).imp fun v σ H Q hh => ?_
    obtain ⟨ρ, Z, env, d, env', sub, re, r, hb, k⟩ := hh
    cases d <;> simp only [bindT] at hb
    case tup ds =>
      split at hb
      · rename_i hl
        obtain ⟨a, vs, rfl, a1, a2⟩ := rep_tup r
        exact ⟨a, vs, rfl, a1, by rw [← a2.len, hl, h.1], ρ, Z, env, ds, env', sub, re, a2, hb, k⟩
      · cases hb
    all_goals cases hb
  | .sub _ _, e, h => by simp [okB] at h
  | .subK _ _, e, h => by simp [okB] at h
theorem s_binds (G : Good g C T kk L X) : ∀ (ts : List Tt) (es : List Expr), okBs L ts es = true → PGs X es (tBds X.K ts)
  | [], es, h => by
    cases es <;> first | (simp [okBs] at h; done) | skip
    refine pgs_nil.imp fun vs σ H Q hh => ?_
    obtain ⟨ρ, Z, env, ds, env', sub, re, r, hb, k⟩ := hh
    cases ds <;> simp only [bindTs] at hb
    · cases hb
      simp only [Reps] at r
      exact ⟨r, k σ re rfl fun _ _ => rfl⟩
    · cases hb
  | t :: ts, es, h => by
    cases es <;> first | (simp [okBs] at h; done) | skip
    rename_i e es
    simp only [okBs, Bool.and_eq_true] at h
    refine (pgs_cons (s_bind G t e h.1) (s_binds G ts es h.2) (by rw [asg_cons (okB_plain h.1)]; rfl)).imp fun vs σ H Q hh => ?_
    obtain ⟨ρ, Z, env, ds, env', sub, re, r, hb, k⟩ := hh
    cases ds <;> simp only [bindTs] at hb
    · cases hb
    · rename_i d ds
      obtain ⟨env1, h1, h2⟩ := Option.bind_eq_some_iff.mp hb
      simp only [Reps] at r
      obtain ⟨v, rr, rfl, r1, r2⟩ := r
      refine ⟨v, rr, rfl, ρ, Z, env, d, env1, sub, re, r1, h1, fun σ1 re1 l1 s1 => ?_⟩
      refine ⟨ρ, Z, env1, ds, env', sub, re1, r2, h2, fun σ2 re2 l2 s2 => ?_⟩
      refine k σ2 re2 (l2.trans l1) fun i hi => ?_
      simp only [tSlotsL, List.mem_append, not_or] at hi
      rw [s2 i hi.2, s1 i hi.1]
end
theorem wipe_get (σ : L2.St) : ∀ (vs : List Nat) (i : Nat), i ∉ vs → (wipe σ vs)[i]? = σ[i]?
  | [], _, _ => rfl
  | v :: vs, i, h => by
    simp only [List.mem_cons, not_or] at h
    show ((wipe σ vs).set v none)[i]? = _
    rw [List.getElem?_set_ne (fun e => h.1 e.symm), wipe_get σ vs i h.2]
theorem wipe_in (σ : L2.St) : ∀ (vs : List Nat) (i : Nat), i ∈ vs → i < σ.length → (wipe σ vs)[i]? = some none
  | v :: vs, i, h, hl => by
    show ((wipe σ vs).set v none)[i]? = _
    by_cases e : v = i
    · subst e
      rw [List.getElem?_set_self (by rw [wipe_length]; exact hl)]
    · rw [List.getElem?_set_ne e]
      rcases List.mem_cons.mp h with h | h
      · exact absurd h.symm e
      · exact wipe_in σ vs i h hl
/-- binding one's own names again: nothing else has changed -/
theorem wipe_eq {σ σ' : L2.St} {vs ss : List Nat} (hs : ∀ i ∈ ss, i ∈ vs) (hl : σ'.length = (wipe σ vs).length) (h : ∀ i, i ∉ ss → σ'[i]? = (wipe σ vs)[i]?) : wipe σ' vs = wipe σ vs := by
  have hl' : σ'.length = σ.length := by rw [hl, wipe_length]
  refine List.ext_getElem? fun i => ?_
  by_cases hi : i ∈ vs
  · by_cases hlt : i < σ.length
    · rw [wipe_in σ vs i hi hlt, wipe_in σ' vs i hi (by omega)]
    · rw [List.getElem?_eq_none (by rw [wipe_length]; omega), List.getElem?_eq_none (by rw [wipe_length]; omega)]
  · rw [wipe_get σ' vs i hi, h i (fun z => hi (hs i z))]

/-! ### what is walked -/
/-- at the heap H and behind it, as long as the guard holds, J gives the items ds -/
def Src (K : PySem.W.Frag) (T : List (Addr × Str)) (ρ : List Addr) (Z : Addr → Prop) (H : Hp) (J : L2.It) (gd : Option (Nat × List D)) (ds : List D) : Prop :=
  ∀ ρ' Z' st' H', Fz ρ Z H ρ' Z' H' → RelS K T ρ' Z' st' H' → guardOk gd st' = true → (∀ i, i < ds.length → J.go i H') ∧ J.stop ds.length H' ∧
    ∀ i x H'', i < ds.length → J.yld i H' x H'' → ∃ d, ds[i]? = some d ∧ Fr ρ' Z' H' ρ' Z' H'' ∧ RelS K T ρ' Z' st' H'' ∧ Rep K ρ' Z' H'' d x
def tIt (K : PySem.W.Frag) (T : List (Addr × Str)) (C : Ctx) (it : Q.It) : TI := fun σ H R => ∃ ρ Z st env gd ds st', RelS K T ρ Z st H ∧ RelE K ρ Z H env σ ∧ evIt C it env st = some (gd, ds, st') ∧
  ∀ ρ' Z' H' J, Fr ρ Z H ρ' Z' H' → RelS K T ρ' Z' st' H' → Src K T ρ' Z' H' J gd ds → R J H'
variable {ρ : List Addr} {Z : Addr → Prop} {st : Store} {H : Hp}
theorem src_list {a : Addr} {vs : List V} {ds : List D} (h : H a = some (.lst vs) ∧ ¬ Z a) (r : Reps X.K ρ Z H ds vs) : Src X.K T ρ Z H (Itl X.K a) none ds := by
  intro ρ' Z' st' H' f rs _
  have h1 : H' a = some (.lst vs) := f.keep a _ h.1 h.2 (fun _ z => nomatch z)
  have q : SqL X.K H' a vs := .inl (.inl h1)
  have r' := Reps.mz f _ _ r
  refine ⟨fun i hi => ⟨vs, vs[i]'(by rw [← r.len]; exact hi), q, by simp⟩, ⟨vs, q, by rw [r.len]; exact Nat.le_refl _⟩, fun i x H'' hi hy => ?_⟩
  obtain ⟨rfl, hx⟩ := hy
  obtain ⟨d, h2, h3⟩ := r'.get' (hx vs q)
  exact ⟨d, h2, .refl, rs, h3⟩
theorem src_loc {n : Nat} {a : Addr} {ds : List D} (hn : ρ[n]? = some a) : Src X.K T ρ Z H (Itl X.K a) (some (n, ds)) ds := by
  intro ρ' Z' st' H' f rs hg
  obtain ⟨r0, e0⟩ := f.pre
  have hn' : ρ'[n]? = some a := by rw [e0, List.getElem?_append_left (List.getElem?_eq_some_iff.mp hn).1]; exact hn
  simp only [guardOk] at hg
  split at hg
  · rename_i es he
    have e := D.beqL_eq _ _ hg
    subst e
    obtain ⟨vs, h1, h2⟩ := rs.obj n a _ hn' he
    have q : SqL X.K H' a vs := .inl (.inl h1)
    refine ⟨fun i hi => ⟨vs, vs[i]'(by rw [← h2.len]; exact hi), q, by simp⟩, ⟨vs, q, by rw [h2.len]; exact Nat.le_refl _⟩, fun i x H'' hi hy => ?_⟩
    obtain ⟨rfl, hx⟩ := hy
    obtain ⟨d, h3, h4⟩ := h2.get' (hx vs q)
    exact ⟨d, h3, .refl, rs, h4⟩
  · cases hg
theorem sqT_at {ρ' : List Addr} {Z' : Addr → Prop} {H' : Hp} {a : Addr} {vs : List V} (f : Fz ρ Z H ρ' Z' H') (h : TupAt X.K Z H a vs) : SqT X.K H' a vs := by
  rcases h with h | h
  · exact .inl (.inl (f.keep a _ h.1 h.2 (fun _ z => nomatch z)))
  · exact .inr h
theorem src_tup {a : Addr} {vs : List V} {ds : List D} (h : TupAt X.K Z H a vs) (r : Reps X.K ρ Z H ds vs) : Src X.K T ρ Z H (Itt X.K a) none ds := by
  intro ρ' Z' st' H' f rs _
  have q : SqT X.K H' a vs := sqT_at f h
  have r' := Reps.mz f _ _ r
  refine ⟨fun i hi => ⟨vs, vs[i]'(by rw [← r.len]; exact hi), q, by simp⟩, ⟨vs, q, by rw [r.len]; exact Nat.le_refl _⟩, fun i x H'' hi hy => ?_⟩
  obtain ⟨rfl, hx⟩ := hy
  obtain ⟨d, h2, h3⟩ := r'.get' (hx vs q)
  exact ⟨d, h2, .refl, rs, h3⟩
theorem src_range {lo : Int} {n : Nat} : Src X.K T ρ Z H (Itr lo n) none ((List.range n).map fun (i : Nat) => D.int (lo + i)) := by
  intro ρ' Z' st' H' f rs _
  rw [List.length_map, List.length_range]
  refine ⟨fun i hi => hi, Nat.le_refl _, fun i x H'' hi hy => ?_⟩
  obtain ⟨rfl, rfl⟩ := hy
  exact ⟨.int (lo + i), by simp [hi], .refl, rs, by simp [Rep]⟩
theorem src_str {z : Str} (hz : PySem.PyData.strOk z = true) : Src X.K T ρ Z H (Its z) none (signsD z) := by
  intro ρ' Z' st' H' f rs _
  have hl : (signsD z).length = z.cps.size := by unfold signsD; simp
  rw [hl]
  refine ⟨fun i hi => hi, Nat.le_refl _, fun i x H'' hi hy => ?_⟩
  obtain ⟨rfl, c, hc, rfl⟩ := hy
  refine ⟨.str ⟨#[c]⟩, ?_, .refl, rs, ?_⟩
  · unfold signsD
    rw [List.getElem?_map]
    simp [hc]
  · simp only [Rep]
    exact ⟨trivial, strOk_sign hz (by simpa using Array.mem_of_getElem? hc)⟩
variable {e e2 tg : Expr} {a b : _root_.Q.X} {pos p : Pos}
theorem s_seq (ha : PE X e (tEv X.K T C a)) : PI X tg e (tIt X.K T C (.seq a)) := ((pi_list ha).or (pi_tup ha)).imp fun σ H R h => by
  obtain ⟨ρ, Z, st, env, gd, ds, st', rs, re, h, k⟩ := h
  simp only [evIt, Option.bind_eq_some_iff] at h
  obtain ⟨⟨x, st1⟩, h1, h2⟩ := h
  cases x <;> simp only [srcOf] at h2
  case tup es =>
    cases h2
    refine .inr (tEv.go rs re h1 fun ρ' Z' H' v f r' e' q => ?_)
    simp only [Rep] at q
    obtain ⟨a, vs, rfl, a1, a2⟩ := q
    exact ⟨a, rfl, ⟨vs, a1.sq⟩, k _ _ _ _ f r' (src_tup a1 a2)⟩
  case lst es =>
    cases h2
    refine .inl (tEv.go rs re h1 fun ρ' Z' H' v f r' e' q => ?_)
    simp only [Rep] at q
    obtain ⟨a, vs, rfl, a1, a2⟩ := q
    exact ⟨a, rfl, ⟨vs, .inl (.inl a1.1)⟩, k _ _ _ _ f r' (src_list a1 a2)⟩
  case loc n =>
    split at h2
    · rename_i es he
      cases h2
      refine .inl (tEv.go rs re h1 fun ρ' Z' H' v f r' e' q => ?_)
      obtain ⟨a, vs, rfl, a0, a1, a2⟩ := loc_lst r' q he
      exact ⟨a, rfl, ⟨vs, .inl (.inl a1)⟩, k _ _ _ _ f r' (src_loc a0)⟩
    · cases h2
  all_goals cases h2
theorem iv62 {j : Int} (h : lim62 j = true) : -(2 ^ 62) ≤ j ∧ j < 2 ^ 62 := of_decide_eq_true h
theorem s_rng1 {p2 : Pos} (G : Good g C T kk L X) (hg : glB L.sc "range" = true) (hs : starP e = false) (ha : PE X e (tEv X.K T C a)) : PI X tg (.Call (.Name "range" p) [e] [] pos) (tIt X.K T C (.rng1 a)) := by
  refine (pi_range1 (glB_ok G hg).1 (G.blt _ (by decide)) (pa_cons ha pa_nil (star_plain hs)) (by rw [star_plain hs]; rfl)).imp fun σ H R h => ?_
  obtain ⟨ρ, Z, st, env, gd, ds, st', rs, re, h, k⟩ := h
  simp only [evIt, Option.bind_eq_some_iff] at h
  obtain ⟨⟨x, st1⟩, h1, h2⟩ := h
  cases x <;> simp only at h2
  case int j =>
    split at h2
    · rename_i hj
      cases h2
      refine tEv.go rs re h1 fun ρ' Z' H' v f r' e' q => ?_
      simp only [Rep] at q
      subst q
      refine ⟨j, rfl, (iv62 hj).1, (iv62 hj).2, k _ _ _ _ f r' ?_⟩
      have q := src_range (X := X) (T := T) (ρ := ρ') (Z := Z') (H := H') (lo := 0) (n := j.toNat)
      unfold rangeD
      rw [Int.sub_zero]
      exact q
    · cases h2
  all_goals cases h2
theorem s_rng2 {p2 : Pos} (G : Good g C T kk L X) (hg : glB L.sc "range" = true) (hs : starP e = false) (hs2 : starP e2 = false) (ha : PE X e (tEv X.K T C a)) (hb : PE X e2 (tEv X.K T C b)) :
    PI X tg (.Call (.Name "range" p) [e, e2] [] pos) (tIt X.K T C (.rng2 a b)) := by
  refine (pi_rangeA (glB_ok G hg).1 (G.blt _ (by decide)) (pa_cons ha (pa_cons hb pa_nil (star_plain hs2)) (star_plain hs)) (by rw [star_plain hs, star_plain hs2]; rfl) (by rw [star_plain hs2]; rfl)).imp fun σ H R h => ?_
  obtain ⟨ρ, Z, st, env, gd, ds, st', rs, re, h, k⟩ := h
  simp only [evIt, Option.bind_eq_some_iff] at h
  obtain ⟨⟨x, st1⟩, h1, ⟨y, st2⟩, h2, h3⟩ := h
  cases x <;> cases y <;> simp only at h3
  case int.int i j =>
    cases h3
    refine tEv.go rs re h1 fun ρ' Z' H' v f r' e' q => tEv.go r' e' h2 fun ρ2 Z2 H2 u f2 r2 e2 q2 => ?_
    simp only [Rep] at q q2
    subst q q2
    exact ⟨i, j, rfl, k _ _ _ _ (f.trans f2) r2 src_range⟩
  all_goals cases h3
theorem s_chars (ha : PE X e (tEv X.K T C a)) : PI X tg e (tIt X.K T C (.chars a)) := (pi_str ha).imp fun σ H R h => by
  obtain ⟨ρ, Z, st, env, gd, ds, st', rs, re, h, k⟩ := h
  simp only [evIt, Option.bind_eq_some_iff] at h
  obtain ⟨⟨x, st1⟩, h1, h2⟩ := h
  cases x <;> simp only at h2
  case str z =>
    cases h2
    refine tEv.go rs re h1 fun ρ' Z' H' v f r' e' q => ?_
    simp only [Rep] at q
    obtain ⟨rfl, q⟩ := q
    exact ⟨z, rfl, k _ _ _ _ f r' (src_str q)⟩
  all_goals cases h2
end
end Q

/-! QSnd6: comprehensions. -/
namespace Q
open PySem PySem.Spec PyProof.Rows L2

section
variable {K : PySem.W.Frag} {T : List (Addr × Str)} {ρ ρ1 : List Addr} {Z Z1 : Addr → Prop} {H H1 : Hp} {st : Store} {D0 : Addr}
/-- the list that a comprehension fills: forbidden, no place -/
theorem fz_fill {o : HO} (hz : Z D0) (hf : ∀ o u, H D0 ≠ some (.frz o u)) : Fz ρ Z H ρ Z (upd H D0 o) :=
  ⟨⟨[], by simp⟩, fun a o' h hn _ => by rw [upd_ne (fun (e : a = D0) => hn (e ▸ hz))]; exact h, fun _ _ _ z => z, fun a o' u h => by rw [upd_ne (fun (e : a = D0) => hf o' u (e ▸ h))]; exact h⟩
theorem RelS.fill {vs us : List V} (r : RelS K T ρ Z st H) (hz : Z D0) (hn : D0 ∉ ρ) (hD : H D0 = some (.lst vs)) : RelS K T ρ Z st (upd H D0 (.lst us)) := by
  have f : Fz ρ Z H ρ Z (upd H D0 (.lst us)) := fz_fill hz fun o u e => by rw [hD] at e; cases e
  have k : ∀ a o', H a = some o' → a ≠ D0 → upd H D0 (.lst us) a = some o' := fun a o' h e => by rw [upd_ne e]; exact h
  refine ⟨r.len, r.nd, r.sub, fun a h => ?_, fun n a so h1 h2 => ?_, fun p hp => ?_⟩
  · by_cases e : a = D0
    · subst e; exact ⟨_, upd_same⟩
    · obtain ⟨o', h'⟩ := r.dom a h
      exact ⟨o', k a o' h' e⟩
  · have e : a ≠ D0 := fun e => hn (e ▸ List.mem_of_getElem? h1)
    have q := r.obj n a so h1 h2
    cases so with
    | lst ds => obtain ⟨vs, e1, q⟩ := q; exact ⟨vs, k _ _ e1 e, Reps.mz f _ _ q⟩
    | dct kvs => obtain ⟨vs, e1, q⟩ := q; exact ⟨vs, k _ _ e1 e, q.mz f⟩
    | lck kvs => obtain ⟨ob, vs, e1, q⟩ := q; exact ⟨ob, vs, k _ _ e1 e, q.mz f⟩
  · obtain ⟨ps, h1, h2, h3⟩ := r.tabs p hp
    refine ⟨ps, k _ _ h1 (fun e => by rw [e, hD] at h1; cases h1), h2, fun pos cv hc => ?_⟩
    obtain ⟨c, e1, e2⟩ := h3 pos cv hc
    exact ⟨c, e1, k _ _ e2 (fun e => by
      rw [e, hD] at e2
      have := Option.some.inj e2
      simp [LamX.CodeO] at this)⟩
theorem RelS.anti {Z' : Addr → Prop} (r : RelS K T ρ Z st H) (hz : ∀ a, Z' a → Z a) (sub : ∀ a ∈ ρ, Z' a) : RelS K T ρ Z' st H := by
  refine ⟨r.len, r.nd, sub, fun a h => r.dom a (hz a h), fun n a so h1 h2 => ?_, r.tabs⟩
  have q := r.obj n a so h1 h2
  cases so with
  | lst ds => obtain ⟨vs, e1, q⟩ := q; exact ⟨vs, e1, Reps.anti hz _ _ q⟩
  | dct kvs => obtain ⟨vs, e1, q⟩ := q; exact ⟨vs, e1, q.anti hz⟩
  | lck kvs => obtain ⟨ob, vs, e1, q⟩ := q; exact ⟨ob, vs, e1, q.anti hz⟩
/-- how things stand within a comprehension: from (ρ1, Z1, H1), with a walk begun at (ρs, Zs, Hs), behind acc's items; D0 the new list -/
def Fill (K : PySem.W.Frag) (T : List (Addr × Str)) (ρ1 : List Addr) (Z1 : Addr → Prop) (H1 : Hp) (ρs : List Addr) (Zs : Addr → Prop) (Hs : Hp) (D0 : Addr) (acc : List D) (st : Store) (H : Hp) : Prop :=
  ∃ ρ Z vs, Fr ρ1 Z1 H1 ρ Z H ∧ Fz ρs Zs Hs ρ Z H ∧ (∀ c o, Hs c = some o → ∃ o', H c = some o') ∧ RelS K T ρ Z st H ∧ D0 ∉ ρ ∧ Z D0 ∧ H D0 = some (.lst vs) ∧ Reps K ρ Z H acc vs
theorem Fill.start (r : RelS K T ρ1 Z1 st H1) (hD : H1 D0 = none) : Fill K T ρ1 Z1 H1 ρ1 Z1 H1 D0 [] st (upd H1 D0 (.lst [])) := by
  have k : ∀ a o', H1 a = some o' → upd H1 D0 (.lst []) a = some o' := fun a o' h => by rw [upd_ne (ne_of_none h hD)]; exact h
  have nD : D0 ∉ ρ1 := fun h => r.free hD (r.sub _ h)
  have fz : Fz ρ1 Z1 H1 ρ1 (fun a => Z1 a ∨ a = D0) (upd H1 D0 (.lst [])) := ⟨⟨[], by simp⟩, fun a o h _ _ => k a o h, fun a o h z => by
    rcases z with z | z
    · exact z
    · exact absurd z (ne_of_none h hD), fun a o u h => k a _ h⟩
  refine ⟨ρ1, fun a => Z1 a ∨ a = D0, [], ⟨⟨[], by simp⟩, fun a o h _ _ => k a o h, fun a o h => ⟨fz.ex a o h, .inl⟩, fun a o h => ⟨o, k a o h⟩, fun a o u h => k a _ h, fun a h => .inl h⟩, fz, fun a o h => ⟨o, k a o h⟩, ?_, nD, .inr rfl, upd_same, .nil⟩
  refine ⟨r.len, r.nd, fun a h => .inl (r.sub a h), fun a h => ?_, fun n a so h1 h2 => ?_, r.tabs_of fun a o h _ => k a o h⟩
  · rcases h with h | rfl
    · obtain ⟨o', h'⟩ := r.dom a h
      exact ⟨o', k a o' h'⟩
    · exact ⟨_, upd_same⟩
  · have q := r.obj n a so h1 h2
    cases so with
    | lst ds => obtain ⟨vs, e1, q⟩ := q; exact ⟨vs, k _ _ e1, Reps.mz fz _ _ q⟩
    | dct kvs => obtain ⟨vs, e1, q⟩ := q; exact ⟨vs, k _ _ e1, q.mz fz⟩
    | lck kvs => obtain ⟨ob, vs, e1, q⟩ := q; exact ⟨ob, vs, k _ _ e1, q.mz fz⟩
/-- one more item -/
theorem fill_add {ρs : List Addr} {Zs : Addr → Prop} {Hs : Hp} {vs : List V} {acc : List D} {d : D} {v : V} (f : Fr ρ1 Z1 H1 ρ Z H) (fs : Fz ρs Zs Hs ρ Z H) (dm : ∀ c o, Hs c = some o → ∃ o', H c = some o') (hD1 : H1 D0 = none) (r : RelS K T ρ Z st H) (hn : D0 ∉ ρ) (hz : Z D0) (hD : H D0 = some (.lst vs)) (q : Reps K ρ Z H acc vs) (qd : Rep K ρ Z H d v) :
    Fill K T ρ1 Z1 H1 ρs Zs Hs D0 (acc ++ [d]) st (upd H D0 (.lst (vs ++ [v]))) := by
  have fz : Fz ρ Z H ρ Z (upd H D0 (.lst (vs ++ [v]))) := fz_fill hz fun o u e => by rw [hD] at e; cases e
  have k : ∀ a o', H a = some o' → a ≠ D0 → upd H D0 (.lst (vs ++ [v])) a = some o' := fun a o' h e => by rw [upd_ne e]; exact h
  refine ⟨ρ, Z, vs ++ [v], ⟨f.pre, fun a o h hr ht => k _ _ (f.keep a o h hr ht) (ne_of_none h hD1), f.ex, fun a o h => ?_, fun a o u h => k _ _ (f.frz a o u h) (ne_of_none h hD1), f.new⟩, fs.trans dm fz, fun a o h => ?_, r.fill hz hn hD, hn, hz, upd_same, Reps.mz fz _ _ (q.append (.cons qd .nil))⟩
  · obtain ⟨o', h'⟩ := f.dom a o h
    exact ⟨o', k _ _ h' (ne_of_none h hD1)⟩
  · obtain ⟨o', h'⟩ := dm a o h
    by_cases e : a = D0
    · subst e; exact ⟨_, upd_same⟩
    · exact ⟨o', k _ _ h' e⟩
/-- the list is done: it is data -/
theorem Fill.done {ρs : List Addr} {Zs : Addr → Prop} {Hs : Hp} {ds : List D} {Q : VK} {st0 : Store} (h : Fill K T ρ1 Z1 H1 ρs Zs Hs D0 ds st H) (r1 : RelS K T ρ1 Z1 st0 H1) (hD1 : H1 D0 = none)
    (k : ∀ ρ' Z' H' v, Fr ρ1 Z1 H1 ρ' Z' H' → RelS K T ρ' Z' st H' → Rep K ρ' Z' H' (.lst ds) v → Q v H') : Q (.ref D0) H := by
  obtain ⟨ρ, Z, vs, f, _, _, r, hn, hz, hD, q⟩ := h
  have sub : ∀ a ∈ ρ, Z a ∧ a ≠ D0 := fun a ha => ⟨r.sub a ha, fun e => hn (e ▸ ha)⟩
  refine k ρ (fun a => Z a ∧ a ≠ D0) H _ ⟨f.pre, f.keep, fun a o h => ⟨fun z => (f.ex a o h).mp z.1, fun z => ⟨(f.ex a o h).mpr z, ne_of_none h hD1⟩⟩, f.dom, f.frz, f.new⟩ (r.anti (fun a z => z.1) sub) ?_
  simp only [Rep]
  exact ⟨D0, vs, rfl, ⟨hD, fun z => z.2 rfl⟩, Reps.anti (fun a z => z.1) _ _ q⟩
end

section
variable {K : PySem.W.Frag} {T : List (Addr × Str)} {ρ1 ρs : List Addr} {Z1 Zs : Addr → Prop} {H1 Hs : Hp} {D0 : Addr} {J : L2.It} {gd : Option (Nat × List D)} {ds : List D}
/-- the loop of one clause -/
theorem walk_loop {one : D → Store → Option (List D × Store)} {body : V → Hp → (Hp → Prop) → Prop} {Fin : Hp → Prop} {acc0 zs0 : List D} {st0 stF : Store} {H0 : Hp} (src : Src K T ρs Zs Hs J gd ds)
    (hb : ∀ {acc ys : List D} {st st' : Store} {H' : Hp} {x : V} {d : D} {ρ : List Addr} {Z : Addr → Prop} {uv : List V} {Nx : Hp → Prop}, Fr ρ1 Z1 H1 ρ Z H' → Fz ρs Zs Hs ρ Z H' → (∀ c o, Hs c = some o → ∃ o', H' c = some o') → RelS K T ρ Z st H' → D0 ∉ ρ → Z D0 → H' D0 = some (.lst uv) →
      Reps K ρ Z H' acc uv → Rep K ρ Z H' d x → one d st = some (ys, st') → (acc ++ ys).length ≤ sizeLine → (∀ H'', Fill K T ρ1 Z1 H1 ρs Zs Hs D0 (acc ++ ys) st' H'' → Nx H'') → body x H' Nx)
    (hl : compLoop gd one ds st0 = some (zs0, stF)) (h0 : Fill K T ρ1 Z1 H1 ρs Zs Hs D0 acc0 st0 H0) (hz : (acc0 ++ zs0).length ≤ sizeLine) (fin : ∀ H', Fill K T ρ1 Z1 H1 ρs Zs Hs D0 (acc0 ++ zs0) stF H' → Fin H') :
    ∃ W : Nat → Nat → Hp → Prop, (∃ m, W 0 m H0) ∧ ∀ i m H, W i m H → (J.stop i H ∧ Fin H) ∨ (J.go i H ∧ ∃ Nx : Hp → Prop, (∀ H', Nx H' → ∃ m', m' < m ∧ W (i + 1) m' H') ∧ ∀ x H', J.yld i H x H' → body x H' Nx) := by
  refine ⟨fun i m H => ∃ acc st zs, Fill K T ρ1 Z1 H1 ρs Zs Hs D0 acc st H ∧ compLoop gd one (ds.drop i) st = some (zs, stF) ∧ acc ++ zs = acc0 ++ zs0 ∧ m = ds.length - i ∧ i ≤ ds.length,
    ⟨ds.length, acc0, st0, zs0, h0, hl, rfl, rfl, Nat.zero_le _⟩, ?_⟩
  rintro i m H ⟨acc, st, zs, ⟨ρ, Z, uv, f, fs, dm, rs, hn, hzD, hD, q⟩, hloop, htot, rfl, hi⟩
  by_cases hlt : i < ds.length
  · right
    rw [List.drop_eq_getElem_cons hlt] at hloop
    unfold compLoop at hloop
    split at hloop
    · rename_i hg
      simp only [Option.bind_eq_some_iff] at hloop
      obtain ⟨⟨ys, st1⟩, h1, ⟨zs', st2⟩, h2, h3⟩ := hloop
      cases h3
      obtain ⟨s1, _, s3⟩ := src ρ Z st H fs rs hg
      refine ⟨s1 i hlt, fun H' => Fill K T ρ1 Z1 H1 ρs Zs Hs D0 (acc ++ ys) st1 H', fun H' hF => ⟨ds.length - (i + 1), by omega, acc ++ ys, st1, zs', hF, h2, by rw [List.append_assoc]; exact htot, rfl, hlt⟩, fun x H' hy => ?_⟩
      obtain ⟨d, e1, f2, r2, qd⟩ := s3 i x H' hlt hy
      have e2 : d = ds[i] := by rw [List.getElem?_eq_getElem hlt] at e1; exact (Option.some.inj e1).symm
      subst e2
      have fz2 := f2.fz rs.sub
      refine hb (f.trans f2) (fs.trans dm fz2) (fun c o h => ?_) r2 hn hzD (f2.keep D0 _ hD hn (fun _ z => nomatch z)) (Reps.mono rs.sub f2 _ _ q) qd h1 ?_ fun H'' h => h
      · obtain ⟨o', h'⟩ := dm c o h
        exact f2.dom c o' h'
      · have : (acc ++ ys).length ≤ (acc0 ++ zs0).length := by rw [← htot]; simp only [List.length_append]; omega
        omega
    · cases hloop
  · left
    have e : i = ds.length := by omega
    subst e
    rw [List.drop_length] at hloop
    unfold compLoop at hloop
    split at hloop
    · rename_i hg
      cases hloop
      refine ⟨(src ρ Z _ H fs rs hg).2.1, fin _ ?_⟩
      rw [← htot, List.append_nil]
      exact ⟨ρ, Z, uv, f, fs, dm, rs, hn, hzD, hD, q⟩
    · cases hloop
end

section
variable {g : Sig} {C : Ctx} {T : List (Addr × Str)} {kk : Nat} {L : Lv} {X : Cx} {own : List (Str × Nat)} {t t1 : Tt} {it it1 : Q.It} {c c1 e : _root_.Q.X} {tg tg1 iter iter1 elt : Expr} {ifs ifs1 : List Expr} {scope : Scope} {pos spos : Pos} {vs1 : List Nat}
/-- binding within a comprehension -/
theorem bd_go {ρ : List Addr} {Z : Addr → Prop} {H : Hp} {env env1 : Env} {σ0 : L2.St} {d : D} {x : V} {vs : List Nat} {st : Store} {Q : L2.St → Hp → Prop} (rs : RelS X.K T ρ Z st H) (re : RelE X.K ρ Z H env σ0) (hs : ∀ i ∈ tSlots t, i ∈ vs) (qd : Rep X.K ρ Z H d x) (hb : bindT t d (wipeE env vs) = some env1)
    (k : ∀ σ2, RelE X.K ρ Z H env1 σ2 → wipe σ2 vs = wipe σ0 vs → Q σ2 H) : tBd X.K t x (wipe σ0 vs) H Q :=
  ⟨ρ, Z, wipeE env vs, d, env1, rs.sub, wipe_rel re vs, qd, hb, fun σ2 r2 l2 s2 => k σ2 r2 (wipe_eq hs l2 s2)⟩
/-- an element computed and added -/
theorem elt_go {σ2 : L2.St} {ρ ρ1 ρs : List Addr} {Z Z1 Zs : Addr → Prop} {H H1 Hs : Hp} {D0 : Addr} {env1 : Env} {acc ys : List D} {uv : List V} {st st' : Store} {Nx : Hp → Prop}
    (f : Fr ρ1 Z1 H1 ρ Z H) (fs : Fz ρs Zs Hs ρ Z H) (dm : ∀ c o, Hs c = some o → ∃ o', H c = some o') (hD1 : H1 D0 = none) (rs : RelS X.K T ρ Z st H) (re : RelE X.K ρ Z H env1 σ2) (hn : D0 ∉ ρ) (hz : Z D0) (hD : H D0 = some (.lst uv)) (qa : Reps X.K ρ Z H acc uv)
    (he : (ev C e env1 st).map (fun q => ([q.1], q.2)) = some (ys, st')) (hl : (acc ++ ys).length ≤ sizeLine) (k : ∀ H'', Fill X.K T ρ1 Z1 H1 ρs Zs Hs D0 (acc ++ ys) st' H'' → Nx H'') :
    tEv X.K T C e σ2 H fun y H4 => ∃ acc, H4 D0 = some (.lst acc) ∧ acc.length < sizeLine ∧ Nx (upd H4 D0 (.lst (acc ++ [y]))) := by
  obtain ⟨⟨d, st2⟩, h1, h2⟩ := Option.map_eq_some_iff.mp he
  cases h2
  refine tEv.go rs re h1 fun ρ2 Z2 H2 v f2 r2 e2 q2 => ?_
  have fz2 := f2.fz rs.sub
  have hn2 : D0 ∉ ρ2 := fun z => by
    rcases f2.new D0 z with z | z
    · exact hn z
    · rw [hD] at z; cases z
  have hD2 := f2.keep D0 _ hD hn (fun _ z => nomatch z)
  refine ⟨uv, hD2, ?_, k _ (fill_add (f.trans f2) (fs.trans dm fz2) (fun c o h => ?_) hD1 r2 hn2 ((f2.ex D0 _ hD).mpr hz) hD2 (Reps.mono rs.sub f2 _ _ qa) q2)⟩
  · rw [← qa.len]
    simp only [List.length_append, List.length_singleton] at hl
    omega
  · obtain ⟨o', h'⟩ := dm c o h
    exact f2.dom c o' h'
theorem i_comp (hs : ∀ i ∈ tSlots t, i ∈ own.map (·.2)) {σ : L2.St} {H : Hp} {Q : VK} (h : tEv X.K T C (.comp own t it c e) σ H Q) :
    tLc (tIt X.K T C it) (tBd X.K t) (tB (tEv X.K T C c)) (tEv X.K T C e) (own.map (·.2)) σ H Q := by
  obtain ⟨ρ0, Z0, st, env, d, st', rs, re, h, k⟩ := h
  simp only [ev, Option.bind_eq_some_iff] at h
  obtain ⟨⟨gd, ds, st1⟩, h1, ⟨zs, st2⟩, h2, h3⟩ := h
  split at h3
  · rename_i hlen
    cases h3
    refine ⟨ρ0, Z0, st, env, gd, ds, st1, rs, re, h1, fun ρ1 Z1 H1 J f1 r1 src => fun D0 hD => ?_⟩
    have re1 := re.mono rs.sub f1
    refine walk_loop (acc0 := []) (zs0 := zs) (body := fun x H' Nx => tBd X.K t x (wipe σ (own.map (·.2))) H' fun σ2 H2 => wipe σ2 (own.map (·.2)) = wipe σ (own.map (·.2)) ∧ tB (tEv X.K T C c) σ2 H2 fun b H3 =>
      if b = true then tEv X.K T C e σ2 H3 fun y H4 => ∃ acc, H4 D0 = some (.lst acc) ∧ acc.length < sizeLine ∧ Nx (upd H4 D0 (.lst (acc ++ [y]))) else Nx H3) src ?_ h2 (Fill.start r1 hD) hlen fun H' hF => hF.done r1 hD fun ρ' Z' H'' v f r q => k _ _ _ _ (f1.trans f) r q
    intro acc ys st3 st4 H' x d ρ Z uv Nx f fs dm rs' hn hz hD' qa qd ho hl hk
    simp only [compOne, Option.bind_eq_some_iff] at ho
    obtain ⟨env1, h4, ⟨b, st5⟩, h5, h6⟩ := ho
    refine bd_go rs' (re1.mz fs) hs qd h4 fun σ2 re2 hw => ⟨hw, ?_⟩
    refine tst rs' re2 h5 fun ρ2 Z2 H2 f2 r2 e2 => ?_
    have fz2 := f2.fz rs'.sub
    have hn2 : D0 ∉ ρ2 := fun z => by
      rcases f2.new D0 z with z | z
      · exact hn z
      · rw [hD'] at z; cases z
    have hD2 := f2.keep D0 _ hD' hn (fun _ z => nomatch z)
    have dm2 : ∀ c o, H1 c = some o → ∃ o', H2 c = some o' := fun c o h => by
      obtain ⟨o', h'⟩ := dm c o h
      exact f2.dom c o' h'
    have qa2 := Reps.mono rs'.sub f2 _ _ qa
    cases b with
    | true =>
      simp only [if_true] at h6 ⊢
      exact elt_go (f.trans f2) (fs.trans dm fz2) dm2 hD r2 e2 hn2 ((f2.ex D0 _ hD').mpr hz) hD2 qa2 h6 hl hk
    | false =>
      simp only [Bool.false_eq_true, if_false] at h6 ⊢
      cases h6
      refine hk _ ?_
      rw [List.append_nil]
      exact ⟨ρ2, Z2, uv, f.trans f2, fs.trans dm fz2, dm2, r2, hn2, (f2.ex D0 _ hD').mpr hz, hD2, qa2⟩
  · cases h3
theorem s_comp (G : Good g C T kk L X) (hi : PI X tg iter (tIt X.K T C it)) (ok : BlkOk X.N X.env.scope scope own) (hsl : ∀ i ∈ tSlots t, i ∈ own.map (·.2))
    (hg : ∀ (s : Shared) (H : Hp) (C' : Addr) (cl : List (Str × Addr)) (fp : List Addr), PG (X.blk s H scope (compEnvC scope cl C' X.env) fp) tg (tBd X.K t))
    (ht : ∀ (s : Shared) (H : Hp) (C' : Addr) (cl : List (Str × Addr)) (fp : List Addr), PTs (X.blk s H scope (compEnvC scope cl C' X.env) fp) ifs (tB (tEv X.K T C c)))
    (he : ∀ (s : Shared) (H : Hp) (C' : Addr) (cl : List (Str × Addr)) (fp : List Addr), PE (X.blk s H scope (compEnvC scope cl C' X.env) fp) elt (tEv X.K T C e)) (hs : ∀ x, foldedSetIterable iter X.env x = pure x) :
    PE X (.ListComp elt [⟨tg, iter, ifs, 0⟩] scope pos) (tEv X.K T C (.comp own t it c e)) := (pe_lc G.calm (by rw [G.hN]; exact G.nd) hi ok hg ht he hs).imp fun σ H Q h => i_comp hsl h
theorem i_comp2 (hs : ∀ i ∈ tSlots t, i ∈ own.map (·.2)) (hs1 : ∀ i ∈ tSlots t1, i ∈ vs1) {σ : L2.St} {H : Hp} {Q : VK} (h : tEv X.K T C (.comp2 own t it c vs1 t1 it1 c1 e) σ H Q) :
    tLc2 (tIt X.K T C it) (tBd X.K t) (tB (tEv X.K T C c)) (tIt X.K T C it1) (tBd X.K t1) (tB (tEv X.K T C c1)) (tEv X.K T C e) (own.map (·.2)) vs1 σ H Q := by
  obtain ⟨ρ0, Z0, st, env, d, st', rs, re, h, k⟩ := h
  simp only [ev, Option.bind_eq_some_iff] at h
  obtain ⟨⟨gd, ds, st1⟩, h1, ⟨zs, st2⟩, h2, h3⟩ := h
  split at h3
  · rename_i hlen
    cases h3
    refine ⟨ρ0, Z0, st, env, gd, ds, st1, rs, re, h1, fun ρ1 Z1 H1 J f1 r1 src => fun D0 hD => ?_⟩
    have re1 := re.mono rs.sub f1
    refine walk_loop (acc0 := []) (zs0 := zs) (body := fun x H' Nx => tBd X.K t x (wipe σ (own.map (·.2))) H' fun σ2 H2 => wipe σ2 (own.map (·.2)) = wipe σ (own.map (·.2)) ∧ tB (tEv X.K T C c) σ2 H2 fun b H3 =>
      if b = true then tIt X.K T C it1 σ2 H3 fun J1 H4 => ∃ W1 : Nat → Nat → Hp → Prop, (∃ m, W1 0 m H4) ∧ ∀ j k H, W1 j k H →
      (J1.stop j H ∧ Nx H) ∨ (J1.go j H ∧ ∃ Nx1 : Hp → Prop, (∀ H', Nx1 H' → ∃ k', k' < k ∧ W1 (j + 1) k' H') ∧ ∀ x H', J1.yld j H x H' → tBd X.K t1 x (wipe σ2 vs1) H' fun σ3 H5 => wipe σ3 vs1 = wipe σ2 vs1 ∧ tB (tEv X.K T C c1) σ3 H5 fun b H6 =>
        if b = true then tEv X.K T C e σ3 H6 fun y H7 => ∃ acc, H7 D0 = some (.lst acc) ∧ acc.length < sizeLine ∧ Nx1 (upd H7 D0 (.lst (acc ++ [y]))) else Nx1 H6)
      else Nx H3) src ?_ h2 (Fill.start r1 hD) hlen fun H' hF => hF.done r1 hD fun ρ' Z' H'' v f r q => k _ _ _ _ (f1.trans f) r q
    intro acc ys st3 st4 H' x d ρ Z uv Nx f fs dm rs' hn hz hD' qa qd ho hl hk
    simp only [compOne, Option.bind_eq_some_iff] at ho
    obtain ⟨env1, h4, ⟨b, st5⟩, h5, h6⟩ := ho
    refine bd_go rs' (re1.mz fs) hs qd h4 fun σ2 re2 hw => ⟨hw, ?_⟩
    refine tst rs' re2 h5 fun ρ2 Z2 H2 f2 r2 e2 => ?_
    have hn_of : ∀ {ρ2 : List Addr} {Z2 : Addr → Prop} {H2 : Hp}, Fr ρ Z H' ρ2 Z2 H2 → D0 ∉ ρ2 := fun f2 z => by
      rcases f2.new D0 z with z | z
      · exact hn z
      · rw [hD'] at z; cases z
    have dm_of : ∀ {ρ2 : List Addr} {Z2 : Addr → Prop} {H2 : Hp}, Fr ρ Z H' ρ2 Z2 H2 → ∀ c o, H1 c = some o → ∃ o', H2 c = some o' := fun f2 c o h => by
      obtain ⟨o', h'⟩ := dm c o h
      exact f2.dom c o' h'
    cases b with
    | true =>
      simp only [if_true, Option.bind_eq_some_iff] at h6 ⊢
      obtain ⟨⟨gd1, ds1, st6⟩, h7, h8⟩ := h6
      refine ⟨ρ2, Z2, st5, env1, gd1, ds1, st6, r2, e2, h7, fun ρ4 Z4 H4 J1 f4 r4 src1 => ?_⟩
      have f24 := f2.trans f4
      have re4 := e2.mono r2.sub f4
      have hD4 := f24.keep D0 _ hD' hn (fun _ z => nomatch z)
      have fz4 := fs.trans dm (f24.fz rs'.sub)
      refine walk_loop (ρ1 := ρ1) (Z1 := Z1) (H1 := H1) (D0 := D0) (acc0 := acc) (zs0 := ys) (body := fun x H' Nx1 => tBd X.K t1 x (wipe σ2 vs1) H' fun σ3 H5 => wipe σ3 vs1 = wipe σ2 vs1 ∧ tB (tEv X.K T C c1) σ3 H5 fun b H6 =>
        if b = true then tEv X.K T C e σ3 H6 fun y H7 => ∃ acc, H7 D0 = some (.lst acc) ∧ acc.length < sizeLine ∧ Nx1 (upd H7 D0 (.lst (acc ++ [y]))) else Nx1 H6) src1 ?_ h8
        ⟨ρ4, Z4, uv, f.trans f24, .refl, fun c o h => ⟨o, h⟩, r4, hn_of f24, (f24.ex D0 _ hD').mpr hz, hD4, Reps.mono rs'.sub f24 _ _ qa⟩ hl fun H5 hF => hk H5 ?_
      · intro acc' ys' st7 st8 H8 x' d' ρ8 Z8 uv' Nx1 f8 fs8 dm8 rs8 hn8 hz8 hD8 qa8 qd8 ho8 hl8 hk8
        simp only [compOne, Option.bind_eq_some_iff] at ho8
        obtain ⟨env9, h9, ⟨b9, st9⟩, h10, h11⟩ := ho8
        refine bd_go rs8 (re4.mz fs8) hs1 qd8 h9 fun σ3 re9 hw9 => ⟨hw9, ?_⟩
        refine tst rs8 re9 h10 fun ρ9 Z9 H9 f9 r9 e9 => ?_
        have fz9 := f9.fz rs8.sub
        have hn9 : D0 ∉ ρ9 := fun z => by
          rcases f9.new D0 z with z | z
          · exact hn8 z
          · rw [hD8] at z; cases z
        have hD9 := f9.keep D0 _ hD8 hn8 (fun _ z => nomatch z)
        have dm9 : ∀ c o, H4 c = some o → ∃ o', H9 c = some o' := fun c o h => by
          obtain ⟨o', h'⟩ := dm8 c o h
          exact f9.dom c o' h'
        have qa9 := Reps.mono rs8.sub f9 _ _ qa8
        cases b9 with
        | true =>
          simp only [if_true] at h11 ⊢
          exact elt_go (f8.trans f9) (fs8.trans dm8 fz9) dm9 hD r9 e9 hn9 ((f9.ex D0 _ hD8).mpr hz8) hD9 qa9 h11 hl8 hk8
        | false =>
          simp only [Bool.false_eq_true, if_false] at h11 ⊢
          cases h11
          refine hk8 _ ?_
          rw [List.append_nil]
          exact ⟨ρ9, Z9, uv', f8.trans f9, fs8.trans dm8 fz9, dm9, r9, hn9, (f9.ex D0 _ hD8).mpr hz8, hD9, qa9⟩
      · obtain ⟨ρ5, Z5, uv5, a1, a2, a3, a4, a5, a6, a7, a8⟩ := hF
        exact ⟨ρ5, Z5, uv5, a1, fz4.trans (dm_of f24) a2, fun c o h => let ⟨o', h'⟩ := dm_of f24 c o h; a3 c o' h', a4, a5, a6, a7, a8⟩
    | false =>
      simp only [Bool.false_eq_true, if_false] at h6 ⊢
      cases h6
      refine hk _ ?_
      rw [List.append_nil]
      exact ⟨ρ2, Z2, uv, f.trans f2, fs.trans dm (f2.fz rs'.sub), dm_of f2, r2, hn_of f2, (f2.ex D0 _ hD').mpr hz, f2.keep D0 _ hD' hn (fun _ z => nomatch z), Reps.mono rs'.sub f2 _ _ qa⟩
  · cases h3
end
end Q

/-! QSortS: enumerate, zip, sorted with a key. -/
namespace Q
open PySem PySem.Spec PyProof.Rows L2

section
variable {g : Sig} {C : Ctx} {T : List (Addr × Str)} {kk : Nat} {L : Lv} {X : Cx} {ρ : List Addr} {Z : Addr → Prop} {st : Store} {H : Hp}
theorem enumD_get : ∀ (ds : List D) (n i : Nat), (enumD n ds)[i]? = (ds[i]?).map fun d => D.tup [.int ((n + i : Nat) : Int), d]
  | [], _, _ => by simp [enumD]
  | d :: ds, n, i => by
    cases i with
    | zero => simp [enumD]
    | succ i =>
      show (enumD (n + 1) ds)[i]? = _
      rw [enumD_get ds (n + 1) i, List.getElem?_cons_succ, show n + 1 + i = n + (i + 1) by omega]
theorem enumD_len : ∀ (ds : List D) (n : Nat), (enumD n ds).length = ds.length
  | [], _ => rfl
  | d :: ds, n => by show (enumD (n + 1) ds).length + 1 = _; rw [enumD_len ds (n + 1)]; rfl
theorem pair_new {ρ' : List Addr} {Z' : Addr → Prop} {st' : Store} {H' : Hp} {t : Addr} {d1 d2 : D} {x1 x2 : V} (rs : RelS X.K T ρ' Z' st' H') (hn : H' t = none) (q1 : Rep X.K ρ' Z' H' d1 x1) (q2 : Rep X.K ρ' Z' H' d2 x2) :
    Fr ρ' Z' H' ρ' Z' (upd H' t (.tup [x1, x2])) ∧ RelS X.K T ρ' Z' st' (upd H' t (.tup [x1, x2])) ∧ Rep X.K ρ' Z' (upd H' t (.tup [x1, x2])) (.tup [d1, d2]) (.ref t) :=
  ⟨fr_new hn, rs.new hn, rep_newT rs hn (.cons q1 (.cons q2 .nil))⟩
theorem src_enumT {a : Addr} {vs : List V} {ds : List D} (h : TupAt X.K Z H a vs) (r : Reps X.K ρ Z H ds vs) : Src X.K T ρ Z H (QE.IteT X.K a) none (enumD 0 ds) := by
  intro ρ' Z' st' H' f rs _
  have q : SqT X.K H' a vs := sqT_at f h
  have r' := Reps.mz f _ _ r
  rw [enumD_len]
  refine ⟨fun i hi => ⟨vs, vs[i]'(by rw [← r.len]; exact hi), q, by simp⟩, ⟨vs, q, by rw [r.len]; exact Nat.le_refl _⟩, fun i x H'' hi hy => ?_⟩
  obtain ⟨t, y, rfl, hn, rfl, hx⟩ := hy
  obtain ⟨d, h2, h3⟩ := r'.get' (hx vs q)
  obtain ⟨p1, p2, p3⟩ := pair_new rs hn (d1 := .int (i : Nat)) (x1 := .int (i : Nat)) (by simp [Rep]) h3
  exact ⟨_, by rw [enumD_get, h2, Nat.zero_add]; rfl, p1, p2, p3⟩
theorem src_enumL {a : Addr} {vs : List V} {ds : List D} (h : H a = some (.lst vs) ∧ ¬ Z a) (r : Reps X.K ρ Z H ds vs) : Src X.K T ρ Z H (Ite X.K a) none (enumD 0 ds) := by
  intro ρ' Z' st' H' f rs _
  have h1 : H' a = some (.lst vs) := f.keep a _ h.1 h.2 (fun _ z => nomatch z)
  have q : SqL X.K H' a vs := .inl (.inl h1)
  have r' := Reps.mz f _ _ r
  rw [enumD_len]
  refine ⟨fun i hi => ⟨vs, vs[i]'(by rw [← r.len]; exact hi), q, by simp⟩, ⟨vs, q, by rw [r.len]; exact Nat.le_refl _⟩, fun i x H'' hi hy => ?_⟩
  obtain ⟨t, y, rfl, hn, rfl, hx⟩ := hy
  obtain ⟨d, h2, h3⟩ := r'.get' (hx vs q)
  obtain ⟨p1, p2, p3⟩ := pair_new rs hn (d1 := .int (i : Nat)) (x1 := .int (i : Nat)) (by simp [Rep]) h3
  exact ⟨_, by rw [enumD_get, h2, Nat.zero_add]; rfl, p1, p2, p3⟩
theorem zipD_get : ∀ (xs ys : List D) (i : Nat) (x y : D), xs[i]? = some x → ys[i]? = some y → (zipD xs ys)[i]? = some (.tup [x, y])
  | [], _, _, _, _, h, _ => by simp at h
  | _ :: _, [], _, _, _, _, h => by simp at h
  | a :: xs, b :: ys, 0, x, y, h, h2 => by simp at h h2; subst h h2; rfl
  | a :: xs, b :: ys, i + 1, x, y, h, h2 => by
    show (zipD xs ys)[i]? = _
    exact zipD_get xs ys i x y (by simpa using h) (by simpa using h2)
theorem zipD_len : ∀ (xs ys : List D), (zipD xs ys).length = min xs.length ys.length
  | [], _ => by simp [zipD]
  | _ :: _, [] => by simp [zipD]
  | a :: xs, b :: ys => by show (zipD xs ys).length + 1 = _; rw [zipD_len xs ys, List.length_cons, List.length_cons]; omega
theorem src_zipT {a b : Addr} {vs us : List V} {ds es : List D} (h : TupAt X.K Z H a vs) (h2 : TupAt X.K Z H b us) (r : Reps X.K ρ Z H ds vs) (r2 : Reps X.K ρ Z H es us) : Src X.K T ρ Z H (RZ.ItzT X.K a b) none (zipD ds es) := by
  intro ρ' Z' st' H' f rs _
  have q : SqT X.K H' a vs := sqT_at f h
  have q2 : SqT X.K H' b us := sqT_at f h2
  have r' := Reps.mz f _ _ r
  have r2' := Reps.mz f _ _ r2
  have l1 := r.len
  have l2 := r2.len
  rw [zipD_len]
  refine ⟨fun i hi => ⟨vs, us, vs[i]'(by omega), us[i]'(by omega), q, q2, by simp, by simp⟩, ⟨vs, us, q, q2, by omega⟩, fun i x H'' hi hy => ?_⟩
  obtain ⟨t, x1, x2, rfl, hn, rfl, hx, hx2⟩ := hy
  obtain ⟨d1, a1, a2⟩ := r'.get' (hx vs q)
  obtain ⟨d2, b1, b2⟩ := r2'.get' (hx2 us q2)
  obtain ⟨p1, p2, p3⟩ := pair_new rs hn a2 b2
  exact ⟨_, zipD_get _ _ _ _ _ a1 b1, p1, p2, p3⟩
variable {e e2 : Expr} {a b : _root_.Q.X} {pos p : Pos}
theorem s_enum {elts : List Expr} {k1 : Nat} {tpos : Pos} (G : Good g C T kk L X) (hg : glB L.sc "enumerate" = true) (hs : starP e = false) (ha : PE X e (tEv X.K T C a)) : PI X (.Tuple elts k1 tpos) (.Call (.Name "enumerate" p) [e] [] pos) (tIt X.K T C (.enum a)) := by
  have q1 := pi_enum (elts := elts) (kk := k1) (tpos := tpos) (p := p) (pos := pos) (glB_ok G hg).1 (G.blt _ (by decide)) (pa_cons ha pa_nil (star_plain hs)) (by rw [star_plain hs]; rfl)
  have q2 := QE.pi_enumT (elts := elts) (kk := k1) (tpos := tpos) (p := p) (pos := pos) (glB_ok G hg).1 (G.blt _ (by decide)) (pa_cons ha pa_nil (star_plain hs)) (by rw [star_plain hs]; rfl)
  refine (q1.or q2).imp fun σ H R h => ?_
  obtain ⟨ρ, Z, st, env, gd, ds, st', rs, re, h, k⟩ := h
  simp only [evIt, Option.bind_eq_some_iff] at h
  obtain ⟨⟨x, st1⟩, h1, h2⟩ := h
  cases x <;> simp only at h2
  case tup es =>
    cases h2
    refine .inr (tEv.go rs re h1 fun ρ' Z' H' v f r' e' q => ?_)
    simp only [Rep] at q
    obtain ⟨a, vs, rfl, a1, a2⟩ := q
    exact ⟨a, vs, rfl, a1.sq, k _ _ _ _ f r' (src_enumT a1 a2)⟩
  case lst es =>
    cases h2
    refine .inl (tEv.go rs re h1 fun ρ' Z' H' v f r' e' q => ?_)
    simp only [Rep] at q
    obtain ⟨a, vs, rfl, a1, a2⟩ := q
    exact ⟨a, vs, rfl, .inl (.inl a1.1), k _ _ _ _ f r' (src_enumL a1 a2)⟩
  all_goals cases h2
theorem s_zip {elts : List Expr} {k1 : Nat} {tpos : Pos} (G : Good g C T kk L X) (hg : glB L.sc "zip" = true) (hs : starP e = false) (hs2 : starP e2 = false) (ha : PE X e (tEv X.K T C a)) (hb : PE X e2 (tEv X.K T C b)) :
    PI X (.Tuple elts k1 tpos) (.Call (.Name "zip" p) [e, e2] [] pos) (tIt X.K T C (.zip a b)) := by
  refine (RZ.pi_zipA (elts := elts) (kk := k1) (tpos := tpos) (p := p) (pos := pos) (glB_ok G hg).1 (G.blt _ (by decide)) (pa_cons ha (pa_cons hb pa_nil (star_plain hs2)) (star_plain hs)) (by rw [star_plain hs]) (by rw [star_plain hs2]; rfl)).imp fun σ H R h => ?_
  obtain ⟨ρ, Z, st, env, gd, ds, st', rs, re, h, k⟩ := h
  simp only [evIt, Option.bind_eq_some_iff] at h
  obtain ⟨⟨x, st1⟩, h1, ⟨y, st2⟩, h2, h3⟩ := h
  cases x <;> cases y <;> simp only at h3
  case tup.tup xs ys =>
    cases h3
    refine tEv.go rs re h1 fun ρ' Z' H' v f r' e' q => tEv.go r' e' h2 fun ρ2 Z2 H2 u f2 r2 e2 q2 => ?_
    have q' := Rep.mono r'.sub f2 _ _ q
    simp only [Rep] at q' q2
    obtain ⟨a, vs, rfl, a1, a2⟩ := q'
    obtain ⟨b, us, rfl, b1, b2⟩ := q2
    exact ⟨a, b, vs, us, rfl, .inr ⟨a1.sq, b1.sq, k _ _ _ _ (f.trans f2) r2 (src_zipT a1 b1 a2 b2)⟩⟩
  all_goals cases h3
end
/-! ### sorted with a key -/
/-- the key of an item -/
def keyP (n : Nat) (d : D) : PyData := if n = 0 then .str ((keyS d).getD ⟨#[]⟩) else .tuple [.int ((keyI d).getD (0, 0)).1, .int ((keyI d).getD (0, 0)).2]
def hasK (n : Nat) (d : D) : Bool := if n = 0 then (keyS d).isSome else (keyI d).isSome
def leK (n : Nat) : D → D → Bool := if n = 0 then leKS else leKI
theorem sortKD_eq {n : Nat} {ds ys : List D} (h : sortKD n ds = some ys) : (∀ d ∈ ds, hasK n d = true) ∧ ys = ds.mergeSort (leK n) := by
  unfold sortKD at h
  unfold hasK leK
  by_cases h0 : n = 0
  · simp only [h0, if_true] at h ⊢
    split at h
    · rename_i ha
      cases h
      exact ⟨fun d hd => List.all_eq_true.mp ha d hd, rfl⟩
    · cases h
  · simp only [h0, if_false] at h ⊢
    split at h
    · rename_i ha
      cases h
      exact ⟨fun d hd => List.all_eq_true.mp ha d hd, rfl⟩
    · cases h
theorem le_eq {n : Nat} {β : Type} (f : β → D) : PySem.W.dataLe false (fun b => keyP n (f b)) = fun a b => leK n (f a) (f b) := by
  unfold keyP leK
  by_cases h0 : n = 0
  · simp only [h0, if_true]
    exact PySem.W.dataLe_str (β := β) fun b => (keyS (f b)).getD ⟨#[]⟩
  · simp only [h0, if_false]
    exact PySem.W.dataLe_ii (β := β) (fun b => ((keyI (f b)).getD (0, 0)).1) fun b => ((keyI (f b)).getD (0, 0)).2
section
variable {C : Ctx} {T : List (Addr × Str)} {X : Cx} {ρ : List Addr} {Z : Addr → Prop} {st : Store} {H : Hp} {pins : List (Addr × Obj)} {σ : L2.St} {s : Shared}
theorem keyAt_of {n : Nat} {d : D} {x : V} {u : Value} (I : Inv X pins σ H s) (r : Rep X.K ρ Z H d x) (ru : RelV x u) (hk : hasK n d = true) : QK.KeyAt s.heap u n (keyP n d) := by
  unfold hasK at hk
  unfold QK.KeyAt keyP
  by_cases h0 : n = 0
  · simp only [h0, if_true] at hk ⊢
    unfold keyS at hk ⊢
    split at hk
    · rename_i z zs
      simp only [Rep] at r
      obtain ⟨a, vs, rfl, ta, rr⟩ := r
      simp only [Reps] at rr
      obtain ⟨v, vr, rfl, r1, _⟩ := rr
      simp only [Rep] at r1
      obtain ⟨rfl, _⟩ := r1
      cases ru
      obtain ⟨its, rv, ht, _⟩ := I.tuple ta.sq
      cases rv with
      | cons q1 q2 =>
        obtain ⟨t, rfl⟩ := q1
        exact ⟨a, _, t, z, rfl, ht, rfl, rfl⟩
    · cases hk
  · simp only [h0, if_false] at hk ⊢
    unfold keyI at hk ⊢
    split at hk
    · rename_i i j
      simp only [Rep, Reps] at r
      obtain ⟨a, vs, rfl, ta, v, vr, rfl, rfl, v2, vr2, rfl, rfl, rfl⟩ := r
      cases ru
      obtain ⟨its, rv, ht, _⟩ := I.tuple ta.sq
      cases rv with
      | cons q1 q2 =>
        cases q2 with
        | cons q2 q3 =>
          obtain ⟨t, rfl⟩ := q1
          obtain ⟨t2, rfl⟩ := q2
          exact ⟨a, _, t, t2, i, j, rfl, ht, rfl, rfl, rfl⟩
    · cases hk
theorem each_of : ∀ {ds : List D} {vs : List V} {us : List Value}, Vals vs us → ds.length = vs.length → PySem.W.EachIs (fun u (c : D × V) => RelV c.2 u) us (ds.zip vs)
  | [], [], _, .nil, _ => .nil
  | d :: ds, v :: vs, _, .cons q r, h => .cons q (each_of r (by simpa using h))
  | [], _ :: _, _, _, h => by simp at h
  | _ :: _, [], _, _, h => by simp at h
theorem vals_of : ∀ {us : List Value} {cs : List (D × V)}, PySem.W.EachIs (fun u (c : D × V) => RelV c.2 u) us cs → Vals (cs.map (·.2)) us
  | _, _, .nil => .nil
  | _, _, .cons q r => .cons q (vals_of r)
/-- the sort, once its key function stands -/
theorem sort_run {n : Nat} {f : Addr} {a : Addr} {vs : List V} {ds ys : List D} {Q : VK} (I : Inv X pins σ H s) (rs : RelS X.K T ρ Z st H) (hq : SqL X.K H a vs ∨ SqT X.K H a vs) (rr : Reps X.K ρ Z H ds vs) (hs : sortKD n ds = some ys) (hz : ys.length ≤ sizeLine) (hu : X.A.units + 64 < cLine)
    (turn : ∀ (u : Value) (d : PyData) (h : Heap) (tk : Nat), (∀ b o, s.heap.get? b = some o → h.get? b = some o) → QK.KeyAt s.heap u n d →
      wpAny (model X.prog X.w) X.A.in1.in1 (call (.ref f) [u]) (PySem.W.KeyPure d { s with heap := h, toks := tk }) (fun _ _ => False) { s with heap := h, toks := tk })
    (k : ∀ ρ' Z' H' v, Fr ρ Z H ρ' Z' H' → RelS X.K T ρ' Z' st H' → Rep X.K ρ' Z' H' (.lst ys) v → Q v H') : wpAny (model X.prog X.w) X.A (call (.builtin "sorted") [.ref a] [(Str.ofString "key", .ref f)]) (EP X pins σ Q) X.xe s := by
  obtain ⟨hk, rfl⟩ := sortKD_eq hs
  have lz : (ds.mergeSort (leK n)).length = ds.length := List.length_mergeSort _
  rw [lz] at hz
  have hl := rr.len
  obtain ⟨us, rv, src⟩ : ∃ us, Vals vs us ∧ QK.IsSrc s.heap a us := by
    rcases hq with hq | hq
    · obtain ⟨its, rv, pl, _⟩ := I.list hq
      exact ⟨its, rv, .inl pl.isList⟩
    · obtain ⟨its, rv, pl, _⟩ := I.tuple hq
      exact ⟨its, rv, .inr pl⟩
  have mem : ∀ c ∈ ds.zip vs, hasK n c.1 = true ∧ Rep X.K ρ Z H c.1 c.2 := fun c hc => by
    obtain ⟨i, hi⟩ := List.getElem?_of_mem hc
    rw [List.getElem?_zip_eq_some] at hi
    exact ⟨hk _ (List.mem_of_getElem? hi.1), (reps_iff.mp rr).2 i _ _ hi.1 hi.2⟩
  have czl : (ds.zip vs).length = ds.length := by rw [List.length_zip, ← hl, Nat.min_self]
  have fsts : (ds.zip vs).map (·.1) = ds := List.map_fst_zip (by omega)
  refine QK.sorted_key (β := D × V) (R := fun u c => RelV c.2 u) (bs := ds.zip vs) (fun c => keyP n c.1) src (each_of rv hl) ?_ ?_ (by rw [czl]; exact hz) (fun c _ => ?_) (fun u c ru hc h tk hh => ?_) fun out c0 h' tk keep hD hlen hE => ?_
  · refine PySem.W.AllAlike.of fun b b' => ?_
    unfold keyP
    by_cases h0 : n = 0 <;> simp [h0, PySem.W.alike, PySem.W.alikeAll]
  · by_cases h0 : n = 0
    · exact PySem.W.Sortable.others fun b => by unfold keyP; simp [h0]
    · exact PySem.W.Sortable.tuples fun b => by unfold keyP; simp [h0]
  · have : (keyP n c.1).depth ≤ 1 := by
      unfold keyP
      by_cases h0 : n = 0 <;> simp [h0, PyData.depth, PyData.depthAll]
    omega
  · exact turn u _ h tk hh (keyAt_of I (mem c hc).2 ru (mem c hc).1)
  · rw [le_eq (n := n) (β := D × V) fun c => c.1] at hE
    have perm : ((ds.zip vs).mergeSort fun a b => leK n a.1 b.1).Perm (ds.zip vs) := List.mergeSort_perm _ _
    have m1 : (((ds.zip vs).mergeSort fun a b => leK n a.1 b.1).map (·.1)) = ds.mergeSort (leK n) := by
      rw [List.map_mergeSort (s := leK n) (fun _ _ _ _ => rfl), fsts]
    have hn : H (s.heap.objs.size + 1) = none := I.hok.fresh (Nat.le_succ _)
    have rl : Reps X.K ρ Z H (ds.mergeSort (leK n)) (((ds.zip vs).mergeSort fun a b => leK n a.1 b.1).map (·.2)) := by
      rw [← m1]
      refine .of_get (by simp) fun i d v e1 e2 => ?_
      rw [List.getElem?_map] at e1 e2
      cases e : ((ds.zip vs).mergeSort fun a b => leK n a.1 b.1)[i]? with
      | none => rw [e] at e1; cases e1
      | some c =>
        rw [e] at e1 e2
        cases e1; cases e2
        exact (mem c (perm.mem_iff.mp (List.mem_of_getElem? e))).2
    refine ⟨.ref (s.heap.objs.size + 1), upd H (s.heap.objs.size + 1) (.lst (((ds.zip vs).mergeSort fun a b => leK n a.1 b.1).map (·.2))), I.laid (t' := tk) keep (Nat.le_succ _) ⟨by rw [← rl.len, lz]; exact hz, out, c0, vals_of hE, hD⟩, rfl, k ρ Z _ _ (fr_new hn) (rs.new hn) ?_⟩
    simp only [Rep]
    exact ⟨_, _, rfl, ⟨upd_same, rs.free hn⟩, Reps.mono rs.sub (fr_new hn) _ _ rl⟩
end
section
variable {g : Sig} {C : Ctx} {T : List (Addr × Str)} {k0 : Nat} {L : Lv} {X : Cx} {e : Expr} {a ky : _root_.Q.X} {pos p lpos kpos : Pos} {params : Arguments} {body : Expr} {scope : Scope}
theorem kws_one {v : Expr} {env : PySem.Env} : (backToKw pos (keywordEach [⟨some (Str.ofString "key"), v, kpos⟩] env)) = [(some (Str.ofString "key"), do let u ← eval v env; standAt pos; pure u)] := rfl
theorem s_sortL (G : Good g C T k0 L X) (hl : L.lam = true) (hg : glB L.sc "sorted" = true) (hs : starP e = false) (hp : QK.lamOk (keyN ky) params body scope = true) (ha : PE X e (tEv X.K T C a)) :
    PE X (.Call (.Name "sorted" p) [e] [⟨some (Str.ofString "key"), .Lambda params body scope lpos, kpos⟩] pos) (tEv X.K T C (.sortK a ky)) := by
  obtain ⟨c, Pt, hc, TB, hm, hu⟩ := G.lam hl
  refine ⟨fun pins s σ H Q I h => ?_⟩
  obtain ⟨ρ0, Z0, st, env, d, st', rs, re, h, kk⟩ := h
  simp only [ev, Option.bind_eq_some_iff] at h
  obtain ⟨⟨x, st1⟩, h1, xs, h2, ys, h3, h4⟩ := h
  split at h4
  · rename_i hz
    cases h4
    refine wpAny_Call_Name_kw (ld_blt I (glB_ok G hg).1 (G.blt _ (by decide)) boot_sorted ?_)
    refine callWith_kw (thn ((pa_cons ha pa_nil (star_plain hs)).run pos pins s σ H (fun vs H1 => ∃ ρ1 Z1 v, vs = [v] ∧ Fr ρ0 Z0 H ρ1 Z1 H1 ∧ RelS X.K T ρ1 Z1 st1 H1 ∧ Rep X.K ρ1 Z1 H1 x v) I
      (tEv.go rs re h1 fun ρ1 Z1 H1 v f1 r1 e1 q1 => ⟨ρ1, Z1, v, rfl, f1, r1, q1⟩)) fun us s1 ⟨vs, H1, I1, rv, ρ1, Z1, v1, ev, f1, r1, q1⟩ => ?_) (by rw [star_plain hs]; rfl) (by rw [star_plain hs]; rfl)
    subst ev
    obtain ⟨y, hsc, hy⟩ : ∃ y, scope.names = [(y, .local)] ∧ QK.lamArg params = some y := by
      unfold QK.lamOk at hp
      split at hp
      · rename_i y hy
        simp only [Bool.and_eq_true] at hp
        exact ⟨y, (QK.keyScope_ok hp.1.1).2.2.2, hy⟩
      · cases hp
    show wpAny _ _ (evalAll [do let u ← eval (.Lambda params body scope lpos) X.env; standAt pos; pure u]) _ _ s1
    refine wpAny_evalAll_cons (wpAny_bind (QK.make3 I1 TB hc hm hu r1.tabs ?_ (fun z hz1 hz2 => ?_) fun f c' pm ctv H2 s2 I2 eN dm T2 hf hco => wpAny_bind (wpAny_standAt (wpAny_pure (wpAny_evalAll_nil ?_)))))
    · obtain ⟨an, pp, rfl⟩ := QK.lamArg_ok hy
      rfl
    · rw [hsc] at hz1
      have : z = (y, .local) := by simpa using hz1
      rw [this] at hz2
      cases hz2
    · have f2 : Fr ρ1 Z1 H1 ρ1 Z1 H2 := ⟨⟨[], by simp⟩, fun b o e _ n => eN b o e n, fun _ _ _ => Iff.rfl, dm, fun b o u e => eN b _ e (fun ps z => nomatch z), fun _ e => .inl e⟩
      have r2 : RelS X.K T ρ1 Z1 st1 H2 := ⟨r1.len, r1.nd, r1.sub, fun b hb => let ⟨o, ho⟩ := r1.dom b hb; dm b o ho, fun n b so e1 e2 => by
        have q := r1.obj n b so e1 e2
        cases so with
        | lst ds => obtain ⟨vs, a1, a2⟩ := q; exact ⟨vs, eN _ _ a1 (fun ps z => nomatch z), Reps.mono r1.sub f2 _ _ a2⟩
        | dct kvs => obtain ⟨vs, a1, a2⟩ := q; exact ⟨vs, eN _ _ a1 (fun ps z => nomatch z), a2.mono r1.sub f2⟩
        | lck kvs => obtain ⟨ob, vs, a1, a2⟩ := q; exact ⟨ob, vs, eN _ _ a1 (fun ps z => nomatch z), a2.mono r1.sub f2⟩, T2⟩
      obtain ⟨a1, vs0, rfl, q2, q3⟩ := rep_seq r2 (Rep.mono r1.sub f2 _ _ q1) h2
      obtain rfl := Vals.ref1 rv
      obtain ⟨⟨oc, us, t, hoc, hdc, hvc⟩, _, _⟩ := I2.hok c' _ hco
      have dp := G.room.dp
      exact sort_run I2 r2 q2 q3 h3 hz G.u64 (fun u d h tk hh hK => QK.lam_turn (s := { s2 with heap := h, toks := tk }) (hh _ _ hf) ⟨c', oc, us, t, rfl, hh _ _ hoc, hdc, hvc⟩ (by show X.A.depth < recursionLimit; omega) (I2.nolimit.keeps hh) hp (hK.keeps hh))
        fun ρ' Z' H' v ff rr qq => kk ρ' Z' H' v ((f1.trans f2).trans ff) rr qq
  · cases h4
theorem s_sortF {f : Str} {p2 : Pos} (G : Good g C T k0 L X) (hf : (f, keyN ky) ∈ g.keys) (hgf : glB L.sc f = true) (hg : glB L.sc "sorted" = true) (hs : starP e = false) (ha : PE X e (tEv X.K T C a)) :
    PE X (.Call (.Name "sorted" p) [e] [⟨some (Str.ofString "key"), .Name f p2, kpos⟩] pos) (tEv X.K T C (.sortK a ky)) := by
  obtain ⟨fa, st0, oc, od, an, sl, kV, doc, pm, cdv, ct, m1, m2, m3, m4⟩ := G.keys _ hf
  refine ⟨fun pins s σ H Q I h => ?_⟩
  obtain ⟨ρ0, Z0, st, env, d, st', rs, re, h, kk⟩ := h
  simp only [ev, Option.bind_eq_some_iff] at h
  obtain ⟨⟨x, st1⟩, h1, xs, h2, ys, h3, h4⟩ := h
  split at h4
  · rename_i hz
    cases h4
    refine wpAny_Call_Name_kw (ld_blt I (glB_ok G hg).1 (G.blt _ (by decide)) boot_sorted ?_)
    refine callWith_kw (thn ((pa_cons ha pa_nil (star_plain hs)).run pos pins s σ H (fun vs H1 => ∃ ρ1 Z1 v, vs = [v] ∧ Fr ρ0 Z0 H ρ1 Z1 H1 ∧ RelS X.K T ρ1 Z1 st1 H1 ∧ Rep X.K ρ1 Z1 H1 x v) I
      (tEv.go rs re h1 fun ρ1 Z1 H1 v f1 r1 e1 q1 => ⟨ρ1, Z1, v, rfl, f1, r1, q1⟩)) fun us s1 ⟨vs, H1, I1, rv, ρ1, Z1, v1, ev, f1, r1, q1⟩ => ?_) (by rw [star_plain hs]; rfl) (by rw [star_plain hs]; rfl)
    subst ev
    show wpAny _ _ (evalAll [do let u ← eval (.Name f p2) X.env; standAt pos; pure u]) _ _ s1
    refine wpAny_evalAll_cons (wpAny_bind (ld_glob I1 (glB_ok G hgf).1 m1 (wpAny_bind (wpAny_standAt (wpAny_pure (wpAny_evalAll_nil ?_)))) (glB_ok G hgf).2.1))
    obtain ⟨a1, vs0, rfl, q2, q3⟩ := rep_seq r1 q1 h2
    obtain rfl := Vals.ref1 rv
    have dp := G.room.dp
    have ho := I1.kIn _ _ m2
    exact sort_run I1 r1 q2 q3 h3 hz G.u64 (fun u d h tk hh hK => QK.def_turn (s := { s1 with heap := h, toks := tk }) (hh _ _ ho) (PySem.W.codeRec_of (I1.kIn.keeps hh) m3) (by show X.A.depth < recursionLimit; omega) (I1.nolimit.keeps hh) m4 (hK.keeps hh))
      fun ρ' Z' H' v ff rr qq => kk ρ' Z' H' v (f1.trans ff) rr qq
  · cases h4
end
/-! ### a comprehension over the keys of a dict -/
section
variable {K : PySem.W.Frag} {T : List (Addr × Str)} {ρ : List Addr} {Z : Addr → Prop} {H : Hp} {st : Store} {ad : Addr} {n : Nat} {od : Obj}
theorem fy_unlock {ws : List (Key × V)} (hZ : Z ad) (hf : H ad = some (.frz od (.dK ws))) : Fy ρ Z H ρ Z (upd H ad (.dK ws)) := by
  refine ⟨⟨[], by simp⟩, fun a o h hz _ => by rw [upd_ne (fun (e : a = ad) => hz (by rw [e]; exact hZ))]; exact h, fun _ _ _ z => z, fun a o us h => ?_⟩
  have e : a ≠ ad := fun e => by
    rw [e, hf] at h
    have := Option.some.inj h
    simp at this
  rw [upd_ne e]; exact h
theorem RelS.unlock {ws : List (Key × V)} {kvs : List (Key × D)} (r : RelS K T ρ Z st H) (hn : ρ[n]? = some ad) (hf : H ad = some (.frz od (.dK ws))) (hk : KReps K ρ Z H kvs ws) : RelS K T ρ Z (st.set n (.dct kvs)) (upd H ad (.dK ws)) := by
  have hp : ad ∈ ρ := List.mem_of_getElem? hn
  have f : Fy ρ Z H ρ Z (upd H ad (.dK ws)) := fy_unlock (r.sub _ hp) hf
  have k : ∀ a o', H a = some o' → a ≠ ad → upd H ad (.dK ws) a = some o' := fun a o' h e => by rw [upd_ne e]; exact h
  have hnl : n < ρ.length := (List.getElem?_eq_some_iff.mp hn).1
  refine ⟨by simp [r.len], r.nd, r.sub, fun a h => ?_, fun m a so h1 h2 => ?_, r.tabs_of fun a o' h ha => k a o' h fun e => ha (e ▸ hp)⟩
  · by_cases e : a = ad
    · subst e; exact ⟨_, upd_same⟩
    · obtain ⟨o', h'⟩ := r.dom a h
      exact ⟨o', k a o' h' e⟩
  · by_cases hm : n = m
    · subst hm
      rw [hn] at h1
      cases h1
      rw [List.getElem?_set_self (by rw [← r.len]; exact hnl)] at h2
      cases h2
      exact ⟨ws, upd_same, hk.my f⟩
    · rw [List.getElem?_set_ne hm] at h2
      have hap : a ≠ ad := fun e => by
        subst e
        exact hm ((List.getElem_inj r.nd).mp ((List.getElem?_eq_some_iff.mp hn).2.trans (List.getElem?_eq_some_iff.mp h1).2.symm))
      have q := r.obj m a so h1 h2
      cases so with
      | lst ds => obtain ⟨vs, e, q⟩ := q; exact ⟨vs, k _ _ e hap, Reps.my f _ _ q⟩
      | dct kvs => obtain ⟨vs, e, q⟩ := q; exact ⟨vs, k _ _ e hap, q.my f⟩
      | lck kvs => obtain ⟨ob, vs, e, q⟩ := q; exact ⟨ob, vs, k _ _ e hap, q.my f⟩
theorem src_keys {ws : List (Key × V)} {kvs : List (Key × D)} (hf : H ad = some (.frz od (.dK ws))) (hk : KReps K ρ Z H kvs ws) : Src K T ρ Z H (Itk ad od ws) none (kvs.map fun kv => unkey kv.1) := by
  intro ρ' Z' st' H' f rs _
  have h1 : H' ad = some (.frz od (.dK ws)) := f.frz _ _ _ hf
  have hl : kvs.length = ws.length := by have := congrArg List.length hk.1; simpa using this
  rw [List.length_map]
  refine ⟨fun i hi => ⟨h1, by omega⟩, ⟨h1, by omega⟩, fun i x H'' hi hy => ?_⟩
  obtain ⟨rfl, k, v, e1, rfl⟩ := hy
  have e2 : (kvs.map (·.1))[i]? = some k := by rw [hk.1, List.getElem?_map, e1]; rfl
  have e3 : (kvs.map fun kv => unkey kv.1)[i]? = some (unkey k) := by
    rw [List.getElem?_map] at e2 ⊢
    cases q : kvs[i]? with
    | none => rw [q] at e2; cases e2
    | some kv => rw [q] at e2; cases e2; rfl
  refine ⟨_, e3, .refl, rs, ?_⟩
  cases k with
  | inl j => simp [unkey, kV, Rep]
  | inr z =>
    simp only [unkey, kV, Rep]
    exact ⟨trivial, hk.2.2 z (List.mem_of_getElem? e2)⟩
end
section
variable {g : Sig} {C : Ctx} {T : List (Addr × Str)} {k0 : Nat} {L : Lv} {X : Cx} {own : List (Str × Nat)} {t : Tt} {c e : _root_.Q.X} {i : Nat} {tg iter elt : Expr} {ifs : List Expr} {scope : Scope} {pos : Pos}
theorem i_compK (hs : ∀ i ∈ tSlots t, i ∈ own.map (·.2)) {σ : L2.St} {H : Hp} {Q : VK} (h : tEv X.K T C (.compK own t i c e) σ H Q) :
    tLockE (tLc (iKeys (tVar i)) (tBd X.K t) (tB (tEv X.K T C c)) (tEv X.K T C e) (own.map (·.2))) σ H Q := by
  obtain ⟨ρ0, Z0, st, env, d, st', rs, re, h, k⟩ := h
  simp only [ev] at h
  split at h
  · rename_i n henv
    split at h
    · rename_i kvs hst
      simp only [Option.bind_eq_some_iff] at h
      obtain ⟨⟨zs, st2⟩, h2, h3⟩ := h
      split at h3
      · rename_i kvs' hst2
        split at h3
        · rename_i hlen
          cases h3
          obtain ⟨v, hσ, qv⟩ := re.2 i _ henv
          obtain ⟨ad, ws, rfl, hρ, hH, qk⟩ := loc_dct rs qv hst
          refine ⟨ad, .dK ws, hH, trivial, fun od => ?_⟩
          have nf : ∀ o u, H ad ≠ some (.frz o u) := fun o u e => by rw [hH] at e; cases e
          have hpm : ad ∈ ρ0 := List.mem_of_getElem? hρ
          have fl : Fr ρ0 Z0 H ρ0 Z0 (upd H ad (.frz od (.dK ws))) := fr_write hpm ⟨_, hH⟩ nf
          have rl : RelS X.K T ρ0 Z0 (st.set n (.lck kvs)) (upd H ad (.frz od (.dK ws))) := rs.write hρ nf ⟨od, ws, upd_same, qk.mono rs.sub fl⟩
          refine ⟨.ref ad, hσ, ad, od, rfl, .inl ⟨ws, upd_same, ?_⟩⟩
          intro D0 hD
          have re1 := re.mono rs.sub fl
          have src : Src X.K T ρ0 Z0 (upd H ad (.frz od (.dK ws))) (Itk ad od ws) none (kvs.map fun kv => unkey kv.1) := src_keys upd_same (qk.mono rs.sub fl)
          refine walk_loop (acc0 := []) (zs0 := zs) (body := fun x H' Nx => tBd X.K t x (wipe σ (own.map (·.2))) H' fun σ2 H2 => wipe σ2 (own.map (·.2)) = wipe σ (own.map (·.2)) ∧ tB (tEv X.K T C c) σ2 H2 fun b H3 =>
            if b = true then tEv X.K T C e σ2 H3 fun y H4 => ∃ acc, H4 D0 = some (.lst acc) ∧ acc.length < sizeLine ∧ Nx (upd H4 D0 (.lst (acc ++ [y]))) else Nx H3) src ?_ h2 (Fill.start rl hD) hlen fun H' hF => ?_
          · intro acc ys st3 st4 H' x d ρ Z uv Nx f fs dm rs' hn hz hD' qa qd ho hl hk
            simp only [compOne, Option.bind_eq_some_iff] at ho
            obtain ⟨env1, h4, ⟨b, st5⟩, h5, h6⟩ := ho
            refine bd_go rs' (re1.mz fs) hs qd h4 fun σ2 re2 hw => ⟨hw, ?_⟩
            refine tst rs' re2 h5 fun ρ2 Z2 H2 f2 r2 e2 => ?_
            have fz2 := f2.fz rs'.sub
            have hn2 : D0 ∉ ρ2 := fun z => by
              rcases f2.new D0 z with z | z
              · exact hn z
              · rw [hD'] at z; cases z
            have hD2 := f2.keep D0 _ hD' hn (fun _ z => nomatch z)
            have dm2 : ∀ c o, (upd H ad (.frz od (.dK ws))) c = some o → ∃ o', H2 c = some o' := fun c o h => by
              obtain ⟨o', h'⟩ := dm c o h
              exact f2.dom c o' h'
            have qa2 := Reps.mono rs'.sub f2 _ _ qa
            cases b with
            | true =>
              simp only [if_true] at h6 ⊢
              exact elt_go (f.trans f2) (fs.trans dm fz2) dm2 hD r2 e2 hn2 ((f2.ex D0 _ hD').mpr hz) hD2 qa2 h6 hl hk
            | false =>
              simp only [Bool.false_eq_true, if_false] at h6 ⊢
              cases h6
              refine hk _ ?_
              rw [List.append_nil]
              exact ⟨ρ2, Z2, uv, f.trans f2, fs.trans dm fz2, dm2, r2, hn2, (f2.ex D0 _ hD').mpr hz, hD2, qa2⟩
          · refine hF.done (Q := fun v H' => H' ad = some (.frz od (.dK ws)) ∧ Q v (upd H' ad (.dK ws))) rl hD fun ρ' Z' H'' v f r q => ?_
            have hfz : H'' ad = some (.frz od (.dK ws)) := f.frz _ _ _ upd_same
            refine ⟨hfz, ?_⟩
            obtain ⟨r0, e0⟩ := f.pre
            have hρ' : ρ'[n]? = some ad := by rw [e0, List.getElem?_append_left (List.getElem?_eq_some_iff.mp hρ).1]; exact hρ
            obtain ⟨o', ws', a1, a2⟩ := r.obj n ad _ hρ' hst2
            rw [hfz] at a1
            cases a1
            have hZ : Z' ad := r.sub _ (List.mem_of_getElem? hρ')
            have ne : ∀ a o, H a = some o → a ∉ ρ0 → a ≠ ad := fun a o _ h1 e => h1 (e ▸ hpm)
            have fin : Fr ρ0 Z0 H ρ' Z' (upd H'' ad (.dK ws)) := by
              refine ⟨f.pre, fun a o h1 h2 h3 => ?_, fun a o h1 => ?_, fun a o h1 => ?_, fun a o u h1 => ?_, fun a h1 => ?_⟩
              · rw [upd_ne (ne a o h1 h2)]
                exact f.keep a o (by rw [upd_ne (ne a o h1 h2)]; exact h1) h2 h3
              · by_cases e : a = ad
                · subst e
                  exact f.ex _ _ upd_same
                · exact f.ex a o (by rw [upd_ne e]; exact h1)
              · by_cases e : a = ad
                · subst e; exact ⟨_, upd_same⟩
                · obtain ⟨o', h'⟩ := f.dom a o (by rw [upd_ne e]; exact h1)
                  exact ⟨o', by rw [upd_ne e]; exact h'⟩
              · have e : a ≠ ad := fun e => nf o u (e ▸ h1)
                rw [upd_ne e]
                exact f.frz a o u (by rw [upd_ne e]; exact h1)
              · rcases f.new a h1 with z | z
                · exact .inl z
                · by_cases e : a = ad
                  · subst e; rw [upd_same] at z; cases z
                  · rw [upd_ne e] at z; exact .inr z
            exact k _ _ _ _ fin (r.unlock hρ' hfz a2) (Rep.my (fy_unlock hZ hfz) _ _ q)
        · cases h3
      · cases h3
    · cases h
  · cases h
theorem s_compK {x : Str} {p : Pos} (G : Good g C T k0 L X) (h1 : L.N[i]? = some x) (h2 : visB L.sc x = true) (h3 : (x == ("__debug__" : Str)) = false) (h4 : (x == ("__classdict__" : Str)) = false) (ok : BlkOk X.N X.env.scope scope own) (hsl : ∀ i ∈ tSlots t, i ∈ own.map (·.2))
    (hg : ∀ (s : Shared) (H : Hp) (C' : Addr) (cl : List (Str × Addr)) (fp : List Addr), PG (X.blk s H scope (compEnvC scope cl C' X.env) fp) tg (tBd X.K t))
    (ht : ∀ (s : Shared) (H : Hp) (C' : Addr) (cl : List (Str × Addr)) (fp : List Addr), PTs (X.blk s H scope (compEnvC scope cl C' X.env) fp) ifs (tB (tEv X.K T C c)))
    (he : ∀ (s : Shared) (H : Hp) (C' : Addr) (cl : List (Str × Addr)) (fp : List Addr), PE (X.blk s H scope (compEnvC scope cl C' X.env) fp) elt (tEv X.K T C e)) :
    PE X (.ListComp elt [⟨tg, .Name x p, ifs, 0⟩] scope pos) (tEv X.K T C (.compK own t i c e)) :=
  (pe_lock (pe_lc G.calm (by rw [G.hN]; exact G.nd) (pi_keys (pe_var (i := i) (by rw [G.hN]; exact h1) (by rw [G.sc]; exact visB_ok h2) h3 h4)) ok hg ht he (fun _ => rfl))).imp fun σ H Q h => i_compK hsl h
end
end Q

/-! QDct: displays of dicts. -/
namespace Q
open PySem PySem.Spec PyProof.Rows L2

section
variable {K : PySem.W.Frag} {T : List (Addr × Str)} {ρ ρ1 : List Addr} {Z Z1 : Addr → Prop} {H H1 : Hp} {st : Store} {p : Addr}
/-- a new object that nothing leans on -/
theorem RelS.forb {o : HO} (r : RelS K T ρ Z st H) (hp : H p = none) : RelS K T ρ (fun a => Z a ∨ a = p) st (upd H p o) ∧ Fz ρ Z H ρ (fun a => Z a ∨ a = p) (upd H p o) := by
  have k : ∀ a o', H a = some o' → upd H p o a = some o' := fun a o' h => by rw [upd_ne (ne_of_none h hp)]; exact h
  have fz : Fz ρ Z H ρ (fun a => Z a ∨ a = p) (upd H p o) := ⟨⟨[], by simp⟩, fun a o h _ _ => k a o h, fun a o h z => by
    rcases z with z | z
    · exact z
    · exact absurd z (ne_of_none h hp), fun a o u h => k a _ h⟩
  refine ⟨⟨r.len, r.nd, fun a h => .inl (r.sub a h), fun a h => ?_, fun n a so h1 h2 => ?_, r.tabs_of fun a o h _ => k a o h⟩, fz⟩
  · rcases h with h | rfl
    · obtain ⟨o', h'⟩ := r.dom a h
      exact ⟨o', k a o' h'⟩
    · exact ⟨_, upd_same⟩
  · have q := r.obj n a so h1 h2
    cases so with
    | lst ds => obtain ⟨vs, e1, q⟩ := q; exact ⟨vs, k _ _ e1, Reps.mz fz _ _ q⟩
    | dct kvs => obtain ⟨vs, e1, q⟩ := q; exact ⟨vs, k _ _ e1, q.mz fz⟩
    | lck kvs => obtain ⟨ob, vs, e1, q⟩ := q; exact ⟨ob, vs, k _ _ e1, q.mz fz⟩
/-- it becomes a place -/
theorem RelS.adopt {ws us : List (Key × V)} {kvs : List (Key × D)} (r : RelS K T ρ Z st H) (hz : Z p) (hn : p ∉ ρ) (hD : H p = some (.dK ws)) (q : KReps K ρ Z H kvs us) :
    RelS K T (ρ ++ [p]) Z (st ++ [.dct kvs]) (upd H p (.dK us)) ∧ Fz ρ Z H (ρ ++ [p]) Z (upd H p (.dK us)) := by
  have k : ∀ a o', H a = some o' → a ≠ p → upd H p (.dK us) a = some o' := fun a o' h e => by rw [upd_ne e]; exact h
  have fz : Fz ρ Z H (ρ ++ [p]) Z (upd H p (.dK us)) := ⟨⟨[p], rfl⟩, fun a o h hz' _ => k a o h fun e => hz' (e ▸ hz), fun _ _ _ z => z, fun a o u h => k a _ h fun e => by rw [e, hD] at h; cases h⟩
  refine ⟨⟨by simp [r.len], ?_, fun a h => ?_, fun a h => ?_, fun n a so h1 h2 => ?_, fun t ht => ?_⟩, fz⟩
  · rw [List.nodup_append]
    refine ⟨r.nd, by simp, fun a ha b hb e => ?_⟩
    have eb : b = p := by simpa using hb
    subst e; subst eb
    exact hn ha
  · rcases List.mem_append.mp h with h | h
    · exact r.sub a h
    · have e : a = p := by simpa using h
      rw [e]; exact hz
  · by_cases e : a = p
    · subst e; exact ⟨_, upd_same⟩
    · obtain ⟨o', h'⟩ := r.dom a h
      exact ⟨o', k a o' h' e⟩
  · by_cases hl : n < ρ.length
    · rw [List.getElem?_append_left hl] at h1
      rw [List.getElem?_append_left (by rw [← r.len]; exact hl)] at h2
      have e : a ≠ p := fun e => hn (e ▸ List.mem_of_getElem? h1)
      have q := r.obj n a so h1 h2
      cases so with
      | lst ds => obtain ⟨vs, e1, q⟩ := q; exact ⟨vs, k _ _ e1 e, Reps.mz fz _ _ q⟩
      | dct kvs => obtain ⟨vs, e1, q⟩ := q; exact ⟨vs, k _ _ e1 e, q.mz fz⟩
      | lck kvs => obtain ⟨ob, vs, e1, q⟩ := q; exact ⟨ob, vs, k _ _ e1 e, q.mz fz⟩
    · have hn' : n = ρ.length := by
        have := (List.getElem?_eq_some_iff.mp h1).1
        simp at this
        omega
      subst hn'
      rw [List.getElem?_append_right (Nat.le_refl _)] at h1
      rw [r.len, List.getElem?_append_right (Nat.le_refl _)] at h2
      simp at h1 h2
      subst h1; subst h2
      exact ⟨us, upd_same, q.mz fz⟩
  · obtain ⟨ps, h1, h2, h3⟩ := r.tabs t ht
    refine ⟨ps, k _ _ h1 (fun e => by rw [e, hD] at h1; cases h1), h2, fun pos cv hc => ?_⟩
    obtain ⟨c, e1, e2⟩ := h3 pos cv hc
    exact ⟨c, e1, k _ _ e2 (fun e => by
      rw [e, hD] at e2
      have := Option.some.inj e2
      simp [LamX.CodeO] at this)⟩
theorem merge_rep : ∀ {ps : List (Key × D)} {ks : List (Key × V)} {acc : List (Key × D)} {bcc : List (Key × V)}, KReps K ρ Z H ps ks → KReps K ρ Z H acc bcc → KReps K ρ Z H (mergeP acc ps) (mergeK bcc ks)
  | [], ks, acc, bcc, h, h2 => by
    have := h.unnil
    subst this
    exact h2
  | x :: ps, ks, acc, bcc, h, h2 => by
    obtain ⟨w, r, rfl, e1, e2, e3, e4⟩ := h.uncons
    show KReps K ρ Z H (mergeP (dput acc x.1 x.2) ps) (mergeK (L2.putK bcc w.1 w.2) r)
    rw [← e1]
    exact merge_rep e4 (put_rep h2 e2 e3)
end
def trsOf (K : PySem.W.Frag) (T : List (Addr × Str)) (C : Ctx) : List X → List (TE × TE)
  | k :: v :: xs => (tEv K T C k, tEv K T C v) :: trsOf K T C xs
  | _ => []
def noStar : List X → Bool
  | [] => true
  | x :: xs => !starX x && noStar xs
section
variable {K : PySem.W.Frag} {T : List (Addr × Str)} {C : Ctx}
theorem pairs_go : ∀ {xs : List X} {ρ : List Addr} {Z : Addr → Prop} {H : Hp} {st st' : Store} {env : Env} {σ : L2.St} {ds : List D} {ps : List (Key × D)} {Q : List (V × V) → Hp → Prop}, noStar xs = true → RelS K T ρ Z st H → RelE K ρ Z H env σ → evL C xs env st = some (ds, st') → dPairs ds = some ps →
    (∀ ρ' Z' H' (ks : List (Key × V)), Fr ρ Z H ρ' Z' H' → RelS K T ρ' Z' st' H' → KReps K ρ' Z' H' ps ks → Q (ks.map fun kv => (kV kv.1, kv.2)) H') → tPairs (trsOf K T C xs) σ H Q
  | [], ρ, Z, H, st, st', env, σ, ds, ps, Q, hn, rs, re, h, hp, k => by
    simp only [evL] at h
    cases h
    simp only [dPairs] at hp
    cases hp
    exact k _ _ _ [] .refl rs .nil
  | [x], ρ, Z, H, st, st', env, σ, ds, ps, Q, hn, rs, re, h, hp, k => by
    simp only [noStar, Bool.and_true, Bool.not_eq_true'] at hn
    rw [evL_cons hn] at h
    simp only [evL, Option.bind_eq_some_iff, Option.map_eq_some_iff] at h
    obtain ⟨⟨d, st1⟩, h1, ⟨es, st2⟩, h2, h3⟩ := h
    cases h2; cases h3
    simp [dPairs] at hp
  | x :: y :: xs, ρ, Z, H, st, st', env, σ, ds, ps, Q, hn, rs, re, h, hp, k => by
    simp only [noStar, Bool.and_eq_true, Bool.not_eq_true'] at hn
    rw [evL_cons hn.1] at h
    simp only [Option.bind_eq_some_iff, Option.map_eq_some_iff] at h
    obtain ⟨⟨d, st1⟩, h1, ⟨es, st2⟩, h2, h3⟩ := h
    rw [evL_cons hn.2.1] at h2
    simp only [Option.bind_eq_some_iff, Option.map_eq_some_iff] at h2
    obtain ⟨⟨d2, st3⟩, h4, ⟨es2, st4⟩, h5, h6⟩ := h2
    cases h6; cases h3
    simp only [dPairs, Option.bind_eq_some_iff, Option.map_eq_some_iff] at hp
    obtain ⟨ky, h7, qs, h8, h9⟩ := hp
    subst h9
    refine tEv.go rs re h1 fun ρ1 Z1 H1 v f1 r1 e1 q1 => tEv.go r1 e1 h4 fun ρ2 Z2 H2 u f2 r2 e2 q2 => ?_
    refine pairs_go hn.2.2 r2 e2 h5 h8 fun ρ3 Z3 H3 ks f3 r3 q3 => ?_
    have q1' := Rep.mono r2.sub f3 _ _ (Rep.mono r1.sub f2 _ _ q1)
    have q2' := Rep.mono r2.sub f3 _ _ q2
    rw [rep_key q1' h7]
    exact k ρ3 Z3 H3 ((ky, u) :: ks) ((f1.trans f2).trans f3) r3 (KReps.cons rfl q2' (fun z e => key_str q1' h7 z e) q3)
theorem i_dct {xs ys : List X} {σ : L2.St} {H : Hp} {Q : VK} (hn : noStar xs = true) (h : tEv K T C (.dct xs ys) σ H Q) : tDisp (trsOf K T C xs) σ H Q := by
  obtain ⟨ρ, Z, st, env, d, st', rs, re, h, k⟩ := h
  simp only [ev, Option.bind_eq_some_iff] at h
  obtain ⟨⟨ds, st1⟩, h1, ps, h2, h3⟩ := h
  split at h3
  · rename_i hl
    unfold mkD at h3
    cases h3
    intro p hp
    obtain ⟨r1, fz1⟩ := rs.forb (o := .dK []) hp
    have np : p ∉ ρ := fun z => rs.free hp (rs.sub _ z)
    refine pairs_go hn r1 (re.mz fz1) h1 h2 fun ρ2 Z2 H2 ks f2 r2 q2 => ?_
    have hp2 : H2 p = some (.dK []) := f2.keep p _ upd_same np fun _ z => nomatch z
    have np2 : p ∉ ρ2 := fun z => by
      rcases f2.new p z with z | z
      · exact np z
      · rw [upd_same] at z; cases z
    have zp : Z2 p := (f2.ex p _ upd_same).mpr (.inr rfl)
    obtain ⟨r3, fz3⟩ := r2.adopt zp np2 hp2 (merge_rep q2 .nil)
    refine ⟨hp2, ks, rfl, ?_, ?_⟩
    · have := congrArg List.length q2.1
      simp only [List.length_map] at this
      omega
    · have kk : ∀ a o', H a = some o' → upd H p (.dK []) a = some o' := fun a o' h => by rw [upd_ne (ne_of_none h hp)]; exact h
      refine k (ρ2 ++ [p]) Z2 _ _ ⟨?_, fun a o h hr ht => ?_, fun a o h => ?_, fun a o h => ?_, fun a o u h => ?_, fun a h => ?_⟩ r3 ?_
      · obtain ⟨r, e⟩ := f2.pre
        exact ⟨r ++ [p], by rw [e, List.append_assoc]⟩
      · rw [upd_ne (ne_of_none h hp)]
        exact f2.keep a o (kk a o h) hr ht
      · constructor
        · intro z
          rcases (f2.ex a o (kk a o h)).mp z with z | z
          · exact z
          · exact absurd z (ne_of_none h hp)
        · intro z
          exact (f2.ex a o (kk a o h)).mpr (.inl z)
      · obtain ⟨o', h'⟩ := f2.dom a o (kk a o h)
        exact ⟨o', by rw [upd_ne (ne_of_none h hp)]; exact h'⟩
      · rw [upd_ne (ne_of_none h hp)]
        exact f2.frz a o u (kk a _ h)
      · rcases List.mem_append.mp h with h | h
        · rcases f2.new a h with z | z
          · exact .inl z
          · right
            cases e : H a with
            | none => rfl
            | some o => rw [kk a o e] at z; cases z
        · have e : a = p := by simpa using h
          rw [e]; exact .inr hp
      · simp only [Rep]
        exact ⟨p, rfl, by rw [List.getElem?_append_right (by rw [r2.len]; exact Nat.le_refl _), r2.len]; simp⟩
  · cases h3
theorem i_dct0 {ys : List X} {σ : L2.St} {H : Hp} {Q : VK} (h : tEv K T C (.dct [] ys) σ H Q) : tDNewK σ H Q := by
  obtain ⟨ρ, Z, st, env, d, st', rs, re, h, k⟩ := h
  simp only [ev, evL, Option.bind_some, dPairs] at h
  have h : mkD [] st = some (d, st') := h
  intro p hp
  exact mkD_ok rs hp .nil h fun ρ' Z' H' w f r q => k _ _ _ _ f r q
end
end Q

/-! QChk: a test that a tree is a given text's; what it brings. -/
namespace Q
open PySem PySem.Spec PyProof.Rows L2

def plainIxB : Expr → Bool
  | .Slice _ _ _ _ => false
  | _ => true
theorem plainIx_ok {r : Expr} (h : plainIxB r = true) : PlainIx r := by
  intro o i
  cases r <;> first | rfl | (simp [plainIxB] at h)
def notSetB : Expr → Bool
  | .Set _ _ _ => false
  | _ => true
theorem notSet_ok {e : Expr} (h : notSetB e = true) (env : PySem.Env) (x : Value) : foldedSetIterable e env x = pure x := by
  cases e <;> first | rfl | (simp [notSetB] at h)
def plainT : Expr → Bool
  | .UnaryOp .Not _ _ => false
  | .BoolOp _ _ _ => false
  | .IfExp _ _ _ _ => false
  | .Compare _ _ _ _ => false
  | _ => true
theorem plainT_ok {e : Expr} (h : plainT e = true) (env : PySem.Env) (whole : Sem Value) : isTrue e env whole = (do let v ← whole; standAt e.pos; holding [v] (truthy v)) := by
  cases e
  case UnaryOp op _ _ => cases op <;> first | rfl | (simp [plainT] at h)
  all_goals first | rfl | (simp [plainT] at h)
def subL (L : Lv) (scope : Scope) : Lv := ⟨L.N, relS scope L.sc, fun x => scope.names.lookup x == some .cell, false⟩
def isTup : Expr → Bool
  | .Tuple _ _ _ => true
  | _ => false
def tru : Q.X → Bool
  | .bl true => true
  | _ => false
mutual
/-- the tree is the text's -/
def okE (g : Sig) : Q.X → Lv → Expr → Bool
  | .int i, _, e => match e with
    | .Constant (.int j) _ _ => decide (i = j)
    | _ => false
  | .str s, _, e => match e with
    | .Constant (.str t) _ _ => decide (s = t) && PySem.PyData.strOk s
    | _ => false
  | .bl b, _, e => match e with
    | .Constant (.bool c) _ _ => decide (b = c)
    | _ => false
  | .non, _, e => match e with
    | .Constant .none _ _ => true
    | _ => false
  | .none_, _, _ => false
  | .star _, _, _ => false
  | .dct xs _, L, e => match e with
    | .Dict keys values _ => decide (keys.length ≤ 15) && noStar xs && okD g xs L keys values
    | _ => false
  | .sortK a ky, L, e => match e with
    | .Call (.Name y _) [x] [⟨some kw, v, _⟩] _ => decide (y = ("sorted" : Str)) && decide (kw = Str.ofString "key") && glB L.sc "sorted" && !starP x && okE g a L x && (match ky, v with
      | .int _, .Lambda params body scope _ => L.lam && QK.lamOk (keyN ky) params body scope
      | .call f _, .Name z _ => decide (z = f) && glB L.sc f && decide ((f, keyN ky) ∈ g.keys)
      | _, _ => false)
    | _ => false
  | .compK own t i c x, L, e => match e with
    | .ListComp elt [⟨tg, .Name y _, ifs, k⟩] scope _ => decide (k = 0) && blkC L.N L.sc scope own && okB (subL L scope) t tg && ((tSlots t).all fun i => decide (i ∈ own.map (·.2))) && (decide (L.N[i]? = some y) && visB L.sc y && !(y == ("__debug__" : Str)) && !(y == ("__classdict__" : Str))) && (match ifs with
      | [] => tru c
      | [y] => !iteX c && okE g c (subL L scope) y
      | _ => false) && okE g x (subL L scope) elt
    | _ => false
  | .var i, L, e => match e with
    | .Name x _ => decide (L.N[i]? = some x) && visB L.sc x && !(x == ("__debug__" : Str)) && !(x == ("__classdict__" : Str))
    | _ => false
  | .glb x, L, e => match e with
    | .Name y _ => decide (x = y) && decide (x ∈ g.cst) && glB L.sc x
    | _ => false
  | .bin op a b, L, e => match e with
    | .BinOp l o r _ => decide (o = op) && okE g a L l && okE g b L r
    | _ => false
  | .cat _ a b, L, e => match e with
    | .BinOp l o r _ => decide (o = .Add) && okE g a L l && okE g b L r
    | _ => false
  | .neg a, L, e => match e with
    | .UnaryOp o x _ => decide (o = .USub) && okE g a L x
    | _ => false
  | .not a, L, e => match e with
    | .UnaryOp o x _ => decide (o = .Not) && !iteX a && okE g a L x
    | _ => false
  | .cmp op a b, L, e => match e with
    | .Compare l [o] [r] _ => decide (o = op) && isCmp op && okE g a L l && okE g b L r
    | _ => false
  | .chain op op2 a b c, L, e => match e with
    | .Compare l [o, o2] [m, r] _ => decide (o = op) && decide (o2 = op2) && isCmp op2 && okE g a L l && okE g b L m && okE g c L r
    | _ => false
  | .isN a, L, e => match e with
    | .Compare l [o] [.Constant .none _ _] _ => decide (o = .Is) && okE g a L l
    | _ => false
  | .notN a, L, e => match e with
    | .Compare l [o] [.Constant .none _ _] _ => decide (o = .IsNot) && okE g a L l
    | _ => false
  | .isB a b, L, e => match e with
    | .Compare l [o] [.Constant (.bool t) _ _] _ => decide (o = .Is) && decide (t = b) && okE g a L l
    | _ => false
  | .mem a b, L, e => match e with
    | .Compare l [o] [r] _ => decide (o = .In) && !behindInMarks .In r && okE g a L l && okE g b L r
    | _ => false
  | .notIn a b, L, e => match e with
    | .Compare l [o] [r] _ => decide (o = .NotIn) && !behindInMarks .NotIn r && okE g a L l && okE g b L r
    | _ => false
  | .memK a b, L, e => match e with
    | .Compare l [o] [r] _ => decide (o = .In) && !behindInMarks .In r && okE g a L l && okE g b L r
    | _ => false
  | .notInK a b, L, e => match e with
    | .Compare l [o] [r] _ => decide (o = .NotIn) && !behindInMarks .NotIn r && okE g a L l && okE g b L r
    | _ => false
  | .and xs, L, e => match e with
    | .BoolOp o es _ => decide (o = .And) && xs.all (fun x => !iteX x && !starX x) && !xs.isEmpty && okL g xs L es
    | _ => false
  | .or xs, L, e => match e with
    | .BoolOp o es _ => decide (o = .Or) && xs.all (fun x => !iteX x && !starX x) && !xs.isEmpty && okL g xs L es
    | _ => false
  | .ite c a b, L, e => match e with
    | .IfExp t l r _ => !iteX c && okE g c L t && okE g a L l && okE g b L r
    | _ => false
  | .tup xs, L, e => match e with
    | .Tuple es _ _ => okL g xs L es
    | _ => false
  | .lst _ xs, L, e => match e with
    | .List es _ => okL g xs L es
    | _ => false
  | .sub a b, L, e => match e with
    | .Subscript l r _ => plainIxB r && okE g a L l && okE g b L r
    | _ => false
  | .subK a b, L, e => match e with
    | .Subscript l r _ => plainIxB r && okE g a L l && okE g b L r
    | _ => false
  | .slice a lo hi, L, e => match e with
    | .Subscript l (.Slice x y none _) _ => okE g a L l && (match x with
      | none => noneX lo
      | some x => okE g lo L x) && (match y with
      | none => noneX hi
      | some y => okE g hi L y)
    | _ => false
  | .rev a, L, e => match e with
    | .Subscript l (.Slice none none (some (.UnaryOp o (.Constant (.int z) _ _) _)) _) _ => decide (o = .USub) && decide (z = 1) && okE g a L l
    | _ => false
  | .call f xs, L, e => match e with
    | .Call (.Name y _) es [] _ => decide (y = f) && decide ((f, xs.length) ∈ g.fns) && glB L.sc f && es.all (fun e => !starP e) && okL g xs L es
    | _ => false
  | .bi f _ xs, L, e => match e with
    | .Call (.Name y _) es [] _ => decide (y = (f.name : Str)) && glB L.sc f.name && es.all (fun e => !starP e) && !es.isEmpty && okL g xs L es
    | _ => false
  | .lrange _ a, L, e => match e with
    | .Call (.Name y _) [.Call (.Name z _) [x] [] _] [] _ => decide (y = ("list" : Str)) && decide (z = ("range" : Str)) && glB L.sc "list" && glB L.sc "range" && !starP x && okE g a L x
    | _ => false
  | .isa tys a, L, e => match e with
    | .Call (.Name y _) [x, .Name u _] [] _ => decide (y = ("isinstance" : Str)) && glB L.sc "isinstance" && (match tys with
      | [t] => decide (u = (t : Str)) && decide (t ∈ tys5) && glB L.sc t
      | _ => false) && !starP x && okE g a L x
    | .Call (.Name y _) [x, .Tuple [.Name u _, .Name w _] _ _] [] _ => decide (y = ("isinstance" : Str)) && glB L.sc "isinstance" && (match tys with
      | [t, t2] => decide (u = (t : Str)) && decide (t ∈ tys5) && glB L.sc t && decide (w = (t2 : Str)) && decide (t2 ∈ tys5) && glB L.sc t2
      | _ => false) && !starP x && okE g a L x
    | _ => false
  | .meth f o xs, L, e => match e with
    | .Call (.Attribute b n apos) es [] cpos => decide (n = (f.name : Str)) && recvP b && (apos.endLine == cpos.line) && okE g o L b && es.all (fun e => !starP e) && okL g xs L es && (match f with
      | .insert => xs.length == 2
      | _ => xs.length == 1)
    | _ => false
  | .comp own t it c x, L, e => match e with
    | .ListComp elt [⟨tg, iter, ifs, k⟩] scope _ => decide (k = 0) && blkC L.N L.sc scope own && okB (subL L scope) t tg && ((tSlots t).all fun i => decide (i ∈ own.map (·.2))) && notSetB iter && okI g it L tg iter && (match ifs with
      | [] => tru c
      | [y] => !iteX c && okE g c (subL L scope) y
      | _ => false) && okE g x (subL L scope) elt
    | _ => false
  | .comp2 own t it c own1 t1 it1 c1 x, L, e => match e with
    | .ListComp elt [⟨tg, iter, ifs, k⟩, ⟨tg1, iter1, ifs1, k1⟩] scope _ => decide (k = 0) && blkC L.N L.sc scope own && okB (subL L scope) t tg && ((tSlots t).all fun i => decide (i ∈ own.map (·.2))) && notSetB iter && okI g it L tg iter && (match ifs with
      | [] => tru c
      | [y] => !iteX c && okE g c (subL L scope) y
      | _ => false) && (decide (k1 = 0) && (own1.all fun i => decide (i ∈ own.map (·.2))) && okB (subL L scope) t1 tg1 && ((tSlots t1).all fun i => decide (i ∈ own1)) && notSetB iter1 && okI g it1 (subL L scope) tg1 iter1 && (match ifs1 with
      | [] => tru c1
      | [y] => !iteX c1 && okE g c1 (subL L scope) y
      | _ => false) && okE g x (subL L scope) elt)
    | _ => false
def okL (g : Sig) : List Q.X → Lv → List Expr → Bool
  | [], _, es => es.isEmpty
  | .star a :: xs, L, es => match es with
    | .Starred e _ :: es => okE g a L e && okL g xs L es
    | _ => false
  | x :: xs, L, es => match es with
    | e :: es => okE g x L e && okL g xs L es
    | _ => false
def okD (g : Sig) : List Q.X → Lv → List (Option Expr) → List Expr → Bool
  | [], _, ks, vs => ks.isEmpty && vs.isEmpty
  | [_], _, _, _ => false
  | k :: v :: xs, L, ks, vs => match ks, vs with
    | some a :: ks, b :: vs => okE g k L a && okE g v L b && okD g xs L ks vs
    | _, _ => false
def okI (g : Sig) : Q.It → Lv → Expr → Expr → Bool
  | .seq a, L, _, e => okE g a L e
  | .rng1 a, L, _, e => match e with
    | .Call (.Name y _) [x] [] _ => decide (y = ("range" : Str)) && glB L.sc "range" && !starP x && okE g a L x
    | _ => false
  | .rng2 a b, L, _, e => match e with
    | .Call (.Name y _) [x, z] [] _ => decide (y = ("range" : Str)) && glB L.sc "range" && !starP x && !starP z && okE g a L x && okE g b L z
    | _ => false
  | .enum a, L, tg, e => match tg with
    | .Tuple _ _ _ => match e with
      | .Call (.Name y _) [x] [] _ => decide (y = ("enumerate" : Str)) && glB L.sc "enumerate" && !starP x && okE g a L x
      | _ => false
    | _ => false
  | .zip a b, L, tg, e => match tg with
    | .Tuple _ _ _ => match e with
      | .Call (.Name y _) [x, z] [] _ => decide (y = ("zip" : Str)) && glB L.sc "zip" && !starP x && !starP z && okE g a L x && okE g b L z
      | _ => false
    | _ => false
  | .chars a, L, _, e => okE g a L e
end
section
variable {g : Sig} {L : Lv} {x : Q.X} {e : Expr}
theorem okE_starP (h : okE g x L e = true) : starP e = false := by
  cases e <;> first | rfl | (exfalso; cases x <;> simp [okE] at h)
theorem okE_starX (h : okE g x L e = true) : starX x = false := by
  cases x <;> first | rfl | (simp [okE] at h)
theorem okE_noneX (h : okE g x L e = true) : noneX x = false := by
  cases x <;> first | rfl | (simp [okE] at h)
end
end Q

/-! QSnd7: a tree that stands the test gives what the text gives: expressions. -/
namespace Q
open PySem PySem.Spec PyProof.Rows L2

section
variable {g : Sig} {C : Ctx} {T : List (Addr × Str)} {k : Nat}
theorem Good.blk {L : Lv} {X : Cx} (G : Good g C T k L X) (s : Shared) (H : Hp) (scope : Scope) (C' : Addr) (cl : List (Str × Addr)) (fp : List Addr) : Good g C T k (subL L scope) (X.blk s H scope (compEnvC scope cl C' X.env) fp) := by
  refine ⟨fun x h => h, G.hN, G.nd, ?_, G.calm, G.room, rfl, G.fns, G.cst, G.blt, (fun z => by cases z), G.keys⟩
  show relS scope X.env.scope = relS scope L.sc
  rw [G.sc]
theorem pt_plain {X : Cx} {e : Expr} {x : Q.X} (h : plainT e = true) (p : PE X e (tEv X.K T C x)) : PE X e (tEv X.K T C x) ∧ (iteX x = false → PT X e (tB (tEv X.K T C x))) := ⟨p, fun _ => pt_val p (plainT_ok h X.env)⟩
theorem pts_yes {X : Cx} {x : Q.X} (h : tru x = true) : PTs X [] (tB (tEv X.K T C x)) := by
  refine ⟨fun pins s σ H Q I hw => pts_nil.run pins s σ H Q I ?_⟩
  cases x <;> simp only [tru, Bool.false_eq_true] at h
  rename_i b
  cases b <;> simp only [tru, Bool.false_eq_true] at h
  obtain ⟨ρ, Z, st, env, d, st', rs, re, h, k⟩ := hw
  simp only [ev] at h
  cases h
  obtain ⟨b, e, q⟩ := k _ _ _ (.bl true) .refl rs (by simp [Rep])
  cases e
  exact q
theorem sa_of {X : Cx} {e : Expr} {x : Q.X} {L : Lv} (h : okE g x L e = true) (p : PE X e (tEv X.K T C x) ∧ (iteX x = false → PT X e (tB (tEv X.K T C x)))) : SA X T C x e := .inr ⟨okE_starX h, okE_starP h, p.1, p.2⟩
theorem all_ok {xs : List Q.X} (h : (xs.all fun x => !iteX x && !starX x) = true) : ∀ x ∈ xs, iteX x = false ∧ starX x = false := fun x hx => by
  have q := List.all_eq_true.mp h x hx
  simp only [Bool.and_eq_true, Bool.not_eq_true'] at q
  exact q
theorem ne_of {α : Type} {xs : List α} (h : xs.isEmpty = false) : xs ≠ [] := fun e => by rw [e] at h; cases h
theorem slots_ok {ss : List Nat} {own : List Nat} (h : (ss.all fun i => decide (i ∈ own)) = true) : ∀ i ∈ ss, i ∈ own := fun i hi => of_decide_eq_true (List.all_eq_true.mp h i hi)
theorem s_comp2 {L : Lv} {X : Cx} {own : List (Str × Nat)} {vs1 : List Nat} {t t1 : Tt} {it it1 : Q.It} {c c1 e : Q.X} {tg iter tg1 iter1 elt : Expr} {ifs ifs1 : List Expr} {scope : Scope} {pos : Pos} (G : Good g C T k L X) (hi : PI X tg iter (tIt X.K T C it)) (ok : BlkOk X.N X.env.scope scope own) (hsl : ∀ i ∈ tSlots t, i ∈ own.map (·.2)) (hv : ∀ i ∈ vs1, i ∈ own.map (·.2)) (hsl1 : ∀ i ∈ tSlots t1, i ∈ vs1)
    (hg : ∀ (s : Shared) (H : Hp) (C' : Addr) (cl : List (Str × Addr)) (fp : List Addr), PG (X.blk s H scope (compEnvC scope cl C' X.env) fp) tg (tBd X.K t))
    (ht : ∀ (s : Shared) (H : Hp) (C' : Addr) (cl : List (Str × Addr)) (fp : List Addr), PTs (X.blk s H scope (compEnvC scope cl C' X.env) fp) ifs (tB (tEv X.K T C c)))
    (hi1 : ∀ (s : Shared) (H : Hp) (C' : Addr) (cl : List (Str × Addr)) (fp : List Addr), PI (X.blk s H scope (compEnvC scope cl C' X.env) fp) tg1 iter1 (tIt X.K T C it1))
    (hg1 : ∀ (s : Shared) (H : Hp) (C' : Addr) (cl : List (Str × Addr)) (fp : List Addr), PG (X.blk s H scope (compEnvC scope cl C' X.env) fp) tg1 (tBd X.K t1))
    (ht1 : ∀ (s : Shared) (H : Hp) (C' : Addr) (cl : List (Str × Addr)) (fp : List Addr), PTs (X.blk s H scope (compEnvC scope cl C' X.env) fp) ifs1 (tB (tEv X.K T C c1)))
    (he : ∀ (s : Shared) (H : Hp) (C' : Addr) (cl : List (Str × Addr)) (fp : List Addr), PE (X.blk s H scope (compEnvC scope cl C' X.env) fp) elt (tEv X.K T C e)) (hs : ∀ x, foldedSetIterable iter X.env x = pure x) (hs1 : ∀ env x, foldedSetIterable iter1 env x = pure x) :
    PE X (.ListComp elt [⟨tg, iter, ifs, 0⟩, ⟨tg1, iter1, ifs1, 0⟩] scope pos) (tEv X.K T C (.comp2 own t it c vs1 t1 it1 c1 e)) := (pe_lc2 G.calm (by rw [G.hN]; exact G.nd) hi ok hv hg ht hi1 hg1 ht1 he hs hs1).imp fun σ H Q h => i_comp2 hsl hsl1 h
mutual
theorem sound : ∀ (x : Q.X) (L : Lv) (e : Expr) (X : Cx), Good g C T k L X → okE g x L e = true → PE X e (tEv X.K T C x) ∧ (iteX x = false → PT X e (tB (tEv X.K T C x)))
  | .int i, L, e, X, G, h => by
    simp only [okE] at h; split at h; (case h_2 => cases h)
    cases of_decide_eq_true h
    exact pt_plain rfl (s_const (v := .int i) (d := .int i) pe_int (fun _ _ => by simp [ev]) (fun _ _ _ q => q) fun _ _ _ => by simp [Rep])
  | .str z, L, e, X, G, h => by
    simp only [okE] at h; split at h; (case h_2 => cases h)
    simp only [Bool.and_eq_true, decide_eq_true_eq] at h
    obtain ⟨rfl, h⟩ := h
    exact pt_plain rfl (s_const (v := .str z) (d := .str z) pe_str (fun _ _ => by simp [ev]) (fun _ _ _ q => q) fun _ _ _ => by simp only [Rep]; exact ⟨trivial, h⟩)
  | .bl b, L, e, X, G, h => by
    simp only [okE] at h; split at h; (case h_2 => cases h)
    cases of_decide_eq_true h
    exact pt_plain rfl (s_const (v := .bl b) (d := .bl b) pe_bl (fun _ _ => by simp [ev]) (fun _ _ _ q => q) fun _ _ _ => by simp [Rep])
  | .non, L, e, X, G, h => by
    simp only [okE] at h; split at h; (case h_2 => cases h)
    exact pt_plain rfl (s_const (v := .non) (d := .non) pe_non (fun _ _ => by simp [ev]) (fun _ _ _ q => q) fun _ _ _ => by simp [Rep])
  | .none_, _, _, _, _, h => by simp [okE] at h
  | .star _, _, _, _, _, h => by simp [okE] at h
  | .dct xs ys, L, e, X, G, h => by
    simp only [okE] at h; split at h; (case h_2 => cases h)
    rename_i keys values pos
    simp only [Bool.and_eq_true, decide_eq_true_eq] at h
    obtain ⟨⟨h1, h2⟩, h3⟩ := h
    cases xs with
    | nil =>
      simp only [okD, Bool.and_eq_true, List.isEmpty_iff] at h3
      obtain ⟨rfl, rfl⟩ := h3
      exact pt_plain rfl (pe_dnewK.imp fun σ H Q h => i_dct0 h)
    | cons x xs =>
      obtain ⟨q1, q2, q3⟩ := soundD (x :: xs) L keys values pos X G h3
      have q4 : keys ≠ [] := fun e => by
        subst e
        cases xs <;> simp [okD] at h3
      exact pt_plain rfl ((pe_disp q1 q2 q3 q4 h1).imp fun σ H Q h => i_dct h2 h)
  | .sortK a ky, L, e, X, G, h => by
    simp only [okE] at h; split at h; (case h_2 => cases h)
    simp only [Bool.and_eq_true, Bool.not_eq_true', decide_eq_true_eq] at h
    obtain ⟨⟨⟨⟨⟨rfl, rfl⟩, h1⟩, h2⟩, h3⟩, h4⟩ := h
    split at h4; (case h_3 => cases h4)
    · simp only [Bool.and_eq_true] at h4
      exact pt_plain rfl (s_sortL G h4.1 h1 h2 h4.2 (sound a L _ X G h3).1)
    · simp only [Bool.and_eq_true, decide_eq_true_eq] at h4
      obtain ⟨⟨rfl, h5⟩, h6⟩ := h4
      exact pt_plain rfl (s_sortF G h6 h5 h1 h2 (sound a L _ X G h3).1)
  | .compK own t i c x, L, e, X, G, h => by
    simp only [okE] at h; split at h; (case h_2 => cases h)
    simp only [Bool.and_eq_true, Bool.not_eq_true', decide_eq_true_eq] at h
    obtain ⟨⟨⟨⟨⟨⟨rfl, h1⟩, h2⟩, h3⟩, ⟨⟨h4, h5⟩, h8⟩, h9⟩, h6⟩, h7⟩ := h
    refine pt_plain rfl (s_compK G h4 h5 h8 h9 (by rw [G.hN, G.sc]; exact blkOk_by h1) (slots_ok h3) (fun s H C' cl fp => s_bind (G.blk s H _ C' cl fp) t _ h2) (fun s H C' cl fp => ?_) (fun s H C' cl fp => (sound x _ _ _ (G.blk s H _ C' cl fp) h7).1))
    split at h6; (case h_3 => cases h6)
    · exact pts_yes h6
    · simp only [Bool.and_eq_true, Bool.not_eq_true'] at h6
      exact pts_one ((sound c _ _ _ (G.blk s H _ C' cl fp) h6.2).2 h6.1)
  | .var i, L, e, X, G, h => by
    simp only [okE] at h; split at h; (case h_2 => cases h)
    simp only [Bool.and_eq_true, Bool.not_eq_true', decide_eq_true_eq] at h
    exact pt_plain rfl (s_var G h.1.1.1 h.1.1.2 h.1.2 h.2)
  | .glb x, L, e, X, G, h => by
    simp only [okE] at h; split at h; (case h_2 => cases h)
    simp only [Bool.and_eq_true, decide_eq_true_eq] at h
    obtain ⟨⟨rfl, h1⟩, h2⟩ := h
    exact pt_plain rfl (s_glb G h1 h2)
  | .bin op a b, L, e, X, G, h => by
    simp only [okE] at h; split at h; (case h_2 => cases h)
    simp only [Bool.and_eq_true, decide_eq_true_eq] at h
    obtain ⟨⟨rfl, h1⟩, h2⟩ := h
    exact pt_plain rfl (s_bin (sound a L _ X G h1).1 (sound b L _ X G h2).1)
  | .cat m a b, L, e, X, G, h => by
    simp only [okE] at h; split at h; (case h_2 => cases h)
    simp only [Bool.and_eq_true, decide_eq_true_eq] at h
    obtain ⟨⟨rfl, h1⟩, h2⟩ := h
    exact pt_plain rfl (s_cat (sound a L _ X G h1).1 (sound b L _ X G h2).1)
  | .neg a, L, e, X, G, h => by
    simp only [okE] at h; split at h; (case h_2 => cases h)
    simp only [Bool.and_eq_true, decide_eq_true_eq] at h
    obtain ⟨rfl, h1⟩ := h
    exact pt_plain rfl (s_neg (sound a L _ X G h1).1)
  | .not a, L, e, X, G, h => by
    simp only [okE] at h; split at h; (case h_2 => cases h)
    simp only [Bool.and_eq_true, Bool.not_eq_true', decide_eq_true_eq] at h
    obtain ⟨⟨rfl, h1⟩, h2⟩ := h
    have q := sound a L _ X G h2
    exact ⟨s_not q.1, fun _ => p_not (q.2 h1)⟩
  | .cmp op a b, L, e, X, G, h => by
    simp only [okE] at h; split at h; (case h_2 => cases h)
    simp only [Bool.and_eq_true, decide_eq_true_eq] at h
    obtain ⟨⟨⟨rfl, h0⟩, h1⟩, h2⟩ := h
    have q1 := (sound a L _ X G h1).1
    have q2 := (sound b L _ X G h2).1
    exact ⟨s_cmp G h0 q1 q2, fun _ => p_cmp G h0 q1 q2⟩
  | .chain op op2 a b c, L, e, X, G, h => by
    simp only [okE] at h; split at h; (case h_2 => cases h)
    simp only [Bool.and_eq_true, decide_eq_true_eq] at h
    obtain ⟨⟨⟨⟨⟨rfl, rfl⟩, h0⟩, h1⟩, h2⟩, h3⟩ := h
    have q1 := (sound a L _ X G h1).1
    have q2 := (sound b L _ X G h2).1
    have q3 := (sound c L _ X G h3).1
    exact ⟨s_chain G h0 q1 q2 q3, fun _ => p_chain G h0 q1 q2 q3⟩
  | .isN a, L, e, X, G, h => by
    simp only [okE] at h; split at h; (case h_2 => cases h)
    simp only [Bool.and_eq_true, decide_eq_true_eq] at h
    obtain ⟨rfl, h1⟩ := h
    have q := (sound a L _ X G h1).1
    exact ⟨s_isN q, fun _ => p_isN q⟩
  | .notN a, L, e, X, G, h => by
    simp only [okE] at h; split at h; (case h_2 => cases h)
    simp only [Bool.and_eq_true, decide_eq_true_eq] at h
    obtain ⟨rfl, h1⟩ := h
    have q := (sound a L _ X G h1).1
    exact ⟨s_notN q, fun _ => p_notN q⟩
  | .isB a b, L, e, X, G, h => by
    simp only [okE] at h; split at h; (case h_2 => cases h)
    simp only [Bool.and_eq_true, decide_eq_true_eq] at h
    obtain ⟨⟨rfl, rfl⟩, h1⟩ := h
    have q := (sound a L _ X G h1).1
    exact ⟨s_isB q, fun _ => p_isB q⟩
  | .mem a b, L, e, X, G, h => by
    simp only [okE] at h; split at h; (case h_2 => cases h)
    simp only [Bool.and_eq_true, Bool.not_eq_true', decide_eq_true_eq] at h
    obtain ⟨⟨⟨rfl, h0⟩, h1⟩, h2⟩ := h
    have q1 := (sound a L _ X G h1).1
    have q2 := (sound b L _ X G h2).1
    exact ⟨s_mem G h0 q1 q2, fun _ => p_mem G h0 q1 q2⟩
  | .notIn a b, L, e, X, G, h => by
    simp only [okE] at h; split at h; (case h_2 => cases h)
    simp only [Bool.and_eq_true, Bool.not_eq_true', decide_eq_true_eq] at h
    obtain ⟨⟨⟨rfl, h0⟩, h1⟩, h2⟩ := h
    have q1 := (sound a L _ X G h1).1
    have q2 := (sound b L _ X G h2).1
    exact ⟨s_notIn G h0 q1 q2, fun _ => p_notIn G h0 q1 q2⟩
  | .memK a b, L, e, X, G, h => by
    simp only [okE] at h; split at h; (case h_2 => cases h)
    simp only [Bool.and_eq_true, Bool.not_eq_true', decide_eq_true_eq] at h
    obtain ⟨⟨⟨rfl, h0⟩, h1⟩, h2⟩ := h
    have q1 := (sound a L _ X G h1).1
    have q2 := (sound b L _ X G h2).1
    exact ⟨s_memK G h0 q1 q2, fun _ => p_memK G h0 q1 q2⟩
  | .notInK a b, L, e, X, G, h => by
    simp only [okE] at h; split at h; (case h_2 => cases h)
    simp only [Bool.and_eq_true, Bool.not_eq_true', decide_eq_true_eq] at h
    obtain ⟨⟨⟨rfl, h0⟩, h1⟩, h2⟩ := h
    have q1 := (sound a L _ X G h1).1
    have q2 := (sound b L _ X G h2).1
    exact ⟨s_notInK G h0 q1 q2, fun _ => p_notInK G h0 q1 q2⟩
  | .and xs, L, e, X, G, h => by
    simp only [okE] at h; split at h; (case h_2 => cases h)
    simp only [Bool.and_eq_true, Bool.not_eq_true', decide_eq_true_eq] at h
    obtain ⟨⟨⟨rfl, h0⟩, h1⟩, h2⟩ := h
    rename_i es pos
    have q := and_all (pos := pos) (soundL xs L _ X G h2) (all_ok (by simpa using h0)) (ne_of h1)
    exact ⟨q.1, fun _ => q.2.pt⟩
  | .or xs, L, e, X, G, h => by
    simp only [okE] at h; split at h; (case h_2 => cases h)
    simp only [Bool.and_eq_true, Bool.not_eq_true', decide_eq_true_eq] at h
    obtain ⟨⟨⟨rfl, h0⟩, h1⟩, h2⟩ := h
    rename_i es pos
    have q := or_all (pos := pos) (soundL xs L _ X G h2) (all_ok (by simpa using h0)) (ne_of h1)
    exact ⟨q.1, fun _ => q.2.pt⟩
  | .ite c a b, L, e, X, G, h => by
    simp only [okE] at h; split at h; (case h_2 => cases h)
    simp only [Bool.and_eq_true, Bool.not_eq_true', decide_eq_true_eq] at h
    obtain ⟨⟨⟨h0, h1⟩, h2⟩, h3⟩ := h
    exact ⟨s_ite ((sound c L _ X G h1).2 h0) (sound a L _ X G h2).1 (sound b L _ X G h3).1, fun z => by simp [iteX] at z⟩
  | .tup xs, L, e, X, G, h => by
    simp only [okE] at h; split at h; (case h_2 => cases h)
    exact pt_plain rfl (s_tup (soundL xs L _ X G h))
  | .lst m xs, L, e, X, G, h => by
    simp only [okE] at h; split at h; (case h_2 => cases h)
    exact pt_plain rfl (s_lst (soundL xs L _ X G h))
  | .sub a b, L, e, X, G, h => by
    simp only [okE] at h; split at h; (case h_2 => cases h)
    simp only [Bool.and_eq_true] at h
    exact pt_plain rfl (s_sub G (plainIx_ok h.1.1) (sound a L _ X G h.1.2).1 (sound b L _ X G h.2).1)
  | .subK a b, L, e, X, G, h => by
    simp only [okE] at h; split at h; (case h_2 => cases h)
    simp only [Bool.and_eq_true] at h
    exact pt_plain rfl (s_subK G (plainIx_ok h.1.1) (sound a L _ X G h.1.2).1 (sound b L _ X G h.2).1)
  | .slice a lo hi, L, e, X, G, h => by
    simp only [okE] at h; split at h; (case h_2 => cases h)
    simp only [Bool.and_eq_true] at h
    obtain ⟨⟨h1, h2⟩, h3⟩ := h
    refine pt_plain rfl (s_slice (sound a L _ X G h1).1 ?_ ?_)
    · split at h2
      · cases lo <;> simp only [noneX, Bool.false_eq_true] at h2
        exact po_no
      · exact po_yes (okE_noneX h2) (sound lo L _ X G h2).1
    · split at h3
      · cases hi <;> simp only [noneX, Bool.false_eq_true] at h3
        exact po_no
      · exact po_yes (okE_noneX h3) (sound hi L _ X G h3).1
  | .rev a, L, e, X, G, h => by
    simp only [okE] at h; split at h; (case h_2 => cases h)
    simp only [Bool.and_eq_true, decide_eq_true_eq] at h
    obtain ⟨⟨rfl, rfl⟩, h1⟩ := h
    exact pt_plain rfl (s_rev (sound a L _ X G h1).1)
  | .call f xs, L, e, X, G, h => by
    simp only [okE] at h; split at h; (case h_2 => cases h)
    simp only [Bool.and_eq_true, decide_eq_true_eq] at h
    obtain ⟨⟨⟨⟨rfl, h1⟩, h2⟩, h3⟩, h4⟩ := h
    exact pt_plain rfl (s_call G h1 h2 h3 (soundL xs L _ X G h4))
  | .bi f m xs, L, e, X, G, h => by
    simp only [okE] at h; split at h; (case h_2 => cases h)
    simp only [Bool.and_eq_true, Bool.not_eq_true', decide_eq_true_eq] at h
    obtain ⟨⟨⟨⟨rfl, h1⟩, h2⟩, h3⟩, h4⟩ := h
    exact pt_plain rfl (s_builtin G h1 h2 (ne_of h3) (soundL xs L _ X G h4))
  | .lrange m a, L, e, X, G, h => by
    simp only [okE] at h; split at h; (case h_2 => cases h)
    simp only [Bool.and_eq_true, Bool.not_eq_true', decide_eq_true_eq] at h
    obtain ⟨⟨⟨⟨⟨rfl, rfl⟩, h1⟩, h2⟩, h3⟩, h4⟩ := h
    exact pt_plain rfl (s_lrange G h1 h2 h3 (sound a L _ X G h4).1)
  | .isa tys a, L, e, X, G, h => by
    simp only [okE] at h; split at h; (case h_3 => cases h)
    · simp only [Bool.and_eq_true, Bool.not_eq_true', decide_eq_true_eq] at h
      obtain ⟨⟨⟨⟨rfl, h1⟩, h2⟩, h3⟩, h4⟩ := h
      split at h2; (case h_2 => cases h2)
      simp only [Bool.and_eq_true, decide_eq_true_eq] at h2
      obtain ⟨⟨rfl, h5⟩, h6⟩ := h2
      exact pt_plain rfl (s_isa1 G h1 h5 h6 h3 (sound a L _ X G h4).1)
    · simp only [Bool.and_eq_true, Bool.not_eq_true', decide_eq_true_eq] at h
      obtain ⟨⟨⟨⟨rfl, h1⟩, h2⟩, h3⟩, h4⟩ := h
      split at h2; (case h_2 => cases h2)
      simp only [Bool.and_eq_true, decide_eq_true_eq] at h2
      obtain ⟨⟨⟨⟨⟨rfl, h5⟩, h6⟩, rfl⟩, h7⟩, h8⟩ := h2
      exact pt_plain rfl (s_isa2 G h1 h5 h6 h7 h8 h3 (sound a L _ X G h4).1)
  | .meth f o xs, L, e, X, G, h => by
    simp only [okE] at h; split at h; (case h_2 => cases h)
    simp only [Bool.and_eq_true, decide_eq_true_eq] at h
    obtain ⟨⟨⟨⟨⟨⟨rfl, h1⟩, h2⟩, h3⟩, h4⟩, h5⟩, h6⟩ := h
    have q := (sound o L _ X G h3).1
    have qs := soundL xs L _ X G h5
    rename_i b apos es cpos
    have one : xs.length = 1 → ∃ x e, xs = [x] ∧ es = [e] ∧ starX x = false ∧ starP e = false ∧ PE X e (tEv X.K T C x) := fun hl => by
      cases qs with
      | nil => cases hl
      | cons a t =>
        cases t with
        | cons _ _ => simp at hl
        | nil =>
          rcases a with ⟨_, _, _, e1, e2, _⟩ | ⟨a1, a2, a3, _⟩
          · subst e2; simp [starP] at h4
          · exact ⟨_, _, rfl, rfl, a1, a2, a3⟩
    cases f <;> simp only [beq_iff_eq] at h6
    case append => obtain ⟨x, e, rfl, rfl, a1, a2, a3⟩ := one h6; exact pt_plain rfl (s_append q a3 h1 a2 h2 a1)
    case pop => obtain ⟨x, e, rfl, rfl, a1, a2, a3⟩ := one h6; exact pt_plain rfl (s_pop q a3 h1 a2 h2 a1)
    case popK => obtain ⟨x, e, rfl, rfl, a1, a2, a3⟩ := one h6; exact pt_plain rfl (s_popK q a3 h1 a2 h2 a1)
    case get => obtain ⟨x, e, rfl, rfl, a1, a2, a3⟩ := one h6; exact pt_plain rfl (s_get G q a3 h1 a2 h2 a1)
    case insert =>
      cases qs with
      | nil => simp at h6
      | cons a t =>
        cases t with
        | nil => simp at h6
        | cons b t =>
          cases t with
          | cons _ _ => simp at h6
          | nil =>
            simp only [List.all_cons, Bool.and_eq_true, Bool.not_eq_true'] at h4
            rcases a with ⟨_, _, _, e1, e2, _⟩ | ⟨a1, a2, a3, _⟩
            · subst e2; simp [starP] at h4
            · rcases b with ⟨_, _, _, e1, e2, _⟩ | ⟨b1, b2, b3, _⟩
              · subst e2; simp [starP] at h4
              · exact pt_plain rfl (s_insert q a3 b3 h1 a2 b2 h2 a1 b1)
  | .comp own t it c x, L, e, X, G, h => by
    simp only [okE] at h; split at h; (case h_2 => cases h)
    simp only [Bool.and_eq_true, decide_eq_true_eq] at h
    obtain ⟨⟨⟨⟨⟨⟨⟨rfl, h1⟩, h2⟩, h3⟩, h4⟩, h5⟩, h6⟩, h7⟩ := h
    refine pt_plain rfl (s_comp G (soundI it L _ _ X G h5) (by rw [G.hN, G.sc]; exact blkOk_by h1) (slots_ok h3) (fun s H C' cl fp => s_bind (G.blk s H _ C' cl fp) t _ h2) (fun s H C' cl fp => ?_) (fun s H C' cl fp => (sound x _ _ _ (G.blk s H _ C' cl fp) h7).1) (notSet_ok h4 X.env))
    split at h6; (case h_3 => cases h6)
    · exact pts_yes h6
    · simp only [Bool.and_eq_true, Bool.not_eq_true'] at h6
      exact pts_one ((sound c _ _ _ (G.blk s H _ C' cl fp) h6.2).2 h6.1)
  | .comp2 own t it c own1 t1 it1 c1 x, L, e, X, G, h => by
    simp only [okE] at h; split at h; (case h_2 => cases h)
    simp only [Bool.and_eq_true, decide_eq_true_eq] at h
    obtain ⟨⟨⟨⟨⟨⟨⟨rfl, h1⟩, h2⟩, h3⟩, h4⟩, h5⟩, h6⟩, ⟨⟨⟨⟨⟨⟨rfl, g1⟩, g2⟩, g3⟩, g4⟩, g5⟩, g6⟩, h7⟩ := h
    refine pt_plain rfl (s_comp2 G (soundI it L _ _ X G h5) (by rw [G.hN, G.sc]; exact blkOk_by h1) (slots_ok h3) (slots_ok g1) (slots_ok g3) (fun s H C' cl fp => s_bind (G.blk s H _ C' cl fp) t _ h2) (fun s H C' cl fp => ?_)
      (fun s H C' cl fp => soundI it1 _ _ _ _ (G.blk s H _ C' cl fp) g5) (fun s H C' cl fp => s_bind (G.blk s H _ C' cl fp) t1 _ g2) (fun s H C' cl fp => ?_) (fun s H C' cl fp => (sound x _ _ _ (G.blk s H _ C' cl fp) h7).1) (notSet_ok h4 X.env) (fun env => notSet_ok g4 env))
    · split at h6; (case h_3 => cases h6)
      · exact pts_yes h6
      · simp only [Bool.and_eq_true, Bool.not_eq_true'] at h6
        exact pts_one ((sound c _ _ _ (G.blk s H _ C' cl fp) h6.2).2 h6.1)
    · split at g6; (case h_3 => cases g6)
      · exact pts_yes g6
      · simp only [Bool.and_eq_true, Bool.not_eq_true'] at g6
        exact pts_one ((sound c1 _ _ _ (G.blk s H _ C' cl fp) g6.2).2 g6.1)
theorem soundL : ∀ (xs : List Q.X) (L : Lv) (es : List Expr) (X : Cx), Good g C T k L X → okL g xs L es = true → All2 (SA X T C) xs es
  | [], L, es, X, G, h => by
    cases es with
    | nil => exact .nil
    | cons _ _ => simp [okL] at h
  | x :: xs, L, es, X, G, h => by
    by_cases hx : starX x = true
    · cases x <;> simp only [starX, Bool.false_eq_true] at hx
      rename_i a
      simp only [okL] at h; split at h; (case h_2 => cases h)
      simp only [Bool.and_eq_true] at h
      exact .cons (.inl ⟨_, _, _, rfl, rfl, (sound a L _ X G h.1).1⟩) (soundL xs L _ X G h.2)
    · cases es with
      | nil => cases x <;> first | (simp [okL] at h; done) | (simp [starX] at hx)
      | cons e es =>
        have h' : (okE g x L e && okL g xs L es) = true := by
          cases x <;> first | exact h | (simp [starX] at hx)
        simp only [Bool.and_eq_true] at h'
        exact .cons (sa_of h'.1 (sound x L _ X G h'.1)) (soundL xs L _ X G h'.2)
theorem soundD : ∀ (xs : List Q.X) (L : Lv) (ks : List (Option Expr)) (vs : List Expr) (pos : Pos) (X : Cx), Good g C T k L X → okD g xs L ks vs = true → PPs X pos ks vs (trsOf X.K T C xs) ∧ ks.all (·.isSome) = true ∧ ks.length = vs.length
  | [], L, ks, vs, pos, X, G, h => by
    simp only [okD, Bool.and_eq_true, List.isEmpty_iff] at h
    obtain ⟨rfl, rfl⟩ := h
    exact ⟨pps_nil, rfl, rfl⟩
  | [_], L, ks, vs, pos, X, G, h => by simp [okD] at h
  | x :: y :: xs, L, ks, vs, pos, X, G, h => by
    simp only [okD] at h; split at h; (case h_2 => cases h)
    simp only [Bool.and_eq_true] at h
    obtain ⟨q1, q2, q3⟩ := soundD xs L _ _ pos X G h.2
    exact ⟨pps_cons (sound x L _ X G h.1.1).1 (sound y L _ X G h.1.2).1 q1, by simpa using q2, by simp [q3]⟩
theorem soundI : ∀ (it : Q.It) (L : Lv) (tg e : Expr) (X : Cx), Good g C T k L X → okI g it L tg e = true → PI X tg e (tIt X.K T C it)
  | .seq a, L, tg, e, X, G, h => by
    simp only [okI] at h
    exact s_seq (sound a L _ X G h).1
  | .rng1 a, L, tg, e, X, G, h => by
    simp only [okI] at h; split at h; (case h_2 => cases h)
    simp only [Bool.and_eq_true, Bool.not_eq_true', decide_eq_true_eq] at h
    obtain ⟨⟨⟨rfl, h1⟩, h2⟩, h3⟩ := h
    exact s_rng1 (p2 := ⟨0, 0, 0, 0⟩) G h1 h2 (sound a L _ X G h3).1
  | .rng2 a b, L, tg, e, X, G, h => by
    simp only [okI] at h; split at h; (case h_2 => cases h)
    simp only [Bool.and_eq_true, Bool.not_eq_true', decide_eq_true_eq] at h
    obtain ⟨⟨⟨⟨⟨rfl, h1⟩, h2⟩, h3⟩, h4⟩, h5⟩ := h
    exact s_rng2 (p2 := ⟨0, 0, 0, 0⟩) G h1 h2 h3 (sound a L _ X G h4).1 (sound b L _ X G h5).1
  | .enum a, L, tg, e, X, G, h => by
    simp only [okI] at h; split at h; (case h_2 => cases h)
    split at h; (case h_2 => cases h)
    simp only [Bool.and_eq_true, Bool.not_eq_true', decide_eq_true_eq] at h
    obtain ⟨⟨⟨rfl, h1⟩, h2⟩, h3⟩ := h
    exact s_enum G h1 h2 (sound a L _ X G h3).1
  | .zip a b, L, tg, e, X, G, h => by
    simp only [okI] at h; split at h; (case h_2 => cases h)
    split at h; (case h_2 => cases h)
    simp only [Bool.and_eq_true, Bool.not_eq_true', decide_eq_true_eq] at h
    obtain ⟨⟨⟨⟨⟨rfl, h1⟩, h2⟩, h3⟩, h4⟩, h5⟩ := h
    exact s_zip G h1 h2 h3 (sound a L _ X G h4).1 (sound b L _ X G h5).1
  | .chars a, L, tg, e, X, G, h => by
    simp only [okI] at h
    exact s_chars (sound a L _ X G h).1
end
end
end Q

/-! QSnd8: statements. -/
namespace Q
open PySem PySem.Spec PyProof.Rows L2

def compB : Expr → Bool
  | .ListComp _ _ _ _ => true
  | .SetComp _ _ _ _ => true
  | .DictComp _ _ _ _ _ => true
  | _ => false
theorem sw_no {e : Expr} (h : compB e = false) (t : Option Expr) (l : Nat) (env : PySem.Env) : swapsWith e t l env = pure false := by
  cases e <;> first | rfl | (simp [compB] at h)
theorem sw_tup {e : Expr} {es : List Expr} {k : Nat} {p : Pos} (l : Nat) (env : PySem.Env) : swapsWith e (some (.Tuple es k p)) l env = pure false := by
  cases e <;> rfl
theorem sw_sub {e a b : Expr} {p : Pos} (l : Nat) (env : PySem.Env) : swapsWith e (some (.Subscript a b p)) l env = pure false := by
  cases e <;> rfl
def swB (sc : Scope) (y : Str) (py : Pos) (scope : Scope) (pos : Pos) : Bool := sc.names.lookup y == some .local && py.line == pos.line && !(scope.names.any fun (n, k) => n == y && (k == .local || k == .cell))
theorem sw_val {elt : Expr} {gs : List Comprehension} {scope : Scope} {pos py : Pos} {y : Str} {l : Nat} {env : PySem.Env} (hk : env.scope.kind = .function) (h : swB env.scope y py scope pos = false) : swapsWith (.ListComp elt gs scope pos) (some (.Name y py)) l env = pure false := by
  have hb : env.blockKind = .function := by unfold Env.blockKind; rw [hk]; rfl
  have e : swapsWith (.ListComp elt gs scope pos) (some (.Name y py)) l env = pure (env.blockKind == .function && env.kindOf y == some .local && py.line == pos.line && !(scope.names.any fun (n, k) => n == y && (k == .local || k == .cell))) := rfl
  rw [e, hb]
  unfold swB at h
  have q : (ScopeKind.function == ScopeKind.function && env.kindOf y == some .local && py.line == pos.line && !(scope.names.any fun (n, k) => n == y && (k == .local || k == .cell))) = false := by
    rw [show (ScopeKind.function == ScopeKind.function) = true from rfl, Bool.true_and]
    exact h
  rw [q]
/-- no stores from the right -/
def farT (sc : Scope) : Expr → Bool
  | .Name x _ => !(sc.names.lookup x == some .local)
  | _ => true
def swN (sc : Scope) (tg e : Expr) : Bool := match tg, e with
  | .Tuple ts _ _, .Tuple vs _ _ => !(ts.length == 2 || ts.length == 3) || vs.length != ts.length || vs.all (foldedForSure 8) || ts.any (farT sc)
  | .List _ _, _ => false
  | _, _ => true
theorem sw_none {tg e : Expr} {env : PySem.Env} (h : swN env.scope tg e = true) : swappedStores [tg] e env = pure none := by
  cases tg
  case Tuple ts a b =>
    cases e
    case Tuple vs c d =>
      simp only [swN, Bool.or_eq_true] at h
      unfold swappedStores
      dsimp only
      split
      · rfl
      · rename_i h1
        have h2 : vs.all (foldedForSure 8) = true ∨ ts.any (farT env.scope) = true := by
          simp only [Bool.or_eq_true, not_or] at h1
          rcases h with ((h | h) | h) | h
          · exact absurd h h1.1.1
          · exact absurd h h1.1.2
          · exact .inl h
          · exact .inr h
        split
        · rfl
        · split
          · rfl
          · rename_i h3
            rcases h2 with h2 | h2
            · first | rfl | rw [if_pos h2]
            · exfalso
              simp only [Bool.or_eq_true, not_or, bne_iff_ne, ne_eq, Decidable.not_not] at h3
              have q := List.filterMap_length_eq_length.mp h3.1
              obtain ⟨t, ht, hf⟩ := List.any_eq_true.mp h2
              have q2 := q t ht
              cases t <;> first | (cases q2; done) | skip
              rename_i x p
              simp only [farT, Bool.not_eq_true'] at hf
              have hk : (env.kindOf x == some NameKind.local) = false := hf
              simp [hk] at q2
    all_goals rfl
  case List ts a => simp [swN] at h
  all_goals rfl
section
variable (K : PySem.W.Frag) (T : List (Addr × Str)) (C : Ctx)
/-- what is wanted behind what a statement has done -/
def post (ρ : List Addr) (Z : Addr → Prop) (H : Hp) (r : Fl × Env × Store) (D : Ends) : Prop :=
  match r.1 with
  | .next => ∀ ρ' Z' H' σ', Fr ρ Z H ρ' Z' H' → RelS K T ρ' Z' r.2.2 H' → RelE K ρ' Z' H' r.2.1 σ' → D.nx σ' H'
  | .ret d => ∀ ρ' Z' H' v, Fr ρ Z H ρ' Z' H' → RelS K T ρ' Z' r.2.2 H' → Rep K ρ' Z' H' d v → D.rt v H'
def tRunS (f : Env → Store → RS) : TS := fun D σ H => ∃ ρ Z st env r, RelS K T ρ Z st H ∧ RelE K ρ Z H env σ ∧ f env st = some r ∧ post K T ρ Z H r D
end
section
variable {K : PySem.W.Frag} {T : List (Addr × Str)} {C : Ctx} {ρ ρ1 : List Addr} {Z Z1 : Addr → Prop} {H H1 : Hp} {E : Ends} {r : Fl × Env × Store}
theorem post.mono (f : Fr ρ Z H ρ1 Z1 H1) (h : post K T ρ Z H r E) : post K T ρ1 Z1 H1 r E := by
  unfold post at h ⊢
  split
  · rename_i e
    rw [e] at h
    exact fun ρ' Z' H' σ' f' => h ρ' Z' H' σ' (f.trans f')
  · rename_i d e
    rw [e] at h
    exact fun ρ' Z' H' v f' => h ρ' Z' H' v (f.trans f')
theorem post.nx {env : Env} {st : Store} (h : post K T ρ Z H (.next, env, st) E) {ρ' : List Addr} {Z' : Addr → Prop} {H' : Hp} {σ' : L2.St} (f : Fr ρ Z H ρ' Z' H') (rs : RelS K T ρ' Z' st H') (re : RelE K ρ' Z' H' env σ') : E.nx σ' H' := h ρ' Z' H' σ' f rs re
theorem post.rt {env : Env} {d : _root_.Q.D} {st : Store} (h : post K T ρ Z H (.ret d, env, st) E) {ρ' : List Addr} {Z' : Addr → Prop} {H' : Hp} {v : V} (f : Fr ρ Z H ρ' Z' H') (rs : RelS K T ρ' Z' st H') (q : Rep K ρ' Z' H' d v) : E.rt v H' := h ρ' Z' H' v f rs q
theorem RelE.lt {env : Env} {σ : L2.St} {i : Nat} (h : RelE K ρ Z H env σ) (hi : i < env.length) : i < σ.length := by rw [← h.1]; exact hi
end
section
variable {g : Sig} {C : Ctx} {T : List (Addr × Str)} {k : Nat} {L : Lv} {X : Cx} {e tg : Expr} {x : Q.X} {t : Tt} {pos : Pos}
theorem p_nil : PSs X [] (tRunS X.K T (exL C [])) := ⟨fun pins s σ H D I hw => pss_nil.run pins s σ H D I (by
  obtain ⟨ρ, Z, st, env, r, rs, re, h, p⟩ := hw
  simp only [exL] at h
  cases h
  exact post.nx p .refl rs re)⟩
theorem _root_.L2.PSs.imp {X : Cx} {e : List Stmt} {t t' : TS} (h : PSs X e t) (i : ∀ D σ H, t' D σ H → t D σ H) : PSs X e t' := ⟨fun pins s σ H D I hw => h.run pins s σ H D I (i D σ H hw)⟩
theorem p_cons {s : S} {ss : List S} {a : Stmt} {as : List Stmt} (h1 : PS X a (tRunS X.K T (exS C s))) (h2 : PSs X as (tRunS X.K T (exL C ss))) : PSs X (a :: as) (tRunS X.K T (exL C (s :: ss))) := (pss_cons h1 h2).imp fun D σ H hw => by
  obtain ⟨ρ, Z, st, env, r, rs, re, h, p⟩ := hw
  simp only [exL, Option.bind_eq_some_iff] at h
  obtain ⟨⟨fl, env1, st1⟩, h1, h2⟩ := h
  refine ⟨ρ, Z, st, env, _, rs, re, h1, ?_⟩
  cases fl with
  | ret d =>
    simp only at h2
    cases h2
    exact fun ρ' Z' H' v f r' q => post.rt p f r' q
  | next =>
    simp only at h2
    exact fun ρ' Z' H' σ' f r' e' => ⟨ρ', Z', st1, env1, r, r', e', h2, p.mono f⟩
theorem s_pass : PS X (.Pass pos) (tRunS X.K T (exS C .pass)) := ps_pass.imp fun D σ H hw => by
  obtain ⟨ρ, Z, st, env, r, rs, re, h, p⟩ := hw
  simp only [exS] at h
  cases h
  exact post.nx p .refl rs re
theorem s_doc {z : Str} {j : Nat} {p2 : Pos} : PS X (.Expr (.Constant (.str z) j p2) pos) (tRunS X.K T (exS C .pass)) := ps_doc.imp fun D σ H hw => by
  obtain ⟨ρ, Z, st, env, r, rs, re, h, p⟩ := hw
  simp only [exS] at h
  cases h
  exact post.nx p .refl rs re
mutual
theorem stT_bind : ∀ {t : Tt} {e : Expr} {d : D} {env : Env} {st : Store}, okB L t e = true → stT C t d env st = (bindT t d env).map fun env' => (env', st)
  | .name i, e, d, env, st, h => by
    simp only [stT, bindT]
    split <;> rfl
  | .tup ts, e, d, env, st, h => by
    cases e <;> first | (simp [okB] at h; done) | skip
    rename_i es j p
    simp only [okB, Bool.and_eq_true, decide_eq_true_eq] at h
    cases d <;> simp only [stT, bindT] <;> try rfl
    split
    · exact stTs_bind h.2
    · rfl
  | .sub _ _, e, d, env, st, h => by simp [okB] at h
  | .subK _ _, e, d, env, st, h => by simp [okB] at h
theorem stTs_bind : ∀ {ts : List Tt} {es : List Expr} {ds : List D} {env : Env} {st : Store}, okBs L ts es = true → stTs C ts ds env st = (bindTs ts ds env).map fun env' => (env', st)
  | [], es, ds, env, st, h => by
    cases ds <;> simp only [stTs, bindTs] <;> rfl
  | t :: ts, es, ds, env, st, h => by
    cases es <;> first | (simp [okBs] at h; done) | skip
    simp only [okBs, Bool.and_eq_true] at h
    cases ds with
    | nil => simp only [stTs, bindTs]; rfl
    | cons d ds =>
      simp only [stTs, bindTs]
      rw [stT_bind h.1]
      cases q : bindT t d env with
      | none => rfl
      | some env1 =>
        show stTs C ts ds env1 st = _
        rw [stTs_bind h.2]; rfl
end
theorem asg_sub {o i : Expr} {p2 : Pos} {env : PySem.Env} (h : plainIxB i = true) (v : Value) : assign (.Subscript o i p2) env v = (do
      let ov ← holding [v] (eval o env)
      let iv ← holding [v, ov] (eval i env)
      standAt p2
      holding [v, ov, iv] (setItem ov iv v)
      release [v, ov, iv] []) := by
  cases i <;> first | rfl | (simp [plainIxB] at h)
theorem i_set {te : TE} {h : okB L t tg = true} (hi : ∀ σ H Q, tEv X.K T C x σ H Q → te σ H Q) {D : Ends} {σ : L2.St} {H : Hp} (hw : tRunS X.K T (exS C (.set t x)) D σ H) : tAsg te (tBd X.K t) D σ H := by
  obtain ⟨ρ, Z, st, env, r, rs, re, h1, p⟩ := hw
  simp only [exS, Option.bind_eq_some_iff, Option.map_eq_some_iff] at h1
  obtain ⟨⟨d, st1⟩, h2, ⟨env1, st2⟩, h3, h4⟩ := h1
  cases h4
  rw [stT_bind h] at h3
  obtain ⟨env2, h5, h6⟩ := Option.map_eq_some_iff.mp h3
  cases h6
  refine hi _ _ _ (tEv.go rs re h2 fun ρ' Z' H' v f r' e' q => ?_)
  exact ⟨ρ', Z', env, d, env1, r'.sub, e', q, h5, fun σ2 re2 _ _ => post.nx p f r' re2⟩
theorem s_set (G : Good g C T k L X) (h : okB L t tg = true) (he : PE X e (tEv X.K T C x)) (hs : swapsWithSole [tg] e pos.line X.env = pure false) (hw : swappedStores [tg] e X.env = pure none) : PS X (.Assign [tg] e pos) (tRunS X.K T (exS C (.set t x))) :=
  (ps_asg he (s_bind G t tg h) hs hw (by rw [asg_cons (okB_plain h)]; rfl)).imp fun D σ H hw => i_set (h := h) (fun _ _ _ z => z) hw
theorem i_name {te : TE} {i : Nat} (hi : ∀ σ H Q, tEv X.K T C x σ H Q → te σ H Q) {D : Ends} {σ : L2.St} {H : Hp} (hw : tRunS X.K T (exS C (.set (.name i) x)) D σ H) : tAsg te (gName i) D σ H := by
  obtain ⟨ρ, Z, st, env, r, rs, re, h1, p⟩ := hw
  simp only [exS, Option.bind_eq_some_iff, Option.map_eq_some_iff] at h1
  obtain ⟨⟨d, st1⟩, h2, ⟨env1, st2⟩, h3, h4⟩ := h1
  cases h4
  simp only [stT] at h3
  split at h3
  · cases h3
    exact hi _ _ _ (tEv.go rs re h2 fun ρ' Z' H' v f r' e' q => post.nx p f r' (e'.set q))
  · cases h3
theorem i_putL {a i : Q.X} {D : Ends} {σ : L2.St} {H : Hp} (hw : tRunS X.K T (exS C (.set (.sub a i) x)) D σ H) : tAsg (tEv X.K T C x) (gSub (tEv X.K T C a) (tEv X.K T C i) rSetL) D σ H := by
  obtain ⟨ρ, Z, st, env, r, rs, re, h1, p⟩ := hw
  simp only [exS, Option.bind_eq_some_iff, Option.map_eq_some_iff] at h1
  obtain ⟨⟨d, st1⟩, h2, ⟨env1, st2⟩, h3, h4⟩ := h1
  cases h4
  simp only [stT, Option.bind_eq_some_iff, Option.map_eq_some_iff] at h3
  obtain ⟨⟨o, st3⟩, h5, ⟨y, st4⟩, h6, st5, h7, h8⟩ := h3
  cases h8
  refine tEv.go rs re h2 fun ρ1 Z1 H1 v f1 r1 e1 q1 => ?_
  refine tEv.go r1 e1 h5 fun ρ2 Z2 H2 w f2 r2 e2 q2 => tEv.go r2 e2 h6 fun ρ3 Z3 H3 u f3 r3 e3 q3 => ?_
  have q1' := Rep.mono r2.sub f3 _ _ (Rep.mono r1.sub f2 _ _ q1)
  have q2' := Rep.mono r2.sub f3 _ _ q2
  dsimp only at h7 p
  unfold putL at h7
  split at h7
  · rename_i n kk
    split at h7
    · rename_i ds hd
      simp only [setAt, Option.map_map, Option.map_eq_some_iff] at h7
      obtain ⟨j, h8, h9⟩ := h7
      simp only [Function.comp_apply] at h9
      subst h9
      obtain ⟨p0, vs, rfl, a1, a2, a3⟩ := loc_lst r3 q2' hd
      simp only [Rep] at q3
      subst q3
      obtain ⟨f4, r4⟩ := put_lst r3 a1 a2 (a3.set j q1')
      exact ⟨p0, vs, kk, j, rfl, rfl, a2, by rw [← a3.len]; exact h8, post.nx p (((f1.trans f2).trans f3).trans f4) r4 (e3.mono r3.sub f4)⟩
    · cases h7
  · cases h7
theorem i_putK {a i : Q.X} {D : Ends} {σ : L2.St} {H : Hp} (hw : tRunS X.K T (exS C (.set (.subK a i) x)) D σ H) : tAsg (tEv X.K T C x) (gSub (tEv X.K T C a) (tEv X.K T C i) rSetD) D σ H := by
  obtain ⟨ρ, Z, st, env, r, rs, re, h1, p⟩ := hw
  simp only [exS, Option.bind_eq_some_iff, Option.map_eq_some_iff] at h1
  obtain ⟨⟨d, st1⟩, h2, ⟨env1, st2⟩, h3, h4⟩ := h1
  cases h4
  simp only [stT, Option.bind_eq_some_iff, Option.map_eq_some_iff] at h3
  obtain ⟨⟨o, st3⟩, h5, ⟨y, st4⟩, h6, st5, h7, h8⟩ := h3
  cases h8
  refine tEv.go rs re h2 fun ρ1 Z1 H1 v f1 r1 e1 q1 => ?_
  refine tEv.go r1 e1 h5 fun ρ2 Z2 H2 w f2 r2 e2 q2 => tEv.go r2 e2 h6 fun ρ3 Z3 H3 u f3 r3 e3 q3 => ?_
  have q1' := Rep.mono r2.sub f3 _ _ (Rep.mono r1.sub f2 _ _ q1)
  have q2' := Rep.mono r2.sub f3 _ _ q2
  dsimp only at h7 p
  unfold putK at h7
  split at h7
  · rename_i n
    split at h7
    · rename_i kvs hd
      simp only [Option.bind_eq_some_iff] at h7
      obtain ⟨ky, h8, h9⟩ := h7
      split at h9
      · rename_i hl
        cases h9
        obtain ⟨p0, ws, rfl, a1, a2, a3⟩ := loc_dct r3 q2' hd
        obtain ⟨f4, r4⟩ := put_dct r3 a1 a2 (put_rep a3 q1' (key_str q3 h8))
        have hlen : kvs.length = ws.length := by have := congrArg List.length a3.1; simpa using this
        rw [rep_key q3 h8]
        exact ⟨p0, _, rfl, DPut.k a2 (by rw [← hlen]; exact hl), post.nx p (((f1.trans f2).trans f3).trans f4) r4 (e3.mono r3.sub f4)⟩
      · cases h9
    · cases h7
  · cases h7
/-- two items of dicts stored at once -/
theorem i_put2 {a i a2 i2 : Q.X} {D : Ends} {σ : L2.St} {H : Hp} (hw : tRunS X.K T (exS C (.set (.tup [.subK a i, .subK a2 i2]) x)) D σ H) :
    tAsg (tEv X.K T C x) (gTup X.K 2 (gCons (gSub (tEv X.K T C a) (tEv X.K T C i) rSetD) (gCons (gSub (tEv X.K T C a2) (tEv X.K T C i2) rSetD) gNil))) D σ H := by
  obtain ⟨ρ, Z, st, env, r, rs, re, h1, p⟩ := hw
  simp only [exS, Option.bind_eq_some_iff, Option.map_eq_some_iff] at h1
  obtain ⟨⟨d, st1⟩, h2, ⟨env1, st2⟩, h3, h4⟩ := h1
  cases h4
  cases d <;> simp only [stT] at h3 <;> first | (cases h3; done) | skip
  rename_i ds
  split at h3
  · rename_i hlen
    match ds, hlen with
    | [d1, d2], _ =>
      simp only [stTs, stT, Option.bind_eq_some_iff, Option.map_eq_some_iff] at h3
      obtain ⟨⟨env2, st3⟩, ⟨⟨o, st4⟩, h5, ⟨y, st5⟩, h6, st6, h7, h8⟩, ⟨env3, st7⟩, ⟨⟨o2, st8⟩, h9, ⟨y2, st9⟩, h10, st10, h11, h12⟩, h13⟩ := h3
      simp only [Prod.mk.injEq] at h8 h12
      obtain ⟨rfl, rfl⟩ := h8
      obtain ⟨rfl, rfl⟩ := h12
      simp only [Option.some.injEq, Prod.mk.injEq] at h13
      obtain ⟨rfl, rfl⟩ := h13
      refine tEv.go rs re h2 fun ρ1 Z1 H1 v f1 r1 e1 q1 => ?_
      obtain ⟨ta, vs, rfl, t1, t2⟩ := rep_tup q1
      simp only [Reps] at t2
      obtain ⟨v1, vr, rfl, w1, v2, vr2, rfl, w2, rfl⟩ := t2
      refine ⟨ta, _, rfl, t1, rfl, v1, _, rfl, ?_⟩
      refine tEv.go r1 e1 h5 fun ρ2 Z2 H2 w f2 r2 e2 q2 => tEv.go r2 e2 h6 fun ρ3 Z3 H3 u f3 r3 e3 q3 => ?_
      have w1' := Rep.mono r2.sub f3 _ _ (Rep.mono r1.sub f2 _ _ w1)
      have w2' := Rep.mono r2.sub f3 _ _ (Rep.mono r1.sub f2 _ _ w2)
      have q2' := Rep.mono r2.sub f3 _ _ q2
      dsimp only at h7 p
      unfold putK at h7
      split at h7
      · rename_i n
        split at h7
        · rename_i kvs hd
          simp only [Option.bind_eq_some_iff] at h7
          obtain ⟨ky, h8, h7⟩ := h7
          split at h7
          · rename_i hl
            cases h7
            obtain ⟨p0, ws, rfl, a1, a2, a3⟩ := loc_dct r3 q2' hd
            obtain ⟨f4, r4⟩ := put_dct r3 a1 a2 (put_rep a3 w1' (key_str q3 h8))
            have hlen : kvs.length = ws.length := by have := congrArg List.length a3.1; simpa using this
            rw [rep_key q3 h8]
            refine ⟨p0, _, rfl, DPut.k a2 (by rw [← hlen]; exact hl), v2, _, rfl, ?_⟩
            have e4 := e3.mono r3.sub f4
            have w2'' := Rep.mono r3.sub f4 _ _ w2'
            refine tEv.go r4 e4 h9 fun ρ5 Z5 H5 w f5 r5 e5 q5 => tEv.go r5 e5 h10 fun ρ6 Z6 H6 u f6 r6 e6 q6 => ?_
            have w3 := Rep.mono r5.sub f6 _ _ (Rep.mono r4.sub f5 _ _ w2'')
            have q5' := Rep.mono r5.sub f6 _ _ q5
            dsimp only at h11
            unfold putK at h11
            split at h11
            · rename_i n2
              split at h11
              · rename_i kvs2 hd2
                simp only [Option.bind_eq_some_iff] at h11
                obtain ⟨ky2, h12, h11⟩ := h11
                split at h11
                · rename_i hl2
                  cases h11
                  obtain ⟨p1, us, rfl, b1, b2, b3⟩ := loc_dct r6 q5' hd2
                  obtain ⟨f7, r7⟩ := put_dct r6 b1 b2 (put_rep b3 w3 (key_str q6 h12))
                  have hlen2 : kvs2.length = us.length := by have := congrArg List.length b3.1; simpa using this
                  rw [rep_key q6 h12]
                  exact ⟨p1, _, rfl, DPut.k b2 (by rw [← hlen2]; exact hl2), rfl, post.nx p ((((((f1.trans f2).trans f3).trans f4).trans f5).trans f6).trans f7) r7 (e6.mono r6.sub f7)⟩
                · cases h11
              · cases h11
            · cases h11
          · cases h7
        · cases h7
      · cases h7
  · cases h3
theorem s_put2 {o i o2 i2 : Expr} {a b a2 b2 : Q.X} {p2 p3 p4 : Pos} {kk : Nat} (G : Good g C T k L X) (hx : plainIxB i = true) (hx2 : plainIxB i2 = true) (ho : PE X o (tEv X.K T C a)) (hi : PE X i (tEv X.K T C b)) (ho2 : PE X o2 (tEv X.K T C a2)) (hi2 : PE X i2 (tEv X.K T C b2)) (he : PE X e (tEv X.K T C x))
    (hs : swapsWithSole [.Tuple [.Subscript o i p2, .Subscript o2 i2 p3] kk p4] e pos.line X.env = pure false) (hw : swappedStores [.Tuple [.Subscript o i p2, .Subscript o2 i2 p3] kk p4] e X.env = pure none) : PS X (.Assign [.Tuple [.Subscript o i p2, .Subscript o2 i2 p3] kk p4] e pos) (tRunS X.K T (exS C (.set (.tup [.subK a b, .subK a2 b2]) x))) :=
  (ps_asg he (pg_tup G.calm (pgs_cons (pg_sub ho hi (set_dict G.u1) (asg_sub hx)) (pgs_cons (pg_sub ho2 hi2 (set_dict G.u1) (asg_sub hx2)) pgs_nil))) hs hw).imp fun D σ H hw => i_put2 hw
theorem s_putL {o i : Expr} {a b : Q.X} {p2 : Pos} (hx : plainIxB i = true) (ho : PE X o (tEv X.K T C a)) (hi : PE X i (tEv X.K T C b)) (he : PE X e (tEv X.K T C x)) (hw : swappedStores [.Subscript o i p2] e X.env = pure none) : PS X (.Assign [.Subscript o i p2] e pos) (tRunS X.K T (exS C (.set (.sub a b) x))) :=
  (ps_asg he (pg_sub ho hi set_list (asg_sub hx)) (sw_sub (a := o) (b := i) (p := p2) pos.line X.env) hw).imp fun D σ H hw => i_putL hw
theorem s_putK {o i : Expr} {a b : Q.X} {p2 : Pos} (G : Good g C T k L X) (hx : plainIxB i = true) (ho : PE X o (tEv X.K T C a)) (hi : PE X i (tEv X.K T C b)) (he : PE X e (tEv X.K T C x)) (hw : swappedStores [.Subscript o i p2] e X.env = pure none) : PS X (.Assign [.Subscript o i p2] e pos) (tRunS X.K T (exS C (.set (.subK a b) x))) :=
  (ps_asg he (pg_sub ho hi (set_dict G.u1) (asg_sub hx)) (sw_sub (a := o) (b := i) (p := p2) pos.line X.env) hw).imp fun D σ H hw => i_putK hw
theorem s_expr (he : PE X e (tEv X.K T C x)) (hs : compB e = false) : PS X (.Expr e pos) (tRunS X.K T (exS C (.expr x))) := (ps_expr he (sw_no hs _ _ _)).imp fun D σ H hw => by
  obtain ⟨ρ, Z, st, env, r, rs, re, h1, p⟩ := hw
  simp only [exS, Option.map_eq_some_iff] at h1
  obtain ⟨⟨d, st1⟩, h2, h3⟩ := h1
  cases h3
  exact tEv.go rs re h2 fun ρ' Z' H' v f r' e' q => post.nx p f r' e'
theorem s_ret (he : PE X e (tEv X.K T C x)) : PS X (.Return (some e) pos) (tRunS X.K T (exS C (.ret x))) := (ps_ret he).imp fun D σ H hw => by
  obtain ⟨ρ, Z, st, env, r, rs, re, h1, p⟩ := hw
  simp only [exS, Option.map_eq_some_iff] at h1
  obtain ⟨⟨d, st1⟩, h2, h3⟩ := h1
  cases h3
  exact tEv.go rs re h2 fun ρ' Z' H' v f r' e' q => post.rt p f r' q
theorem s_retN : PS X (.Return none pos) (tRunS X.K T (exS C .retN)) := ps_retN.imp fun D σ H hw => by
  obtain ⟨ρ, Z, st, env, r, rs, re, h1, p⟩ := hw
  simp only [exS] at h1
  cases h1
  exact post.rt p .refl rs (by simp [Rep])
theorem s_if {a b : List Stmt} {sa sb : List S} (hc : PT X e (tB (tEv X.K T C x))) (ha : PSs X a (tRunS X.K T (exL C sa))) (hb : PSs X b (tRunS X.K T (exL C sb))) : PS X (.If e a b pos) (tRunS X.K T (exS C (.ite x sa sb))) := (ps_if hc ha hb).imp fun D σ H hw => by
  obtain ⟨ρ, Z, st, env, r, rs, re, h1, p⟩ := hw
  simp only [exS, Option.bind_eq_some_iff] at h1
  obtain ⟨⟨c, st1⟩, h2, h3⟩ := h1
  refine tst rs re h2 fun ρ' Z' H' f r' e' => ?_
  cases c with
  | true => exact iteT ⟨ρ', Z', st1, env, r, r', e', h3, p.mono f⟩
  | false => exact iteF ⟨ρ', Z', st1, env, r, r', e', h3, p.mono f⟩
theorem s_never {a : Stmt} : PS X a (tRunS X.K T (exS C .never)) := ps_never.imp fun D σ H hw => by
  obtain ⟨ρ, Z, st, env, r, rs, re, h1, p⟩ := hw
  simp [exS] at h1
theorem s_for {iter : Expr} {it : Q.It} {b : List S} {body : List Stmt} (G : Good g C T k L X) (hi : PI X tg iter (tIt X.K T C it)) (hg : okB L t tg = true) (hb : PSs X body (tRunS X.K T (exL C b))) (hs : ∀ x, foldedSetIterable iter X.env x = pure x) :
    PS X (.For tg iter body [] pos) (tRunS X.K T (exS C (.for_ t it b))) := (ps_for (by rw [G.never]; exact PassesOwn.never) G.calm hi (s_bind G t tg hg) hb hs).imp fun D σ H hw => by
  obtain ⟨ρ, Z, st, env, r, rs, re, h1, p⟩ := hw
  simp only [exS, Option.bind_eq_some_iff] at h1
  obtain ⟨⟨gd, ds, st1⟩, h2, h3⟩ := h1
  refine ⟨ρ, Z, st, env, gd, ds, st1, rs, re, h2, fun ρ1 Z1 H1 J f1 r1 src => ?_⟩
  refine ⟨fun i m σ H => ∃ ρ Z st env, Fr ρ1 Z1 H1 ρ Z H ∧ RelS X.K T ρ Z st H ∧ RelE X.K ρ Z H env σ ∧ forLoop gd (bindT t) (exL C b) (ds.drop i) env st = some r ∧ m = ds.length - i ∧ i ≤ ds.length, ⟨ds.length, ρ1, Z1, st1, env, .refl, r1, re.mono rs.sub f1, h3, rfl, Nat.zero_le _⟩, ?_⟩
  rintro i m σ2 H2 ⟨ρ2, Z2, st2, env2, f2, r2, e2, hl, rfl, hi⟩
  by_cases hlt : i < ds.length
  · right
    rw [List.drop_eq_getElem_cons hlt] at hl
    unfold forLoop at hl
    split at hl
    · rename_i hgd
      simp only [Option.bind_eq_some_iff] at hl
      obtain ⟨env3, h4, ⟨fl, env4, st4⟩, h5, h6⟩ := hl
      obtain ⟨s1, _, s3⟩ := src ρ2 Z2 st2 H2 (f2.fz r1.sub) r2 hgd
      refine ⟨s1 i hlt, fun σ H => ∃ ρ Z st env, Fr ρ1 Z1 H1 ρ Z H ∧ RelS X.K T ρ Z st H ∧ RelE X.K ρ Z H env σ ∧ forLoop gd (bindT t) (exL C b) (ds.drop (i + 1)) env st = some r, fun σ' H' ⟨ρ', Z', st', env', a1, a2, a3, a4⟩ => ⟨ds.length - (i + 1), by omega, ρ', Z', st', env', a1, a2, a3, a4, rfl, hlt⟩, fun x H' hy => ?_⟩
      obtain ⟨d, q1, f3, r3, qd⟩ := s3 i x H' hlt hy
      have q2 : d = ds[i] := by rw [List.getElem?_eq_getElem hlt] at q1; exact (Option.some.inj q1).symm
      subst q2
      refine ⟨ρ2, Z2, env2, _, env3, r3.sub, e2.mono r2.sub f3, qd, h4, fun σ5 e5 _ _ => ?_⟩
      refine ⟨ρ2, Z2, st2, env3, _, r3, e5, h5, ?_⟩
      have f13 := f2.trans f3
      cases fl with
      | ret d =>
        simp only at h6
        cases h6
        exact fun ρ' Z' H' v f r' q => post.rt (p.mono f1) (f13.trans f) r' q
      | next =>
        simp only at h6
        exact fun ρ' Z' H' σ' f r' e' => ⟨ρ', Z', st4, env4, f13.trans f, r', e', h6⟩
    · cases hl
  · left
    have q : i = ds.length := by omega
    subst q
    rw [List.drop_length] at hl
    unfold forLoop at hl
    split at hl
    · rename_i hgd
      cases hl
      exact ⟨(src ρ2 Z2 st2 H2 (f2.fz r1.sub) r2 hgd).2.1, (p.mono f1).nx f2 r2 e2⟩
    · cases hl
theorem s_while {b : List S} {body : List Stmt} (G : Good g C T k L X) (hc : PT X e (tB (tEv X.K T C x))) (hb : PSs X body (tRunS X.K T (exL C b))) : PS X (.While e body [] pos) (tRunS X.K T (exS C (.while_ x b))) := (ps_while (by rw [G.never]; exact PassesOwn.never) hc hb).imp fun D σ H hw => by
  obtain ⟨ρ, Z, st, env, r, rs, re, h1, p⟩ := hw
  simp only [exS] at h1
  refine ⟨fun m σ H2 => ∃ ρ2 Z2 st env, Fr ρ Z H ρ2 Z2 H2 ∧ RelS X.K T ρ2 Z2 st H2 ∧ RelE X.K ρ2 Z2 H2 env σ ∧ whileLoop (fun env st => asB (ev C x env st)) (exL C b) m env st = some r, ⟨C.turns, ρ, Z, st, env, .refl, rs, re, h1⟩, ?_⟩
  rintro m σ2 H2 ⟨ρ2, Z2, st2, env2, f2, r2, e2, hl⟩
  cases m with
  | zero => simp [whileLoop] at hl
  | succ m =>
    simp only [whileLoop, Option.bind_eq_some_iff] at hl
    obtain ⟨⟨c, st3⟩, h2, h3⟩ := hl
    refine tst r2 e2 h2 fun ρ3 Z3 H3 f3 r3 e3 => ?_
    cases c with
    | false =>
      simp only at h3
      cases h3
      exact iteF (post.nx p (f2.trans f3) r3 e3)
    | true =>
      simp only [Option.bind_eq_some_iff] at h3
      obtain ⟨⟨fl, env4, st4⟩, h4, h5⟩ := h3
      refine iteT ⟨fun σ' H' => ∃ ρ2 Z2 st env, Fr ρ Z H ρ2 Z2 H' ∧ RelS X.K T ρ2 Z2 st H' ∧ RelE X.K ρ2 Z2 H' env σ' ∧ whileLoop (fun env st => asB (ev C x env st)) (exL C b) m env st = some r, fun σ' H' hN => ⟨m, Nat.lt_succ_self m, hN⟩, ?_⟩
      refine ⟨ρ3, Z3, st3, env2, _, r3, e3, h4, ?_⟩
      cases fl with
      | ret d =>
        simp only at h5
        cases h5
        exact fun ρ' Z' H' v f r' q => post.rt p ((f2.trans f3).trans f) r' q
      | next =>
        simp only at h5
        exact fun ρ' Z' H' σ' f r' e' => ⟨ρ', Z', st4, env4, (f2.trans f3).trans f, r', e', h5⟩
theorem i_aug {i : Nat} {op : Operator} {f : Int → Int → Int} (hof : (op = .Add ∧ f = fun x y => x + y) ∨ (op = .Sub ∧ f = fun x y => x - y)) {D : Ends} {σ : L2.St} {H : Hp} (hw : tRunS X.K T (exS C (.aug i op x)) D σ H) : tAug i (tEv X.K T C x) (ipI f) D σ H := by
  obtain ⟨ρ, Z, st, env, r, rs, re, h1, p⟩ := hw
  simp only [exS] at h1
  split at h1
  · rename_i n hn
    simp only [Option.bind_eq_some_iff] at h1
    obtain ⟨⟨d, st1⟩, h2, h3⟩ := h1
    obtain ⟨v, hv, qv⟩ := re.2 i _ hn
    simp only [Rep] at qv
    subst qv
    refine ⟨_, hv, tEv.go rs re h2 fun ρ' Z' H' u f r' e' q => ?_⟩
    rcases hof with ⟨rfl, rfl⟩ | ⟨rfl, rfl⟩
    · cases d <;> simp only at h3 <;> cases h3
      simp only [Rep] at q
      exact ⟨n, _, rfl, q, post.nx p f r' (e'.set (by simp [Rep]))⟩
    · cases d <;> simp only at h3 <;> cases h3
      simp only [Rep] at q
      exact ⟨n, _, rfl, q, post.nx p f r' (e'.set (by simp [Rep]))⟩
  · cases h1
theorem s_aug {i : Nat} {y : Str} {op : Operator} {p2 : Pos} (G : Good g C T k L X) (hn : L.N[i]? = some y) (hl : locB L.sc y = true) (hf : (L.fn y || L.sc.names.lookup y == some .local) = true) (ho : op = .Add ∨ op = .Sub) (he : PE X e (tEv X.K T C x)) :
    PS X (.AugAssign (.Name y p2) op e pos) (tRunS X.K T (exS C (.aug i op x))) := by
  have hloc : Loc X.env.scope y := by rw [G.sc]; exact locB_ok hl
  have hf' : X.fn y = true ∨ X.env.scope.names.lookup y = some .local := by
    simp only [Bool.or_eq_true, beq_iff_eq] at hf
    rcases hf with h | h
    · exact .inl (G.fn y h)
    · rw [G.sc]; exact .inr h
  rcases ho with rfl | rfl
  · exact (ps_aug (by rw [G.hN]; exact G.nd) (by rw [G.hN]; exact hn) hloc he ip_add hf').imp fun D σ H hw => i_aug (.inl ⟨rfl, rfl⟩) hw
  · exact (ps_aug (by rw [G.hN]; exact G.nd) (by rw [G.hN]; exact hn) hloc he ip_sub hf').imp fun D σ H hw => i_aug (.inr ⟨rfl, rfl⟩) hw
/-! ### pairs and triples stored from the right -/
def isLoc (sc : Scope) (x : Str) : Bool := sc.names.lookup x == some .local
def plain2 (a b : Expr) : Bool := !starP a && !starP b && !(foldedForSure 8 a && foldedForSure 8 b) && !(constantsAlone 8 a && constantsAlone 8 b)
theorem sw_two {x y : Str} {px py pt pt2 : Pos} {kt k2 : Nat} {a b : Expr} {env : PySem.Env} (hk : env.scope.kind = .function) (hx : env.scope.names.lookup x = some .local) (hy : env.scope.names.lookup y = some .local) (hl : py.line = px.line) (hn : x ≠ y) (hp : plain2 a b = true) :
    swappedStores [.Tuple [.Name x px, .Name y py] kt pt] (.Tuple [a, b] k2 pt2) env = pure (some [x, y]) := by
  have hb : env.blockKind = .function := by unfold Env.blockKind; rw [hk]; rfl
  have kx : env.kindOf x = some .local := hx
  have ky : env.kindOf y = some .local := hy
  unfold plain2 at hp
  simp only [Bool.and_eq_true, Bool.not_eq_true'] at hp
  obtain ⟨⟨⟨h1, h2⟩, h3⟩, h4⟩ := hp
  have hst : ∀ {f : Expr → Bool}, (∀ e, starP e = false → f e = false) → ([a, b].any f) = false := fun {f} hf => by simp [hf a h1, hf b h2]
  unfold swappedStores
  dsimp only
  rw [if_neg (by simp [hb]), if_neg (by rw [hst fun e he => by cases e <;> first | rfl | (simp [starP] at he)]; exact Bool.false_ne_true)]
  have en : ([x, y] : List Str).eraseDups = [x, y] := by simp [List.eraseDups_cons, Ne.symm hn]
  simp only [List.filterMap_cons, List.filterMap_nil, kx, ky, List.head?_cons, Option.map_some, Option.getD_some, Expr.pos, hl, BEq.rfl, Bool.and_self, if_true, List.all_cons, List.all_nil, Bool.and_true]
  rw [if_neg (by simp [en]), if_neg (by simp [h3]), if_neg (by simp [h4])]
def plain3 (a b c : Expr) : Bool := !starP a && !starP b && !starP c && !(foldedForSure 8 a && (foldedForSure 8 b && foldedForSure 8 c)) && !(constantsAlone 8 a && (constantsAlone 8 b && constantsAlone 8 c))
theorem sw_three {x y z : Str} {px py pz pt pt2 : Pos} {kt k2 : Nat} {a b c : Expr} {env : PySem.Env} (hk : env.scope.kind = .function) (hx : env.scope.names.lookup x = some .local) (hy : env.scope.names.lookup y = some .local) (hz : env.scope.names.lookup z = some .local) (hl : py.line = px.line) (hl2 : pz.line = px.line) (hn : x ≠ y) (hn2 : x ≠ z) (hn3 : y ≠ z) (hp : plain3 a b c = true) :
    swappedStores [.Tuple [.Name x px, .Name y py, .Name z pz] kt pt] (.Tuple [a, b, c] k2 pt2) env = pure (some [x, y, z]) := by
  have hb : env.blockKind = .function := by unfold Env.blockKind; rw [hk]; rfl
  have kx : env.kindOf x = some .local := hx
  have ky : env.kindOf y = some .local := hy
  have kz : env.kindOf z = some .local := hz
  unfold plain3 at hp
  simp only [Bool.and_eq_true, Bool.not_eq_true'] at hp
  obtain ⟨⟨⟨⟨h1, h2⟩, h5⟩, h3⟩, h4⟩ := hp
  have hst : ∀ {f : Expr → Bool}, (∀ e, starP e = false → f e = false) → ([a, b, c].any f) = false := fun {f} hf => by simp [hf a h1, hf b h2, hf c h5]
  unfold swappedStores
  dsimp only
  rw [if_neg (by simp [hb]), if_neg (by rw [hst fun e he => by cases e <;> first | rfl | (simp [starP] at he)]; exact Bool.false_ne_true)]
  have en : ([x, y, z] : List Str).eraseDups = [x, y, z] := by simp [List.eraseDups_cons, Ne.symm hn, Ne.symm hn2, Ne.symm hn3]
  simp only [List.filterMap_cons, List.filterMap_nil, kx, ky, kz, List.head?_cons, Option.map_some, Option.getD_some, Expr.pos, hl, hl2, BEq.rfl, Bool.and_self, if_true, List.all_cons, List.all_nil, Bool.and_true]
  rw [if_neg (by simp [en]), if_neg (by simp [h3]), if_neg (by simp [h4])]
theorem i_par2 {i j : Nat} {xs : List Q.X} {D : Ends} {σ : L2.St} {H : Hp} (hw : tRunS X.K T (exS C (.par [i, j] xs)) D σ H) : tPar i j (tEvL X.K T C xs) D σ H := by
  obtain ⟨ρ, Z, st, env, r, rs, re, h1, p⟩ := hw
  simp only [exS, Option.bind_eq_some_iff, Option.map_eq_some_iff] at h1
  obtain ⟨⟨ds, st1⟩, h2, env1, h3, h4⟩ := h1
  cases h4
  refine ⟨ρ, Z, st, env, ds, st1, rs, re, h2, fun ρ' Z' H' vs f r' q => ?_⟩
  have e' := re.mono rs.sub f
  cases ds with
  | nil => simp [setAll] at h3
  | cons d1 ds =>
    cases ds with
    | nil => simp only [setAll] at h3; split at h3 <;> cases h3
    | cons d2 ds =>
      cases ds with
      | cons _ _ => simp only [setAll] at h3; split at h3 <;> (try split at h3) <;> cases h3
      | nil =>
        simp only [Reps] at q
        obtain ⟨v, _, rfl, q1, w, _, rfl, q2, rfl⟩ := q
        simp only [setAll] at h3
        split at h3
        · split at h3
          · cases h3
            exact ⟨v, w, rfl, post.nx p f r' ((e'.set q1).set q2)⟩
          · cases h3
        · cases h3
theorem i_par3 {i j l : Nat} {xs : List Q.X} {D : Ends} {σ : L2.St} {H : Hp} (hw : tRunS X.K T (exS C (.par [i, j, l] xs)) D σ H) : tPar3 i j l (tEvL X.K T C xs) D σ H := by
  obtain ⟨ρ, Z, st, env, r, rs, re, h1, p⟩ := hw
  simp only [exS, Option.bind_eq_some_iff, Option.map_eq_some_iff] at h1
  obtain ⟨⟨ds, st1⟩, h2, env1, h3, h4⟩ := h1
  cases h4
  refine ⟨ρ, Z, st, env, ds, st1, rs, re, h2, fun ρ' Z' H' vs f r' q => ?_⟩
  have e' := re.mono rs.sub f
  rcases ds with _ | ⟨d1, _ | ⟨d2, _ | ⟨d3, _ | ⟨_, _⟩⟩⟩⟩
  · simp [setAll] at h3
  · simp only [setAll] at h3; split at h3 <;> cases h3
  · simp only [setAll] at h3; split at h3 <;> (try split at h3) <;> cases h3
  · simp only [Reps] at q
    obtain ⟨v, _, rfl, q1, w, _, rfl, q2, u, _, rfl, q3, rfl⟩ := q
    simp only [setAll] at h3
    split at h3
    · split at h3
      · split at h3
        · cases h3
          exact ⟨v, w, u, rfl, post.nx p f r' (((e'.set q1).set q2).set q3)⟩
        · cases h3
      · cases h3
    · cases h3
  · simp only [setAll] at h3; split at h3 <;> (try split at h3) <;> (try split at h3) <;> cases h3
end
/-! ### name = [..] on one line -/
section
variable {g : Sig} {C : Ctx} {T : List (Addr × Str)} {kk : Nat} {L : Lv} {X : Cx} {own : List (Str × Nat)} {vs1 : List Nat} {t t1 : Tt} {it it1 : Q.It} {c c1 e : _root_.Q.X} {tg tg1 iter iter1 elt : Expr} {ifs ifs1 : List Expr} {scope : Scope} {pos spos py : Pos} {i : Nat} {y : Str}
theorem swT {gs : List Comprehension} (G : Good g C T kk L X) (hk : L.sc.kind = .function) (h : swB L.sc y py scope pos = true) (l : Nat) : swapsWith (.ListComp elt gs scope pos) (some (.Name y py)) l X.env = pure true := by
  unfold swB at h
  simp only [Bool.and_eq_true, Bool.not_eq_true', beq_iff_eq] at h
  exact sw_true (by rw [G.sc]; exact hk) (by rw [G.sc]; exact h.1.1) (by simpa using h.1.2) h.2
theorem swL (h : swB L.sc y py scope pos = true) : L.sc.names.lookup y = some .local := by
  unfold swB at h
  simp only [Bool.and_eq_true, beq_iff_eq] at h
  exact h.1.1
end
end Q

/-! QSnd9: a body that stands the test. -/
namespace Q
open PySem PySem.Spec PyProof.Rows L2

def swOk (L : Lv) (tg e : Expr) : Bool := match tg with
  | .Name y py => (match e with
    | .ListComp _ _ scope pos => !swB L.sc y py scope pos
    | e => !compB e)
  | _ => true
def lcX : Q.X → Bool
  | .comp _ _ _ _ _ => true
  | .comp2 _ _ _ _ _ _ _ _ _ => true
  | .compK _ _ _ _ _ => true
  | _ => false
/-- an assignment to one target -/
def okA (g : Sig) (t : Tt) (x : Q.X) (L : Lv) (tg e : Expr) : Bool := match t with
  | .sub o i => (match tg with
    | .Subscript a b _ => plainIxB b && okE g o L a && okE g i L b && okE g x L e && swN L.sc tg e
    | _ => false)
  | .subK o i => (match tg with
    | .Subscript a b _ => plainIxB b && okE g o L a && okE g i L b && okE g x L e && swN L.sc tg e
    | _ => false)
  | .tup ts => (okB L (.tup ts) tg && okE g x L e && swN L.sc tg e) || (match ts, tg with
    | [.subK o i, .subK o2 i2], .Tuple [.Subscript a b _, .Subscript c d _] _ _ => plainIxB b && plainIxB d && okE g o L a && okE g i L b && okE g o2 L c && okE g i2 L d && okE g x L e && swN L.sc tg e
    | _, _ => false)
  | .name i => okB L (.name i) tg && okE g x L e && (match tg, e with
    | .Name y py, .ListComp _ _ scope pos => !swB L.sc y py scope pos || lcX x
    | _, e => !compB e)
mutual
def okS (g : Sig) : S → Lv → Stmt → Bool
  | .pass, _, s => match s with
    | .Pass _ => true
    | .Expr (.Constant (.str _) _ _) _ => true
    | _ => false
  | .set t x, L, s => match s with
    | .Assign [tg] e _ => okA g t x L tg e
    | _ => false
  | .par is xs, L, s => match s with
    | .Assign [.Tuple [.Name x px, .Name y py] _ _] (.Tuple [a, b] _ _) _ => (match is with
      | [i, j] => decide (i ≠ j) && decide (L.N[i]? = some x) && decide (L.N[j]? = some y) && isLoc L.sc x && isLoc L.sc y && decide (x ≠ y) && decide (py.line = px.line) && plain2 a b && okL g xs L [a, b]
      | _ => false)
    | .Assign [.Tuple [.Name x px, .Name y py, .Name z pz] _ _] (.Tuple [a, b, c] _ _) _ => (match is with
      | [i, j, l] => decide (i ≠ j) && decide (i ≠ l) && decide (j ≠ l) && decide (L.N[i]? = some x) && decide (L.N[j]? = some y) && decide (L.N[l]? = some z) && isLoc L.sc x && isLoc L.sc y && isLoc L.sc z &&
        decide (x ≠ y) && decide (x ≠ z) && decide (y ≠ z) && decide (py.line = px.line) && decide (pz.line = px.line) && plain3 a b c && okL g xs L [a, b, c]
      | _ => false)
    | _ => false
  | .aug i op x, L, s => match s with
    | .AugAssign (.Name y _) o e _ => decide (o = op) && (decide (op = .Add) || decide (op = .Sub)) && decide (L.N[i]? = some y) && locB L.sc y && (L.fn y || L.sc.names.lookup y == some .local) && okE g x L e
    | _ => false
  | .expr x, L, s => match s with
    | .Expr e _ => okE g x L e && !compB e
    | _ => false
  | .ite c a b, L, s => match s with
    | .If e p q _ => !iteX c && okE g c L e && okSs g a L p && okSs g b L q
    | _ => false
  | .for_ t it b, L, s => match s with
    | .For tg iter body els _ => els.isEmpty && okB L t tg && notSetB iter && okI g it L tg iter && okSs g b L body
    | _ => false
  | .while_ c b, L, s => match s with
    | .While e body els _ => els.isEmpty && !iteX c && okE g c L e && okSs g b L body
    | _ => false
  | .ret x, L, s => match s with
    | .Return (some e) _ => okE g x L e
    | _ => false
  | .retN, L, s => match s with
    | .Return none _ => true
    | _ => false
  | .never, _, _ => true
def okSs (g : Sig) : List S → Lv → List Stmt → Bool
  | [], _, ss => ss.isEmpty
  | x :: xs, L, ss => match ss with
    | s :: ss => okS g x L s && okSs g xs L ss
    | [] => false
end
section
variable {g : Sig} {C : Ctx} {T : List (Addr × Str)} {k : Nat}
theorem lock_asg {t : TE} {i : Nat} {D : Ends} {σ : L2.St} {H : Hp} (h : tAsg (tLockE t) (gName i) D σ H) : tLock (tAsg t (gName i)) D σ H := h
theorem s_setLc {L : Lv} {X : Cx} {x : Q.X} {i : Nat} {y : Str} {py pos spos : Pos} {elt : Expr} {gens : List Comprehension} {scope : Scope} (G : Good g C T k L X) (hk : L.sc.kind = .function) (hx : lcX x = true) (hn : L.N[i]? = some y) (h : okE g x L (.ListComp elt gens scope pos) = true) (hs : swB L.sc y py scope pos = true) :
    PS X (.Assign [.Name y py] (.ListComp elt gens scope pos) spos) (tRunS X.K T (exS C (.set (.name i) x))) := by
  have hyl : X.env.scope.names.lookup y = some .local := by rw [G.sc]; exact swL hs
  have hy : X.N[i]? = some y := by rw [G.hN]; exact hn
  have nd : X.N.Nodup := by rw [G.hN]; exact G.nd
  cases x <;> simp only [lcX, Bool.false_eq_true] at hx
  case comp own t it c x =>
    simp only [okE] at h; split at h; (case h_2 => cases h)
    rename_i e1
    cases e1
    simp only [Bool.and_eq_true, decide_eq_true_eq] at h
    obtain ⟨⟨⟨⟨⟨⟨⟨rfl, h1⟩, h2⟩, h3⟩, h4⟩, h5⟩, h6⟩, h7⟩ := h
    refine (ps_setLc G.calm nd hy hyl (swT G hk hs spos.line) (soundI it L _ _ X G h5) (by rw [G.hN, G.sc]; exact blkOk_by h1) (fun s H C' cl fp => s_bind (G.blk s H _ C' cl fp) t _ h2) (fun s H C' cl fp => ?_) (fun s H C' cl fp => (sound x _ _ _ (G.blk s H _ C' cl fp) h7).1) (notSet_ok h4 X.env)).imp fun D σ H hw => i_name (fun σ H Q z => i_comp (slots_ok h3) z) hw
    split at h6; (case h_3 => cases h6)
    · exact pts_yes h6
    · simp only [Bool.and_eq_true, Bool.not_eq_true'] at h6
      exact pts_one ((sound c _ _ _ (G.blk s H _ C' cl fp) h6.2).2 h6.1)
  case compK own t j c x =>
    simp only [okE] at h; split at h; (case h_2 => cases h)
    rename_i e1
    cases e1
    simp only [Bool.and_eq_true, Bool.not_eq_true', decide_eq_true_eq] at h
    obtain ⟨⟨⟨⟨⟨⟨rfl, h1⟩, h2⟩, h3⟩, ⟨⟨h4, h5⟩, h8⟩, h9⟩, h6⟩, h7⟩ := h
    refine (ps_lock (ps_setLc (te := tEv X.K T C x) (tt := tB (tEv X.K T C c)) (g := tBd X.K t) (own := own) (wi := iKeys (tVar j)) G.calm nd hy hyl (swT G hk hs spos.line) (pi_keys (pe_var (i := j) (by rw [G.hN]; exact h4) (by rw [G.sc]; exact visB_ok h5) h8 h9)) (by rw [G.hN, G.sc]; exact blkOk_by h1)
      (fun s H C' cl fp => s_bind (G.blk s H _ C' cl fp) t _ h2) (fun s H C' cl fp => ?_) (fun s H C' cl fp => (sound x _ _ _ (G.blk s H _ C' cl fp) h7).1) (fun _ => rfl))).imp fun D σ H hw => lock_asg (i_name (fun σ H Q z => i_compK (slots_ok h3) z) hw)
    split at h6; (case h_3 => cases h6)
    · exact pts_yes h6
    · simp only [Bool.and_eq_true, Bool.not_eq_true'] at h6
      exact pts_one ((sound c _ _ _ (G.blk s H _ C' cl fp) h6.2).2 h6.1)
  case comp2 own t it c own1 t1 it1 c1 x =>
    simp only [okE] at h; split at h; (case h_2 => cases h)
    rename_i e1
    cases e1
    simp only [Bool.and_eq_true, decide_eq_true_eq] at h
    obtain ⟨⟨⟨⟨⟨⟨⟨rfl, h1⟩, h2⟩, h3⟩, h4⟩, h5⟩, h6⟩, ⟨⟨⟨⟨⟨⟨rfl, g1⟩, g2⟩, g3⟩, g4⟩, g5⟩, g6⟩, h7⟩ := h
    refine (ps_setLc2 G.calm nd hy hyl (swT G hk hs spos.line) (soundI it L _ _ X G h5) (by rw [G.hN, G.sc]; exact blkOk_by h1) (slots_ok g1) (fun s H C' cl fp => s_bind (G.blk s H _ C' cl fp) t _ h2) (fun s H C' cl fp => ?_)
      (fun s H C' cl fp => soundI it1 _ _ _ _ (G.blk s H _ C' cl fp) g5) (fun s H C' cl fp => s_bind (G.blk s H _ C' cl fp) t1 _ g2) (fun s H C' cl fp => ?_) (fun s H C' cl fp => (sound x _ _ _ (G.blk s H _ C' cl fp) h7).1) (notSet_ok h4 X.env) (fun env => notSet_ok g4 env)).imp fun D σ H hw => i_name (fun σ H Q z => i_comp2 (slots_ok h3) (slots_ok g3) z) hw
    · split at h6; (case h_3 => cases h6)
      · exact pts_yes h6
      · simp only [Bool.and_eq_true, Bool.not_eq_true'] at h6
        exact pts_one ((sound c _ _ _ (G.blk s H _ C' cl fp) h6.2).2 h6.1)
    · split at g6; (case h_3 => cases g6)
      · exact pts_yes g6
      · simp only [Bool.and_eq_true, Bool.not_eq_true'] at g6
        exact pts_one ((sound c1 _ _ _ (G.blk s H _ C' cl fp) g6.2).2 g6.1)
theorem okB_name {L : Lv} {i : Nat} {tg : Expr} (h : okB L (.name i) tg = true) : ∃ y p, tg = .Name y p ∧ L.N[i]? = some y := by
  cases tg <;> first | (simp [okB] at h; done) | skip
  rename_i y p
  simp only [okB, Bool.and_eq_true, decide_eq_true_eq] at h
  exact ⟨y, p, rfl, h.1⟩
theorem okB_tup {L : Lv} {ts : List Tt} {tg : Expr} (h : okB L (.tup ts) tg = true) : ∃ es j p, tg = .Tuple es j p := by
  cases tg <;> first | (simp [okB] at h; done) | skip
  exact ⟨_, _, _, rfl⟩
theorem sw_name {x : Str} {p : Pos} {e : Expr} {env : PySem.Env} : swappedStores [.Name x p] e env = pure none := by
  cases e <;> rfl
theorem soundA (t : Tt) (x : Q.X) (L : Lv) (tg e : Expr) (pos : Pos) (X : Cx) (G : Good g C T k L X) (hk : L.sc.kind = .function) (h : okA g t x L tg e = true) : PS X (.Assign [tg] e pos) (tRunS X.K T (exS C (.set t x))) := by
  have hk' : X.env.scope.kind = .function := by rw [G.sc]; exact hk
  cases t with
  | sub o i =>
    simp only [okA] at h
    split at h; (case h_2 => cases h)
    simp only [Bool.and_eq_true] at h
    obtain ⟨⟨⟨⟨h1, h2⟩, h3⟩, h4⟩, h5⟩ := h
    exact s_putL h1 (sound o L _ X G h2).1 (sound i L _ X G h3).1 (sound x L _ X G h4).1 (sw_none (by rw [G.sc]; exact h5))
  | subK o i =>
    simp only [okA] at h
    split at h; (case h_2 => cases h)
    simp only [Bool.and_eq_true] at h
    obtain ⟨⟨⟨⟨h1, h2⟩, h3⟩, h4⟩, h5⟩ := h
    exact s_putK G h1 (sound o L _ X G h2).1 (sound i L _ X G h3).1 (sound x L _ X G h4).1 (sw_none (by rw [G.sc]; exact h5))
  | tup ts =>
    simp only [okA, Bool.or_eq_true] at h
    rcases h with h | h
    case inr =>
      split at h; (case h_2 => cases h)
      simp only [Bool.and_eq_true] at h
      obtain ⟨⟨⟨⟨⟨⟨⟨h1, h2⟩, h3⟩, h4⟩, h5⟩, h6⟩, h7⟩, h8⟩ := h
      rename_i o i o2 i2 ea eb p1 ec ed p2 kk p3
      exact s_put2 G h1 h2 (sound _ L _ X G h3).1 (sound _ L _ X G h4).1 (sound _ L _ X G h5).1 (sound _ L _ X G h6).1 (sound x L _ X G h7).1 (sw_tup (es := [.Subscript ea eb p1, .Subscript ec ed p2]) (k := kk) (p := p3) pos.line X.env) (sw_none (by rw [G.sc]; exact h8))
    simp only [Bool.and_eq_true] at h
    obtain ⟨⟨h1, h2⟩, h3⟩ := h
    have h1' := h1
    obtain ⟨es, j, p, rfl⟩ := okB_tup h1
    exact s_set G h1' (sound x L _ X G h2).1 (sw_tup (es := es) (k := j) (p := p) pos.line X.env) (sw_none (by rw [G.sc]; exact h3))
  | name i =>
    simp only [okA, Bool.and_eq_true] at h
    obtain ⟨⟨h1, h2⟩, h3⟩ := h
    have h1' := h1
    obtain ⟨y, py, rfl, hn⟩ := okB_name h1
    by_cases hc : compB e = true
    · cases e <;> simp only [compB, Bool.false_eq_true] at hc
      case ListComp elt gens scope p =>
        simp only [Bool.or_eq_true, Bool.not_eq_true'] at h3
        by_cases hs : swB L.sc y py scope p = true
        · rcases h3 with h3 | h3
          · rw [hs] at h3; cases h3
          · exact s_setLc G hk h3 hn h2 hs
        · exact s_set G h1' (sound x L _ X G h2).1 (sw_val (l := pos.line) hk' (by rw [G.sc]; simpa using hs)) sw_name
      case SetComp => simp [compB] at h3
      case DictComp => simp [compB] at h3
    · exact s_set G h1' (sound x L _ X G h2).1 (sw_no (e := e) (by simpa using hc) (some (.Name y py)) pos.line X.env) sw_name
mutual
theorem soundS : ∀ (s : S) (L : Lv) (a : Stmt) (X : Cx), Good g C T k L X → L.sc.kind = .function → okS g s L a = true → PS X a (tRunS X.K T (exS C s))
  | .pass, L, a, X, G, hk, h => by
    simp only [okS] at h; split at h; (case h_3 => cases h)
    · exact s_pass
    · exact s_doc
  | .set t x, L, a, X, G, hk, h => by
    simp only [okS] at h; split at h; (case h_2 => cases h)
    exact soundA t x L _ _ _ X G hk h
  | .par is xs, L, a, X, G, hk, h => by
    have nd : X.N.Nodup := by rw [G.hN]; exact G.nd
    have hk' : X.env.scope.kind = .function := by rw [G.sc]; exact hk
    have lk : ∀ {x : Str}, isLoc L.sc x = true → X.env.scope.names.lookup x = some .local := fun {x} h => by rw [G.sc]; simpa [isLoc] using h
    simp only [okS] at h; split at h; (case h_3 => cases h)
    · split at h; (case h_2 => cases h)
      simp only [Bool.and_eq_true, decide_eq_true_eq] at h
      obtain ⟨⟨⟨⟨⟨⟨⟨⟨h1, h2⟩, h3⟩, h4⟩, h5⟩, h6⟩, h7⟩, h8⟩, h9⟩ := h
      exact (ps_par G.calm nd (by rw [G.hN]; exact h2) (by rw [G.hN]; exact h3) h1 (lk h4) (lk h5) (pa_all (soundL xs L _ X G h9)) (sw_two hk' (lk h4) (lk h5) h7 h6 h8)).imp fun D σ H hw => i_par2 hw
    · split at h; (case h_2 => cases h)
      simp only [Bool.and_eq_true, decide_eq_true_eq] at h
      obtain ⟨⟨⟨⟨⟨⟨⟨⟨⟨⟨⟨⟨⟨⟨⟨h1, h2⟩, h3⟩, h4⟩, h5⟩, h6⟩, h7⟩, h8⟩, h9⟩, g1⟩, g2⟩, g3⟩, g4⟩, g5⟩, g6⟩, g7⟩ := h
      exact (ps_par3 G.calm nd (by rw [G.hN]; exact h4) (by rw [G.hN]; exact h5) (by rw [G.hN]; exact h6) h1 h2 h3 (lk h7) (lk h8) (lk h9) (pa_all (soundL xs L _ X G g7)) (sw_three hk' (lk h7) (lk h8) (lk h9) g4 g5 g1 g2 g3 g6)).imp fun D σ H hw => i_par3 hw
  | .aug i op x, L, a, X, G, hk, h => by
    simp only [okS] at h; split at h; (case h_2 => cases h)
    simp only [Bool.and_eq_true, decide_eq_true_eq] at h
    obtain ⟨⟨⟨⟨⟨rfl, h1⟩, h2⟩, h3⟩, h4⟩, h5⟩ := h
    exact s_aug G h2 h3 h4 (by simpa using h1) (sound x L _ X G h5).1
  | .expr x, L, a, X, G, hk, h => by
    simp only [okS] at h; split at h; (case h_2 => cases h)
    simp only [Bool.and_eq_true, Bool.not_eq_true'] at h
    exact s_expr (sound x L _ X G h.1).1 h.2
  | .ite c p q, L, a, X, G, hk, h => by
    simp only [okS] at h; split at h; (case h_2 => cases h)
    simp only [Bool.and_eq_true, Bool.not_eq_true'] at h
    obtain ⟨⟨⟨h1, h2⟩, h3⟩, h4⟩ := h
    exact s_if ((sound c L _ X G h2).2 h1) (soundB p L _ X G hk h3) (soundB q L _ X G hk h4)
  | .for_ t it b, L, a, X, G, hk, h => by
    simp only [okS] at h; split at h; (case h_2 => cases h)
    simp only [Bool.and_eq_true] at h
    obtain ⟨⟨⟨⟨h0, h1⟩, h2⟩, h3⟩, h4⟩ := h
    rw [List.isEmpty_iff] at h0
    subst h0
    exact s_for G (soundI it L _ _ X G h3) h1 (soundB b L _ X G hk h4) (notSet_ok h2 X.env)
  | .while_ c b, L, a, X, G, hk, h => by
    simp only [okS] at h; split at h; (case h_2 => cases h)
    simp only [Bool.and_eq_true, Bool.not_eq_true'] at h
    obtain ⟨⟨⟨h0, h1⟩, h2⟩, h3⟩ := h
    rw [List.isEmpty_iff] at h0
    subst h0
    exact s_while G ((sound c L _ X G h2).2 h1) (soundB b L _ X G hk h3)
  | .ret x, L, a, X, G, hk, h => by
    simp only [okS] at h; split at h; (case h_2 => cases h)
    exact s_ret (sound x L _ X G h).1
  | .retN, L, a, X, G, hk, h => by
    simp only [okS] at h; split at h; (case h_2 => cases h)
    exact s_retN
  | .never, L, a, X, G, hk, h => s_never
theorem soundB : ∀ (ss : List S) (L : Lv) (as : List Stmt) (X : Cx), Good g C T k L X → L.sc.kind = .function → okSs g ss L as = true → PSs X as (tRunS X.K T (exL C ss))
  | [], L, as, X, G, hk, h => by
    simp only [okSs, List.isEmpty_iff] at h
    subst h
    exact p_nil
  | s :: ss, L, as, X, G, hk, h => by
    simp only [okSs] at h; split at h; (case h_2 => cases h)
    simp only [Bool.and_eq_true] at h
    exact p_cons (soundS s L _ X G hk h.1) (soundB ss L _ X G hk h.2)
end
end
end Q

/-! QTop: the defs of a text, and the law's end. -/
namespace Q
open PySem PySem.Spec PyProof.Rows L2

def fnScB (N P : List Str) (sc : Scope) : Bool := decide (sc.kind = .function) && !sc.isCoroutine && !sc.isGenerator && decide N.Nodup && decide (N.take P.length = P) && (P.all fun x => locB sc x) && (sc.names.all fun y => !decide (y.2 = .free))
theorem fnSc_ok {N P : List Str} {sc : Scope} (h : fnScB N P sc = true) : FnScope N P sc := by
  unfold fnScB at h
  simp only [Bool.and_eq_true, Bool.not_eq_true', decide_eq_true_eq, decide_eq_false_iff_not, List.all_eq_true] at h
  obtain ⟨⟨⟨⟨⟨⟨h1, h2⟩, h3⟩, h4⟩, h5⟩, h6⟩, h7⟩ := h
  exact ⟨h1, h2, h3, h4, h5, fun x hx => locB_ok (h6 x hx), fun y hy => h7 y hy⟩
def topL (N : List Str) (st : Stmt) (lam : Bool) : Lv := ⟨N, defScope st, fun _ => true, lam⟩
def lamQ (f : Str) : Str := f ++ ".<locals>." ++ "<lambda>"
/-- the tree is the def's -/
def okDef (g : Sig) (d : Def) (st : Stmt) (ps : List Str) : Bool := fnScB d.names ps (defScope st) && decide (d.arity = ps.length) && okSs g d.body (topL d.names st (decide (d.name ∈ g.lam))) (defBody st)
/-- a def as it stands behind the top -/
structure Has (K : PySem.W.Frag) (mg : Str → Option Value) (g : Sig) (tab : Str → Option Def) (f : Str) (n : Nat) : Prop where
  ex : ∃ (a : Addr) (fd : FuncData) (ps : List Str) (st : Stmt) (d : Def), mg f = some (.ref a) ∧ Fun K f f st a fd ∧ L2.Binds K fd ps [] ∧ ps.length = n ∧ tab f = some d ∧ okDef g d st ps = true ∧ d.name = f
/-- what a def with a lambda brings -/
def LamAt (mg : Str → Option Value) (K : PySem.W.Frag) (T : List (Addr × Str)) (cs : List (Addr × Addr)) (f : Str) : Prop := ∀ (a : Addr) (st : Stmt) (fd : FuncData), Fun K f f st a fd → mg f = some (.ref a) →
  ∃ c P, fd.code = .ref c ∧ (c, P) ∈ cs ∧ (P, lamQ f) ∈ T ∧ ∀ p ∈ T, p.1 = P → p.2 = lamQ f
structure Top (K : PySem.W.Frag) (mg : Str → Option Value) (g : Sig) (tab : Str → Option Def) (cst : Str → Option D) (T : List (Addr × Str)) (cs : List (Addr × Addr)) : Prop where
  fns : ∀ p ∈ g.fns, Has K mg g tab p.1 p.2
  cst : ∀ x ∈ g.cst, ∃ d v u, cst x = some d ∧ mg x = some u ∧ RelV v u ∧ ∀ ρ Z H, Rep K ρ Z H d v
  blt : ∀ x ∈ blts, mg x = none
  lam : ∀ f ∈ g.lam, LamAt mg K T cs f
  keys : ∀ p ∈ g.keys, KeyFn K mg p.1 p.2
section
variable {P : Program} {w : World} {K : PySem.W.Frag} {mg : Str → Option Value} {base : Heap} {g : Sig} {tab : Str → Option Def} {cst : Str → Option D} {T : List (Addr × Str)} {cs : List (Addr × Addr)} {turns : Nat}
theorem start_rel {ρ : List Addr} {Z : Addr → Prop} {H : Hp} {ds : List D} {vs : List V} {N : List Str} {n : Nat} (q : Reps K ρ Z H ds vs) (hn : ds.length = n) : RelE K ρ Z H (ds.map some ++ List.replicate (N.length - n) none) (L2.start N vs) := by
  unfold L2.start
  have hl := q.len
  refine ⟨by simp [← hl, hn], fun i d h => ?_⟩
  by_cases hi : i < ds.length
  · rw [List.getElem?_append_left (by simpa using hi), List.getElem?_map] at h
    obtain ⟨d', h1, h2⟩ := Option.map_eq_some_iff.mp h
    cases h2
    obtain ⟨v, h3, h4⟩ := q.get h1
    exact ⟨v, by rw [List.getElem?_append_left (by simp [← hl]; exact hi), List.getElem?_map, h3]; rfl, h4⟩
  · rw [List.getElem?_append_right (by simp; omega), List.getElem?_replicate] at h
    split at h <;> cases h
theorem def_ok {f : Str} {st : Stmt} {a : Addr} {fd : FuncData} {ps : List Str} {d : Def} {k : Nat} (t : Top K mg g tab cst T cs) (TB : ∀ p ∈ cs, LamX.TabB base mg p.1 p.2) (hma : mg f = some (.ref a)) (hdn : d.name = f) (F : Fun K f f st a fd) (h : okDef g d st ps = true) {C : Ctx} (hC : C.cst = cst)
    (ih : ∀ p ∈ g.fns, ∃ (a : Addr) (fd : FuncData) (ps : List Str), mg p.1 = some (.ref a) ∧ FnOk P w K mg base CX0 k a fd ps (spC K T (C.call p.1)) ∧ PySem.W.keepIn K (.ref a) = true ∧ L2.Binds K fd ps [] ∧ ps.length = p.2) :
    FnOk P w K mg base CX0 (k + 1) a fd ps (spC K T (runDef C d)) := by
  unfold okDef at h
  simp only [Bool.and_eq_true, decide_eq_true_eq] at h
  obtain ⟨⟨h1, h2⟩, h3⟩ := h
  have hlam : f ∈ g.lam → ∃ c P, fd.code = .ref c ∧ (c, P) ∈ cs ∧ (P, lamQ f) ∈ T ∧ ∀ p ∈ T, p.1 = P → p.2 = lamQ f := fun z => t.lam f z a st fd F hma
  obtain ⟨oc, od, kV, doc, pm, an, cdv, ct, osl, rfl, lk, hcd⟩ := F.ex
  refine fn_of lk hcd (fnSc_ok h1) (fun vs H Q E hs => ?_) fun A outer s H vs Q E hr hs => ?_
  · obtain ⟨ρ, Z, st0, ds, v, st', rs, q, hd, k⟩ := hs
    unfold runDef at hd
    split at hd
    · rename_i hl
      rw [← q.len, hl, h2]
    · cases hd
  · obtain ⟨ρ, Z, st0, ds, v, st', rs, q, hd, kk⟩ := hs
    unfold runDef at hd
    split at hd
    · rename_i hl
      obtain ⟨⟨fl, env1, st1⟩, h4, h5⟩ := Option.map_eq_some_iff.mp hd
      have G : Good g C T k (topL d.names st (decide (d.name ∈ g.lam))) (cxOf CX0 P w K mg base d.names f (defScope st) a cdv A outer s H E).nox :=
        ⟨fun x _ => rfl, rfl, (fnSc_ok h1).nd, rfl, rfl, hr, rfl, fun p hp => ih p hp, fun x hx => by rw [← hC] at t; exact t.cst x hx, t.blt, (fun z => by
          have z := of_decide_eq_true z
          rw [hdn] at z
          obtain ⟨c, P, e1, e2, e3, e4⟩ := hlam z
          exact ⟨c, P, e1, TB _ e2, e3, e4⟩), t.keys⟩
      refine ⟨_, (soundB d.body _ _ _ G (fnSc_ok h1).kind h3).nox, ?_⟩
      refine ⟨ρ, Z, st0, _, _, rs, start_rel q hl, h4, ?_⟩
      cases fl with
      | next =>
        simp only [Prod.mk.injEq] at h5
        obtain ⟨rfl, rfl⟩ := h5
        exact fun ρ' Z' H' σ' f' r' e' => kk _ _ _ _ f' r' (by simp [Rep])
      | ret d =>
        simp only [Prod.mk.injEq] at h5
        obtain ⟨rfl, rfl⟩ := h5
        exact fun ρ' Z' H' v' f' r' q' => kk _ _ _ _ f' r' q'
    · cases hd
theorem fns_ok (t : Top K mg g tab cst T cs) (TB : ∀ p ∈ cs, LamX.TabB base mg p.1 p.2) : ∀ (k : Nat), ∀ p ∈ g.fns, ∃ (a : Addr) (fd : FuncData) (ps : List Str), mg p.1 = some (.ref a) ∧ FnOk P w K mg base CX0 k a fd ps (spC K T (callN cst turns tab k p.1)) ∧ PySem.W.keepIn K (.ref a) = true ∧ L2.Binds K fd ps [] ∧ ps.length = p.2
  | 0, p, hp => by
    obtain ⟨a, fd, ps, st, d, h1, h2, h3, h4, h5, h6, h7⟩ := (t.fns p hp).ex
    refine ⟨a, fd, ps, h1, ⟨fun vs H Q E hs => ?_, fun A outer s H args us vs Q E hr he hb hv hs => ?_⟩, h2.kp, h3, h4⟩
    · obtain ⟨ρ, Z, st0, ds, v, st', rs, q, hd, k⟩ := hs
      simp [callN] at hd
    · obtain ⟨ρ, Z, st0, ds, v, st', rs, q, hd, k⟩ := hs
      simp [callN] at hd
  | k + 1, p, hp => by
    obtain ⟨a, fd, ps, st, d, h1, h2, h3, h4, h5, h6, h7⟩ := (t.fns p hp).ex
    refine ⟨a, fd, ps, h1, ?_, h2.kp, h3, h4⟩
    have q := def_ok (P := P) (w := w) (base := base) (T := T) (k := k) t TB h1 h7 h2 h6 (C := { cst := cst, call := callN cst turns tab k, turns := turns }) rfl (fns_ok t TB k)
    refine q.imp fun vs H Q E hs => ?_
    obtain ⟨ρ, Z, st0, ds, v, st', rs, q, hd, k⟩ := hs
    simp only [callN, h5] at hd
    exact ⟨ρ, Z, st0, ds, v, st', rs, q, hd, k⟩
/-- the law's def, at its call -/
theorem law_ok (t : Top K mg g tab cst T cs) (TB : ∀ p ∈ cs, LamX.TabB base mg p.1 p.2) {f : Str} {st : Stmt} {a : Addr} {fd : FuncData} {ps : List Str} {d : Def} {k : Nat} (hma : mg f = some (.ref a)) (hdn : d.name = f) (F : Fun K f f st a fd) (h : okDef g d st ps = true) (hd : tab f = some d) : FnOk P w K mg base CX0 (k + 1) a fd ps (spC K T (callN cst turns tab (k + 1) f)) := by
  refine (def_ok (P := P) (w := w) (base := base) (T := T) t TB hma hdn F h (C := { cst := cst, call := callN cst turns tab k, turns := turns }) rfl (fns_ok t TB k)).imp fun vs H Q E hs => ?_
  obtain ⟨ρ, Z, st0, ds, v, st', rs, q, hdd, k⟩ := hs
  simp only [callN, hd] at hdd
  exact ⟨ρ, Z, st0, ds, v, st', rs, q, hdd, k⟩
theorem has_mk {h : Heap} {f : Str} {n : Nat} {ps : List Str} {st : Stmt} {d : Def} {a : Addr} {oc : Value} {od an : Option Addr} {sl : Array (Option Value)} {kV doc pm cd ct : Value} (X : K.In h) (G : h.Ns mainGlobals mg) (h1 : PySem.W.nsIn K mainGlobals f = some (some (.ref a)))
    (h2 : K.lookup a = some ⟨oc, od, .func (PySem.W.fnOf f f (defArgs st) (defBody st) (defScope st) .none kV doc pm an cd ct), sl⟩) (h3 : PySem.W.codeIn K cd f = true) (h4 : PySem.W.keepIn K (.ref a) = true)
    (hb : ∀ (kV doc pm : Value) (an : Option Addr) (cdv ct : Value) (us : List Value), us.length = ps.length → bindArgs (PySem.W.fnOf f f (defArgs st) (defBody st) (defScope st) .none kV doc pm an cdv ct) ⟨us, []⟩ = pure (ps.zip us)) (hn : ps.length = n) (ht : tab f = some d) (ho : okDef g d st ps = true) (hdn : d.name = f) : Has K mg g tab f n := by
  have F := fun_mk (st := st) h2 h3 h4
  exact ⟨a, _, ps, st, d, PySem.W.mg_of X G h1, F, F.binds hb, hn, ht, ho, hdn⟩
/-- the script at the law's head -/
theorem script_ok {c : List D → Store → R} {H : Hp} {a : Addr} {ns : List Int} {st' : Store} (hT : ∀ p ∈ T, H p.1 = some (.tbl #[])) (hS : SqL K H a (ns.map V.int)) (h : c [.frz ns] [] = some (.bl true, st')) {E : XK} : spC K T c [.ref a] H (fun v _ => v = .bl true) E := by
  refine ⟨[], fun _ => False, [], [.frz ns], .bl true, st', ⟨rfl, .nil, fun a h => absurd h (by simp), fun a h => h.elim, fun n a so h => by simp at h, fun p hp => LamX.TabS.nil (hT p hp)⟩, .cons ?_ .nil, h, fun ρ' Z' H' v f r q => by simpa [Rep] using q⟩
  simp only [Rep]
  refine ⟨a, rfl, ?_⟩
  rcases hS with (hS | ⟨o, hS⟩) | hS
  · exact .inr (.inr ⟨hS, fun z => z.elim⟩)
  · exact .inl ⟨o, hS⟩
  · exact .inr (.inl hS)
/-- a def with a lambda: its code and its table -/
theorem lam_mk {h : Heap} {f : Str} {fa c Pt : Addr} {cs : List (Addr × Addr)} {oc : Value} {od : Option Addr} {sl : Array (Option Value)} {fd0 : FuncData} (X : K.In h) (G : h.Ns mainGlobals mg) (h1 : PySem.W.nsIn K mainGlobals f = some (some (.ref fa))) (h2 : K.lookup fa = some ⟨oc, od, .func fd0, sl⟩) (hc : fd0.code = .ref c)
    (h3 : (c, Pt) ∈ cs) (h4 : (Pt, lamQ f) ∈ T) (h5 : ∀ p ∈ T, p.1 = Pt → p.2 = lamQ f) : LamAt mg K T cs f := by
  intro a st fd F hm
  obtain ⟨oc', od', kV, doc, pm, an, cdv, ct, osl, rfl, lk, hcd⟩ := F.ex
  have e := hm.symm.trans (PySem.W.mg_of X G h1)
  cases e
  rw [h2] at lk
  cases lk
  exact ⟨c, Pt, hc, h3, h4, h5⟩
theorem key_mk {h : Heap} {f : Str} {n : Nat} {st : Stmt} {a : Addr} {oc : Value} {od an : Option Addr} {sl : Array (Option Value)} {kV doc pm cd ct : Value} (X : K.In h) (G : h.Ns mainGlobals mg) (h1 : PySem.W.nsIn K mainGlobals f = some (some (.ref a)))
    (h2 : K.lookup a = some ⟨oc, od, .func (PySem.W.fnOf f f (defArgs st) (defBody st) (defScope st) .none kV doc pm an cd ct), sl⟩) (h3 : PySem.W.codeIn K cd f = true) (hk : QK.keyDef n st = true) : KeyFn K mg f n :=
  ⟨a, st, oc, od, an, sl, kV, doc, pm, cd, ct, PySem.W.mg_of X G h1, h2, h3, hk⟩
/-- constants of the module -/
def CsAt (K : PySem.W.Frag) (mg : Str → Option Value) (cst : Str → Option D) (x : Str) : Prop := ∃ d v u, cst x = some d ∧ mg x = some u ∧ RelV v u ∧ ∀ ρ Z H, Rep K ρ Z H d v
theorem cst_int {h : Heap} {x : Str} {i : Int} {t : Tok} (X : K.In h) (G : h.Ns mainGlobals mg) (h1 : PySem.W.nsIn K mainGlobals x = some (some (.int i t))) (hc : cst x = some (.int i)) : CsAt K mg cst x :=
  ⟨.int i, .int i, _, hc, PySem.W.mg_of X G h1, ⟨t, rfl⟩, fun _ _ _ => by simp [Rep]⟩
theorem cst_str {h : Heap} {x z : Str} {t : Tok} (X : K.In h) (G : h.Ns mainGlobals mg) (h1 : PySem.W.nsIn K mainGlobals x = some (some (.str z t))) (hz : PySem.PyData.strOk z = true) (hc : cst x = some (.str z)) : CsAt K mg cst x :=
  ⟨.str z, .str z, _, hc, PySem.W.mg_of X G h1, ⟨t, rfl⟩, fun _ _ _ => by simp only [Rep]; exact ⟨trivial, hz⟩⟩
/-- a tuple of texts -/
def strV : List Value → List Str → Bool
  | [], [] => true
  | .str x _ :: us, z :: zs => decide (x = z) && PySem.PyData.strOk z && strV us zs
  | _, _ => false
theorem strV_ok : ∀ {us : List Value} {zs : List Str}, strV us zs = true → Vals (zs.map V.str) us ∧ ∀ ρ Z H, Reps K ρ Z H (zs.map D.str) (zs.map V.str)
  | [], [], _ => ⟨.nil, fun _ _ _ => .nil⟩
  | [], _ :: _, h => by simp [strV] at h
  | u :: us, [], h => by cases u <;> simp [strV] at h
  | u :: us, z :: zs, h => by
    cases u <;> first | (simp [strV] at h; done) | skip
    simp only [strV, Bool.and_eq_true, decide_eq_true_eq] at h
    obtain ⟨⟨rfl, hz⟩, h⟩ := h
    obtain ⟨q1, q2⟩ := strV_ok h
    exact ⟨.cons ⟨_, rfl⟩ q1, fun ρ Z H => .cons (by simp only [Rep]; exact ⟨trivial, hz⟩) (q2 ρ Z H)⟩
theorem cst_tup {h : Heap} {x : Str} {a : Addr} {o : Obj} {us : Array Value} {n : Nat} {zs : List Str} (X : K.In h) (G : h.Ns mainGlobals mg) (h1 : PySem.W.nsIn K mainGlobals x = some (some (.ref a))) (h2 : K.lookup a = some o) (h3 : o.cls = .type "tuple") (h4 : o.data = .seq us n) (h5 : strV us.toList zs = true) (h6 : us.size ≤ 100) (hc : cst x = some (.tup (zs.map D.str))) : CsAt K mg cst x := by
  obtain ⟨q1, q2⟩ := strV_ok (K := K) h5
  refine ⟨_, .ref a, .ref a, hc, PySem.W.mg_of X G h1, rfl, fun ρ Z H => ?_⟩
  simp only [Rep]
  exact ⟨a, zs.map V.str, rfl, .inr ⟨o, us, n, h2, h3, h4, Nat.le_trans h6 (by decide), q1⟩, q2 ρ Z H⟩
end
end Q

/-! QSim: the evaluator step by step: equations whose continuations are no lambdas, so that simp goes one step after another. -/
namespace Q
open PySem PySem.Spec L2

def th {α β : Type} (f : α → Store → Option β) (o : Option (α × Store)) : Option β := o.bind fun r => f r.1 r.2
theorem th_some {α β : Type} (f : α → Store → Option β) (x : α) (st : Store) : th f (some (x, st)) = f x st := rfl
theorem map_th {α β : Type} (g : α × Store → β) (o : Option (α × Store)) : o.map g = th (fun x st => some (g (x, st))) o := by cases o <;> rfl
def fTwo (C : Ctx) (k : D → D → Store → R) (b : X) (env : Env) (x : D) (st : Store) : R := th (k x) (ev C b env st)
def kCmp (op : CmpOp) (x y : D) (st : Store) : R := (cmpD st op x y).map fun k => (.bl k, st)
def kCat (m : Bool) (x y : D) (st : Store) : R := (lstOf st x).bind fun xs => (lstOf st y).bind fun ys => mkL m (xs ++ ys) st
def kNeg (x : D) (st : Store) : R := match x with
  | .int i => some (.int (-i), st)
  | _ => none
def kNot (x : D) (st : Store) : R := match x with
  | .bl b => some (.bl (!b), st)
  | _ => none
def kIsN (x : D) (st : Store) : R := some (.bl (isNon x), st)
def kNotN (x : D) (st : Store) : R := some (.bl (!isNon x), st)
def kIsB (b : Bool) (x : D) (st : Store) : R := match x with
  | .bl c => some (.bl (decide (c = b)), st)
  | _ => none
def kMem (x y : D) (st : Store) : R := (memD st x y).map fun k => (.bl k, st)
def kNotIn (x y : D) (st : Store) : R := (memD st x y).map fun k => (.bl (!k), st)
def kMemK (x y : D) (st : Store) : R := (dctOf st y).bind fun kvs => (keyOf x).map fun k => (.bl (dget kvs k).isSome, st)
def kNotInK (x y : D) (st : Store) : R := (dctOf st y).bind fun kvs => (keyOf x).map fun k => (.bl (!(dget kvs k).isSome), st)
def kSub (x y : D) (st : Store) : R := (subD st x y).map fun d => (d, st)
def kSubK (x y : D) (st : Store) : R := (dctOf st x).bind fun kvs => (keyOf y).bind fun k => (dget kvs k).map fun d => (d, st)
def chB (o : Option Bool) (x y : R) : R := o.bind fun k => if k = true then x else y
def gChain (C : Ctx) (op op' : CmpOp) (c : X) (env : Env) (x y : D) (st : Store) : R := chB (cmpD st op x y) (th (kCmp op' y) (ev C c env st)) (some (.bl false, st))
def fChain (C : Ctx) (op op' : CmpOp) (b c : X) (env : Env) (x : D) (st : Store) : R := th (gChain C op op' c env x) (ev C b env st)
def fAnd (C : Ctx) (xs : List X) (env : Env) (x : D) (st : Store) : R := match x with
  | .bl t => if t = true then evAnd C xs env st else some (.bl false, st)
  | _ => none
def fOr (C : Ctx) (xs : List X) (env : Env) (x : D) (st : Store) : R := match x with
  | .bl t => if t = true then some (.bl true, st) else evOr C xs env st
  | _ => none
def fIte (C : Ctx) (a b : X) (env : Env) (x : D) (st : Store) : R := match x with
  | .bl t => if t = true then ev C a env st else ev C b env st
  | _ => none
def fSl2 (x : D) (lo hi : Option Int) (st : Store) : R := sliceD x lo hi st
def fSl1 (C : Ctx) (x : D) (hi : X) (env : Env) (lo : Option Int) (st : Store) : R := th (sliceD x lo) (asO (noneX hi) (ev C hi env st))
def fSl (C : Ctx) (lo hi : X) (env : Env) (x : D) (st : Store) : R := th (fSl1 C x hi env) (asO (noneX lo) (ev C lo env st))
def kRev (x : D) (st : Store) : R := revD x st
def kRange (m : Bool) (x : D) (st : Store) : R := match x with
  | .int j => if 0 ≤ j ∧ j ≤ 1000000 then mkL m (rangeD 0 j) st else none
  | _ => none
def kIsa (tys : List String) (x : D) (st : Store) : R := (isaD st tys x).map fun b => (.bl b, st)
def fMeth (C : Ctx) (f : Me) (es : List X) (env : Env) (o : D) (st : Store) : R := if meOk f o st = true then th (methD f o) (evL C es env st) else none
def fL2 (x : D) (xs : List D) (st : Store) : Option (List D × Store) := some (x :: xs, st)
def fL (C : Ctx) (es : List X) (env : Env) (x : D) (st : Store) : Option (List D × Store) := th (fL2 x) (evL C es env st)
def fStar2 (xs ys : List D) (st : Store) : Option (List D × Store) := some (xs ++ ys, st)
def fStar (C : Ctx) (es : List X) (env : Env) (x : D) (st : Store) : Option (List D × Store) := (seqOf st x).bind fun xs => th (fStar2 xs) (evL C es env st)
/-- a comprehension's end -/
def endC (o : Option (List D × Store)) : R := o.bind fun q => if q.1.length ≤ sizeLine then some (.lst q.1, q.2) else none
def one1 (C : Ctx) (own : List (Str × Nat)) (t : Tt) (c e : X) (env : Env) : D → Store → Option (List D × Store) :=
  compOne (wipeE env (own.map (·.2))) (bindT t) (fun env st => asB (ev C c env st)) fun env st => (ev C e env st).map fun q => ([q.1], q.2)
def kComp (C : Ctx) (own : List (Str × Nat)) (t : Tt) (c e : X) (env : Env) (gd : Option (Nat × List D)) (r : List D × Store) : R := endC (compLoop gd (one1 C own t c e env) r.1 r.2)
def thI {β : Type} (f : Option (Nat × List D) → List D × Store → Option β) (o : RI) : Option β := o.bind fun r => f r.1 r.2
theorem thI_some {β : Type} (f : Option (Nat × List D) → List D × Store → Option β) (g : Option (Nat × List D)) (r : List D × Store) : thI f (some (g, r)) = f g r := rfl
def inner2 (C : Ctx) (own1 : List Nat) (t1 : Tt) (it1 : It) (c1 e : X) (env1 : Env) (st1 : Store) : Option (List D × Store) := (evIt C it1 env1 st1).bind fun r1 =>
        compLoop r1.1 (compOne (wipeE env1 own1) (bindT t1) (fun env st => asB (ev C c1 env st)) fun env st => (ev C e env st).map fun q => ([q.1], q.2)) r1.2.1 r1.2.2
def one2 (C : Ctx) (own : List (Str × Nat)) (t : Tt) (c : X) (own1 : List Nat) (t1 : Tt) (it1 : It) (c1 e : X) (env : Env) : D → Store → Option (List D × Store) :=
  compOne (wipeE env (own.map (·.2))) (bindT t) (fun env st => asB (ev C c env st)) (inner2 C own1 t1 it1 c1 e)
def kComp2 (C : Ctx) (own : List (Str × Nat)) (t : Tt) (c : X) (own1 : List Nat) (t1 : Tt) (it1 : It) (c1 e : X) (env : Env) (gd : Option (Nat × List D)) (r : List D × Store) : R := endC (compLoop gd (one2 C own t c own1 t1 it1 c1 e env) r.1 r.2)
def kR1 (x : D) (st : Store) : RI := match x with
  | .int j => if lim62 j then some (none, rangeD 0 j, st) else none
  | _ => none
def kR2 (x y : D) (st : Store) : RI := match x, y with
  | .int i, .int j => some (none, rangeD i j, st)
  | _, _ => none
def fR2 (C : Ctx) (b : X) (env : Env) (x : D) (st : Store) : RI := th (kR2 x) (ev C b env st)
def kChars (x : D) (st : Store) : RI := match x with
  | .str x => some (none, signsD x, st)
  | _ => none
/-! statements -/
def kSet (C : Ctx) (t : Tt) (env : Env) (x : D) (st : Store) : RS := (stT C t x env st).map fun q => (.next, q.1, q.2)
def kPut2 (env : Env) (x o i : D) (st : Store) : RS := (putL o i x st).map fun st' => (.next, env, st')
def kPut1 (C : Ctx) (i : X) (env : Env) (x o : D) (st : Store) : RS := th (kPut2 env x o) (ev C i env st)
def kPut (C : Ctx) (o i : X) (env : Env) (x : D) (st : Store) : RS := th (kPut1 C i env x) (ev C o env st)
def kPutK2 (env : Env) (x o i : D) (st : Store) : RS := (putK o i x st).map fun st' => (.next, env, st')
def kPutK1 (C : Ctx) (i : X) (env : Env) (x o : D) (st : Store) : RS := th (kPutK2 env x o) (ev C i env st)
def kPutK (C : Ctx) (o i : X) (env : Env) (x : D) (st : Store) : RS := th (kPutK1 C i env x) (ev C o env st)
def kPar (is : List Nat) (env : Env) (ds : List D) (st : Store) : RS := (setAll is ds env).map fun env' => (.next, env', st)
def kAug (i : Nat) (op : Operator) (env : Env) (x : Int) (y : D) (st : Store) : RS := match op, y with
  | .Add, .int y => some (.next, env.set i (some (.int (x + y))), st)
  | .Sub, .int y => some (.next, env.set i (some (.int (x - y))), st)
  | _, _ => none
def kExpr (env : Env) (x : D) (st : Store) : RS := some (.next, env, st)
def kRet (env : Env) (x : D) (st : Store) : RS := some (.ret x, env, st)
def fIteS (C : Ctx) (a b : List S) (env : Env) (x : D) (st : Store) : RS := match x with
  | .bl t => if t = true then exL C a env st else exL C b env st
  | _ => none
def kFor (C : Ctx) (t : Tt) (b : List S) (env : Env) (gd : Option (Nat × List D)) (r : List D × Store) : RS := forLoop gd (bindT t) (exL C b) r.1 env r.2
def thS (C : Ctx) (ss : List S) (o : RS) : RS := o.bind fun r => match r with
      | (.ret d, env', st') => some (.ret d, env', st')
      | (.next, env', st') => exL C ss env' st'
def outD (o : RS) : R := o.map fun r => match r with
      | (.ret v, _, st') => (v, st')
      | (.next, _, st') => (.non, st')
abbrev cx (cst : Str → Option D) (turns : Nat) (tab : Str → Option Def) (k : Nat) : Ctx := { cst := cst, call := callN cst turns tab k, turns := turns }
def getV (o : Option (Option D)) (st : Store) : R := match o with
  | some (some d) => some (d, st)
  | _ => none
section
variable {C : Ctx} {env : Env} {st : Store}
theorem asB_th (f : Bool → Store → Option β) (o : R) : ((asB o).bind fun r => f r.1 r.2) = th (fun x st => match x with
    | .bl b => f b st
    | _ => none) o := by
  rcases o with _ | ⟨x, st⟩
  · rfl
  · cases x <;> rfl
theorem call_eq {cst : Str → Option D} {turns : Nat} {tab : Str → Option Def} {k : Nat} {f : Str} {d : Def} {ds : List D} {st : Store} (ht : tab f = some d) (hl : ds.length = d.arity) :
    callN cst turns tab (k + 1) f ds st = outD (exL (cx cst turns tab k) d.body (ds.map some ++ List.replicate (d.names.length - d.arity) none) st) := by
  simp only [callN, ht, runDef, if_pos hl]
  rfl
theorem evl_cons {x : X} {xs : List X} (h : starX x = false) : evL C (x :: xs) env st = th (fL C xs env) (ev C x env st) := by
  rw [evL_cons h]
  rcases ev C x env st with _ | ⟨d, st1⟩
  · rfl
  · show ((evL C xs env st1).map _) = th (fL2 d) (evL C xs env st1)
    cases evL C xs env st1 <;> rfl
theorem stTs_name {i : Nat} {ts : List Tt} {d : D} {ds : List D} (h : i < env.length) : stTs C (.name i :: ts) (d :: ds) env st = stTs C ts ds (env.set i (some d)) st := by
  simp only [stTs, stT, if_pos h]; rfl
theorem set_name {i : Nat} {e : X} : exS C (.set (.name i) e) env st = th (kSet C (.name i) env) (ev C e env st) := by
  simp only [exS]; rfl
theorem kSet_name {i : Nat} {x : D} (h : i < env.length) : kSet C (.name i) env x st = some (.next, env.set i (some x), st) := by
  simp only [kSet, stT, if_pos h]; rfl
theorem kSet_tup {ts : List Tt} {ds : List D} (h : ds.length = ts.length) : kSet C (.tup ts) env (.tup ds) st = (stTs C ts ds env st).map fun q => (.next, q.1, q.2) := by
  simp only [kSet, stT, if_pos h]
/-- expressions -/
theorem Ev1 : (∀ (i : Int) (env : Env) (st : Store), ev C (.int i) env st = some (.int i, st)) ∧ (∀ (s : Str) (env : Env) (st : Store), ev C (.str s) env st = some (.str s, st)) ∧ (∀ (b : Bool) (env : Env) (st : Store), ev C (.bl b) env st = some (.bl b, st)) ∧
    (∀ (env : Env) (st : Store), ev C .non env st = some (.non, st)) ∧ (∀ (env : Env) (st : Store), ev C .none_ env st = some (.bl true, st)) ∧ (∀ (i : Nat) (env : Env) (st : Store), ev C (.var i) env st = getV env[i]? st) ∧
    (∀ (d : D) (st : Store), getV (some (some d)) st = some (d, st)) ∧
    (∀ (op : Operator) (a b : X) (env : Env) (st : Store), ev C (.bin op a b) env st = th (fTwo C (binD op) b env) (ev C a env st)) ∧
    (∀ (m : Bool) (a b : X) (env : Env) (st : Store), ev C (.cat m a b) env st = th (fTwo C (kCat m) b env) (ev C a env st)) ∧
    (∀ (op : CmpOp) (a b : X) (env : Env) (st : Store), ev C (.cmp op a b) env st = th (fTwo C (kCmp op) b env) (ev C a env st)) ∧
    (∀ (a b : X) (env : Env) (st : Store), ev C (.mem a b) env st = th (fTwo C kMem b env) (ev C a env st)) ∧ (∀ (a b : X) (env : Env) (st : Store), ev C (.notIn a b) env st = th (fTwo C kNotIn b env) (ev C a env st)) ∧
    (∀ (a b : X) (env : Env) (st : Store), ev C (.memK a b) env st = th (fTwo C kMemK b env) (ev C a env st)) ∧ (∀ (a b : X) (env : Env) (st : Store), ev C (.notInK a b) env st = th (fTwo C kNotInK b env) (ev C a env st)) ∧
    (∀ (a b : X) (env : Env) (st : Store), ev C (.sub a b) env st = th (fTwo C kSub b env) (ev C a env st)) ∧ (∀ (a b : X) (env : Env) (st : Store), ev C (.subK a b) env st = th (fTwo C kSubK b env) (ev C a env st)) ∧
    (∀ (k : D → D → Store → R) (b : X) (env : Env) (x : D) (st : Store), fTwo C k b env x st = th (k x) (ev C b env st)) := by
  refine ⟨?_, ?_, ?_, ?_, ?_, ?_, ?_, ?_, ?_, ?_, ?_, ?_, ?_, ?_, ?_, ?_, ?_⟩ <;> intros <;> first | rfl | (simp only [ev]; rfl)
theorem Ev2 : (∀ (a : X) (env : Env) (st : Store), ev C (.neg a) env st = th kNeg (ev C a env st)) ∧ (∀ (a : X) (env : Env) (st : Store), ev C (.isN a) env st = th kIsN (ev C a env st)) ∧ (∀ (a : X) (env : Env) (st : Store), ev C (.notN a) env st = th kNotN (ev C a env st)) ∧
    (∀ (a : X) (env : Env) (st : Store), ev C (.rev a) env st = th kRev (ev C a env st)) ∧ (∀ (m : Bool) (a : X) (env : Env) (st : Store), ev C (.lrange m a) env st = th (kRange m) (ev C a env st)) ∧ (∀ (tys : List String) (a : X) (env : Env) (st : Store), ev C (.isa tys a) env st = th (kIsa tys) (ev C a env st)) ∧
    (∀ (es : List X) (env : Env) (st : Store), ev C (.tup es) env st = th mkT (evL C es env st)) ∧ (∀ (m : Bool) (es : List X) (env : Env) (st : Store), ev C (.lst m es) env st = th (mkL m) (evL C es env st)) ∧
    (∀ (f : Str) (es : List X) (env : Env) (st : Store), ev C (.call f es) env st = th (C.call f) (evL C es env st)) ∧ (∀ (f : Bi) (m : Bool) (es : List X) (env : Env) (st : Store), ev C (.bi f m es) env st = th (biD f m) (evL C es env st)) ∧
    (∀ (f : Me) (o : X) (es : List X) (env : Env) (st : Store), ev C (.meth f o es) env st = th (fMeth C f es env) (ev C o env st)) ∧
    (∀ (a lo hi : X) (env : Env) (st : Store), ev C (.slice a lo hi) env st = th (fSl C lo hi env) (ev C a env st)) ∧
    (∀ (own : List (Str × Nat)) (t : Tt) (it : It) (c e : X) (env : Env) (st : Store), ev C (.comp own t it c e) env st = thI (kComp C own t c e env) (evIt C it env st)) ∧
    (∀ (own : List (Str × Nat)) (t : Tt) (it : It) (c : X) (own1 : List Nat) (t1 : Tt) (it1 : It) (c1 e : X) (env : Env) (st : Store), ev C (.comp2 own t it c own1 t1 it1 c1 e) env st = thI (kComp2 C own t c own1 t1 it1 c1 e env) (evIt C it env st)) ∧
    (∀ (env : Env) (st : Store), evL C [] env st = some ([], st)) ∧ (∀ (x : D) (xs : List X) (env : Env) (st : Store), fL C xs env x st = th (fL2 x) (evL C xs env st)) ∧ (∀ (x : D) (xs : List D) (st : Store), fL2 x xs st = some (x :: xs, st)) ∧
    (∀ (b : Bool) (st : Store), kNot (.bl b) st = some (.bl (!b), st)) ∧ (∀ (i : Int) (st : Store), kNeg (.int i) st = some (.int (-i), st)) := by
  refine ⟨?_, ?_, ?_, ?_, ?_, ?_, ?_, ?_, ?_, ?_, ?_, ?_, ?_, ?_, ?_, ?_, ?_, ?_, ?_⟩ <;> intros <;> first | rfl | (simp only [ev]; rfl) | (simp only [ev, map_th]; rfl) | (simp only [evL])
theorem ev_not {a : X} : ev C (.not a) env st = th kNot (ev C a env st) := by
  simp only [ev]
  rcases ev C a env st with _ | ⟨x, st⟩
  · rfl
  · cases x <;> rfl
theorem ev_isB {a : X} {b : Bool} : ev C (.isB a b) env st = th (kIsB b) (ev C a env st) := by
  simp only [ev]
  rcases ev C a env st with _ | ⟨x, st⟩
  · rfl
  · cases x <;> rfl
theorem ev_ite {c a b : X} : ev C (.ite c a b) env st = th (fIte C a b env) (ev C c env st) := by
  simp only [ev]
  rcases ev C c env st with _ | ⟨x, st⟩
  · rfl
  · cases x <;> rfl
theorem ev_and {xs : List X} : ev C (.and xs) env st = evAnd C xs env st := by simp only [ev]
theorem ev_or {xs : List X} : ev C (.or xs) env st = evOr C xs env st := by simp only [ev]
theorem and_one {x : X} : evAnd C [x] env st = ev C x env st := by simp only [evAnd]
theorem or_one {x : X} : evOr C [x] env st = ev C x env st := by simp only [evOr]
theorem and_cons {x y : X} {xs : List X} : evAnd C (x :: y :: xs) env st = th (fAnd C (y :: xs) env) (ev C x env st) := by
  simp only [evAnd]
  rcases ev C x env st with _ | ⟨x, st⟩
  · rfl
  · cases x <;> rfl
theorem or_cons {x y : X} {xs : List X} : evOr C (x :: y :: xs) env st = th (fOr C (y :: xs) env) (ev C x env st) := by
  simp only [evOr]
  rcases ev C x env st with _ | ⟨x, st⟩
  · rfl
  · cases x <;> rfl
theorem fAnd_bl {xs : List X} {t : Bool} : fAnd C xs env (.bl t) st = if t = true then evAnd C xs env st else some (.bl false, st) := rfl
theorem fOr_bl {xs : List X} {t : Bool} : fOr C xs env (.bl t) st = if t = true then some (.bl true, st) else evOr C xs env st := rfl
theorem fIte_bl {a b : X} {t : Bool} : fIte C a b env (.bl t) st = if t = true then ev C a env st else ev C b env st := rfl
theorem ev_chain {op op' : CmpOp} {a b c : X} : ev C (.chain op op' a b c) env st = th (fChain C op op' b c env) (ev C a env st) := by
  simp only [ev]
  rcases ev C a env st with _ | ⟨x, st⟩
  · rfl
  · show ((ev C b env st).bind _) = th (gChain C op op' c env x) (ev C b env st)
    rcases ev C b env st with _ | ⟨y, st2⟩
    · rfl
    · show ((cmpD st2 op x y).bind _) = chB (cmpD st2 op x y) _ _
      cases cmpD st2 op x y with
      | none => rfl
      | some k =>
        cases k
        · rfl
        · show ((ev C c env st2).bind _) = th _ (ev C c env st2)
          cases ev C c env st2 <;> rfl
theorem Ev3 : (∀ (a : X) (env : Env) (st : Store), evIt C (.seq a) env st = th srcOf (ev C a env st)) ∧ (∀ (a : X) (env : Env) (st : Store), evIt C (.rng1 a) env st = th kR1 (ev C a env st)) ∧
    (∀ (a b : X) (env : Env) (st : Store), evIt C (.rng2 a b) env st = th (fR2 C b env) (ev C a env st)) ∧ (∀ (a : X) (env : Env) (st : Store), evIt C (.chars a) env st = th kChars (ev C a env st)) ∧
    (∀ (b : X) (env : Env) (x : D) (st : Store), fR2 C b env x st = th (kR2 x) (ev C b env st)) ∧ (∀ (j : Int) (st : Store), kR1 (.int j) st = if lim62 j = true then some (none, rangeD 0 j, st) else none) ∧
    (∀ (i j : Int) (st : Store), kR2 (.int i) (.int j) st = some (none, rangeD i j, st)) ∧ (∀ (z : Str) (st : Store), kChars (.str z) st = some (none, signsD z, st)) ∧
    (∀ (ds : List D) (st : Store), srcOf (.tup ds) st = some (none, ds, st)) ∧ (∀ (ds : List D) (st : Store), srcOf (.lst ds) st = some (none, ds, st)) := by
  refine ⟨?_, ?_, ?_, ?_, ?_, ?_, ?_, ?_, ?_, ?_⟩ <;> intros <;> first | rfl | (simp only [evIt]; rfl)
/-- statements -/
theorem Ex1 : (∀ (env : Env) (st : Store), exL C [] env st = some (.next, env, st)) ∧ (∀ (s : S) (ss : List S) (env : Env) (st : Store), exL C (s :: ss) env st = thS C ss (exS C s env st)) ∧
    (∀ (ss : List S) (env : Env) (st : Store), thS C ss (some (.next, env, st)) = exL C ss env st) ∧ (∀ (ss : List S) (d : D) (env : Env) (st : Store), thS C ss (some (.ret d, env, st)) = some (.ret d, env, st)) ∧
    (∀ (env : Env) (st : Store), exS C .pass env st = some (.next, env, st)) ∧ (∀ (i : Nat) (e : X) (env : Env) (st : Store), exS C (.set (.name i) e) env st = th (kSet C (.name i) env) (ev C e env st)) ∧
    (∀ (ts : List Tt) (e : X) (env : Env) (st : Store), exS C (.set (.tup ts) e) env st = th (kSet C (.tup ts) env) (ev C e env st)) ∧
    (∀ (is : List Nat) (es : List X) (env : Env) (st : Store), exS C (.par is es) env st = th (kPar is env) (evL C es env st)) ∧
    (∀ (t : Tt) (it : It) (b : List S) (env : Env) (st : Store), exS C (.for_ t it b) env st = thI (kFor C t b env) (evIt C it env st)) ∧ (∀ (env : Env) (st : Store), exS C .retN env st = some (.ret .non, env, st)) ∧
    (∀ (C' : Ctx) (env : Env) (st : Store), stTs C' [] [] env st = some (env, st)) ∧ (∀ (d : D) (env : Env) (st : Store), outD (some (.ret d, env, st)) = some (d, st)) ∧ (∀ (env : Env) (st : Store), outD (some (.next, env, st)) = some (.non, st)) := by
  refine ⟨?_, ?_, ?_, ?_, ?_, ?_, ?_, ?_, ?_, ?_, ?_, ?_, ?_⟩ <;> intros <;> first | rfl | (simp only [exS]; rfl) | (simp only [exL]; rfl) | (simp only [stTs])
theorem ex_expr {e : X} : exS C (.expr e) env st = th (kExpr env) (ev C e env st) := by simp only [exS, map_th]; rfl
theorem ex_ret {e : X} : exS C (.ret e) env st = th (kRet env) (ev C e env st) := by simp only [exS, map_th]; rfl
theorem ex_ite {c : X} {a b : List S} : exS C (.ite c a b) env st = th (fIteS C a b env) (ev C c env st) := by
  simp only [exS]
  rcases ev C c env st with _ | ⟨x, st⟩
  · rfl
  · cases x <;> rfl
theorem fIteS_bl {a b : List S} {t : Bool} : fIteS C a b env (.bl t) st = if t = true then exL C a env st else exL C b env st := rfl
theorem ex_put {o i e : X} : exS C (.set (.sub o i) e) env st = th (kPut C o i env) (ev C e env st) := by
  simp only [exS]
  rcases ev C e env st with _ | ⟨x, st⟩
  · rfl
  · show ((stT C (.sub o i) x env st).map _) = th (kPut1 C i env x) (ev C o env st)
    simp only [stT]
    rcases ev C o env st with _ | ⟨y, st⟩
    · rfl
    · show (Option.map _ ((ev C i env st).bind _)) = th (kPut2 env x y) (ev C i env st)
      rcases ev C i env st with _ | ⟨z, st⟩
      · rfl
      · show (Option.map _ (Option.map _ (putL y z x st))) = kPut2 env x y z st
        unfold kPut2
        cases putL y z x st <;> rfl
theorem ex_putK {o i e : X} : exS C (.set (.subK o i) e) env st = th (kPutK C o i env) (ev C e env st) := by
  simp only [exS]
  rcases ev C e env st with _ | ⟨x, st⟩
  · rfl
  · show ((stT C (.subK o i) x env st).map _) = th (kPutK1 C i env x) (ev C o env st)
    simp only [stT]
    rcases ev C o env st with _ | ⟨y, st⟩
    · rfl
    · show (Option.map _ ((ev C i env st).bind _)) = th (kPutK2 env x y) (ev C i env st)
      rcases ev C i env st with _ | ⟨z, st⟩
      · rfl
      · show (Option.map _ (Option.map _ (putK y z x st))) = kPutK2 env x y z st
        unfold kPutK2
        cases putK y z x st <;> rfl
theorem ex_while {c : X} {b : List S} : exS C (.while_ c b) env st = whileLoop (fun env st => asB (ev C c env st)) (exL C b) C.turns env st := by simp only [exS]
def fAug (C : Ctx) (i : Nat) (op : Operator) (e : X) (env : Env) (st : Store) (o : Option (Option D)) : RS := match o with
  | some (some (.int x)) => th (kAug i op env x) (ev C e env st)
  | _ => none
theorem ex_aug {i : Nat} {op : Operator} {e : X} : exS C (.aug i op e) env st = fAug C i op e env st env[i]? := by
  simp only [exS]
  rcases env[i]? with _ | _ | x
  · rfl
  · rfl
  · cases x <;> rfl
/-- all at once -/
theorem Go : (∀ {α β : Type} (f : α → Store → Option β) (x : α) (st : Store), th f (some (x, st)) = f x st) ∧ (∀ {β : Type} (f : Option (Nat × List D) → List D × Store → Option β) (g : Option (Nat × List D)) (r : List D × Store), thI f (some (g, r)) = f g r) ∧
    (∀ (C : Ctx) (env : Env) (st : Store) (a : X), ev C (.not a) env st = th kNot (ev C a env st)) ∧ (∀ (C : Ctx) (env : Env) (st : Store) (a : X) (b : Bool), ev C (.isB a b) env st = th (kIsB b) (ev C a env st)) ∧ (∀ (C : Ctx) (env : Env) (st : Store) (c a b : X), ev C (.ite c a b) env st = th (fIte C a b env) (ev C c env st)) ∧
    (∀ (C : Ctx) (env : Env) (st : Store) (xs : List X), ev C (.and xs) env st = evAnd C xs env st) ∧ (∀ (C : Ctx) (env : Env) (st : Store) (xs : List X), ev C (.or xs) env st = evOr C xs env st) ∧
    (∀ (C : Ctx) (env : Env) (st : Store) (x : X), evAnd C [x] env st = ev C x env st) ∧ (∀ (C : Ctx) (env : Env) (st : Store) (x : X), evOr C [x] env st = ev C x env st) ∧
    (∀ (C : Ctx) (env : Env) (st : Store) (x y : X) (xs : List X), evAnd C (x :: y :: xs) env st = th (fAnd C (y :: xs) env) (ev C x env st)) ∧ (∀ (C : Ctx) (env : Env) (st : Store) (x y : X) (xs : List X), evOr C (x :: y :: xs) env st = th (fOr C (y :: xs) env) (ev C x env st)) ∧
    (∀ (C : Ctx) (env : Env) (st : Store) (xs : List X) (t : Bool), fAnd C xs env (.bl t) st = if t = true then evAnd C xs env st else some (.bl false, st)) ∧ (∀ (C : Ctx) (env : Env) (st : Store) (xs : List X) (t : Bool), fOr C xs env (.bl t) st = if t = true then some (.bl true, st) else evOr C xs env st) ∧
    (∀ (C : Ctx) (env : Env) (st : Store) (a b : X) (t : Bool), fIte C a b env (.bl t) st = if t = true then ev C a env st else ev C b env st) ∧
    (∀ (C : Ctx) (env : Env) (st : Store) (op op' : CmpOp) (a b c : X), ev C (.chain op op' a b c) env st = th (fChain C op op' b c env) (ev C a env st)) ∧
    (∀ (C : Ctx) (env : Env) (st : Store) (e : X), exS C (.expr e) env st = th (kExpr env) (ev C e env st)) ∧ (∀ (C : Ctx) (env : Env) (st : Store) (e : X), exS C (.ret e) env st = th (kRet env) (ev C e env st)) ∧
    (∀ (C : Ctx) (env : Env) (st : Store) (c : X) (a b : List S), exS C (.ite c a b) env st = th (fIteS C a b env) (ev C c env st)) ∧ (∀ (C : Ctx) (env : Env) (st : Store) (a b : List S) (t : Bool), fIteS C a b env (.bl t) st = if t = true then exL C a env st else exL C b env st) ∧
    (∀ (C : Ctx) (env : Env) (st : Store) (o i e : X), exS C (.set (.sub o i) e) env st = th (kPut C o i env) (ev C e env st)) ∧ (∀ (C : Ctx) (env : Env) (st : Store) (o i e : X), exS C (.set (.subK o i) e) env st = th (kPutK C o i env) (ev C e env st)) ∧
    (∀ (C : Ctx) (env : Env) (st : Store) (i : Nat) (op : Operator) (e : X), exS C (.aug i op e) env st = fAug C i op e env st env[i]?) :=
  ⟨fun _ _ _ => rfl, fun _ _ _ => rfl, fun _ _ _ _ => ev_not, fun _ _ _ _ _ => ev_isB, fun _ _ _ _ _ _ => ev_ite, fun _ _ _ _ => ev_and, fun _ _ _ _ => ev_or, fun _ _ _ _ => and_one, fun _ _ _ _ => or_one, fun _ _ _ _ _ _ => and_cons, fun _ _ _ _ _ _ => or_cons,
    fun _ _ _ _ _ => rfl, fun _ _ _ _ _ => rfl, fun _ _ _ _ _ _ => rfl, fun _ _ _ _ _ _ _ _ => ev_chain, fun _ _ _ _ => ex_expr, fun _ _ _ _ => ex_ret, fun _ _ _ _ _ _ => ex_ite, fun _ _ _ _ _ _ => rfl, fun _ _ _ _ _ _ => ex_put, fun _ _ _ _ _ _ => ex_putK, fun _ _ _ _ _ _ => ex_aug⟩
end
theorem Pl : (∀ (d : D) (st : Store), getV (some (some d)) st = some (d, st)) ∧ (∀ (x : D) (xs : List D) (st : Store), fL2 x xs st = some (x :: xs, st)) ∧
    (∀ (b : Bool) (st : Store), kNot (.bl b) st = some (.bl (!b), st)) ∧ (∀ (i : Int) (st : Store), kNeg (.int i) st = some (.int (-i), st)) ∧
    (∀ (j : Int) (st : Store), kR1 (.int j) st = if lim62 j = true then some (none, rangeD 0 j, st) else none) ∧
    (∀ (i j : Int) (st : Store), kR2 (.int i) (.int j) st = some (none, rangeD i j, st)) ∧ (∀ (z : Str) (st : Store), kChars (.str z) st = some (none, signsD z, st)) ∧
    (∀ (ds : List D) (st : Store), srcOf (.tup ds) st = some (none, ds, st)) ∧ (∀ (ds : List D) (st : Store), srcOf (.lst ds) st = some (none, ds, st)) ∧
    (∀ (d : D) (env : Env) (st : Store), outD (some (.ret d, env, st)) = some (d, st)) ∧ (∀ (env : Env) (st : Store), outD (some (.next, env, st)) = some (.non, st)) ∧
    (∀ (env : Env) (x : D) (st : Store), kRet env x st = some (.ret x, env, st)) ∧ (∀ (env : Env) (x : D) (st : Store), kExpr env x st = some (.next, env, st)) ∧
    (∀ (env : Env) (x o i : D) (st : Store), kPut2 env x o i st = (putL o i x st).map fun st' => (.next, env, st')) ∧ (∀ (env : Env) (x o i : D) (st : Store), kPutK2 env x o i st = (putK o i x st).map fun st' => (.next, env, st')) ∧
    (∀ (is : List Nat) (env : Env) (ds : List D) (st : Store), kPar is env ds st = (setAll is ds env).map fun env' => (.next, env', st)) ∧ (∀ (env : Env), setAll [] [] env = some env) ∧
    (∀ (x : D) (st : Store), kIsN x st = some (.bl (isNon x), st)) ∧ (∀ (x : D) (st : Store), kNotN x st = some (.bl (!isNon x), st)) ∧
    (∀ (x y : D) (st : Store), kMem x y st = (memD st x y).map fun k => (.bl k, st)) ∧ (∀ (x y : D) (st : Store), kNotIn x y st = (memD st x y).map fun k => (.bl (!k), st)) ∧
    (∀ (m : Bool) (x y : D) (st : Store), kCat m x y st = (lstOf st x).bind fun xs => (lstOf st y).bind fun ys => mkL m (xs ++ ys) st) ∧
    (∀ (tys : List String) (x : D) (st : Store), kIsa tys x st = (isaD st tys x).map fun b => (.bl b, st)) ∧ (∀ (xs : List D) (st : Store), kRev (.lst xs) st = some (.lst xs.reverse, st)) ∧ (∀ (xs : List D) (st : Store), kRev (.tup xs) st = some (.tup xs.reverse, st)) ∧
    (∀ (m : Bool) (j : Int) (st : Store), kRange m (.int j) st = if 0 ≤ j ∧ j ≤ 1000000 then mkL m (rangeD 0 j) st else none) ∧ (∀ (b c : Bool) (st : Store), kIsB b (.bl c) st = some (.bl (decide (c = b)), st)) := by
  refine ⟨?_, ?_, ?_, ?_, ?_, ?_, ?_, ?_, ?_, ?_, ?_, ?_, ?_, ?_, ?_, ?_, ?_, ?_, ?_, ?_, ?_, ?_, ?_, ?_, ?_, ?_, ?_⟩ <;> intros <;> rfl
theorem Ex2 {C : Q.Ctx} : (∀ (o i : X) (env : Env) (x : D) (st : Store), kPut C o i env x st = th (kPut1 C i env x) (ev C o env st)) ∧ (∀ (i : X) (env : Env) (x o : D) (st : Store), kPut1 C i env x o st = th (kPut2 env x o) (ev C i env st)) ∧
    (∀ (o i : X) (env : Env) (x : D) (st : Store), kPutK C o i env x st = th (kPutK1 C i env x) (ev C o env st)) ∧ (∀ (i : X) (env : Env) (x o : D) (st : Store), kPutK1 C i env x o st = th (kPutK2 env x o) (ev C i env st)) ∧
    (∀ (i : Nat) (op : Operator) (e : X) (env : Env) (st : Store) (x : Int), fAug C i op e env st (some (some (.int x))) = th (kAug i op env x) (ev C e env st)) ∧
    (∀ (lo hi : X) (env : Env) (x : D) (st : Store), fSl C lo hi env x st = th (fSl1 C x hi env) (asO (noneX lo) (ev C lo env st))) ∧ (∀ (x : D) (hi : X) (env : Env) (lo : Option Int) (st : Store), fSl1 C x hi env lo st = th (sliceD x lo) (asO (noneX hi) (ev C hi env st))) ∧
    (∀ (b c : X) (op op' : CmpOp) (env : Env) (x : D) (st : Store), fChain C op op' b c env x st = th (gChain C op op' c env x) (ev C b env st)) ∧
    (∀ (c : X) (op op' : CmpOp) (env : Env) (x y : D) (st : Store), gChain C op op' c env x y st = chB (cmpD st op x y) (th (kCmp op' y) (ev C c env st)) (some (.bl false, st))) ∧
    (∀ (f : Me) (es : List X) (env : Env) (o : D) (st : Store), fMeth C f es env o st = if meOk f o st = true then th (methD f o) (evL C es env st) else none) := by
  refine ⟨?_, ?_, ?_, ?_, ?_, ?_, ?_, ?_, ?_, ?_⟩ <;> intros <;> rfl
theorem asO_some {i : Int} {st : Store} : asO false (some (.int i, st)) = some (some i, st) := rfl
theorem asO_no {st : Store} {d : D} : asO true (some (.bl true, st)) = some (none, st) := rfl
theorem kAug_add {i : Nat} {env : Env} {x y : Int} {st : Store} : kAug i .Add env x (.int y) st = some (.next, env.set i (some (.int (x + y))), st) := rfl
theorem kAug_sub {i : Nat} {env : Env} {x y : Int} {st : Store} : kAug i .Sub env x (.int y) st = some (.next, env.set i (some (.int (x - y))), st) := rfl
theorem setAll_cons {i : Nat} {is : List Nat} {d : D} {ds : List D} {env : Env} (h : i < env.length) : setAll (i :: is) (d :: ds) env = setAll is ds (env.set i (some d)) := by simp only [setAll, if_pos h]
/-- o[k] = v of a list of the store -/
def putAt (n : Nat) (k : Int) (x : D) (st : Store) (o : Option SO) : Option Store := match o with
  | some (.lst ds) => (setAt ds k x).map fun es => st.set n (.lst es)
  | _ => none
theorem putL_loc {n : Nat} {k : Int} {x : D} {st : Store} : putL (.loc n) (.int k) x st = putAt n k x st st[n]? := rfl
theorem putAt_lst {n : Nat} {k : Int} {x : D} {st : Store} {ds : List D} : putAt n k x st (some (.lst ds)) = (setAt ds k x).map fun es => st.set n (.lst es) := rfl
theorem setAt_1 {a b x : D} {l : List D} : setAt (a :: b :: l) 1 x = some (a :: x :: l) := by
  unfold setAt
  rw [show ixN (a :: b :: l).length 1 = some 1 by simp [ixN]; omega]
  rfl
theorem setAt_2 {a b c x : D} {l : List D} : setAt (a :: b :: c :: l) 2 x = some (a :: b :: x :: l) := by
  unfold setAt
  rw [show ixN (a :: b :: c :: l).length 2 = some 2 by simp [ixN]; omega]
  rfl
theorem Sx : (∀ i, starX (.int i) = false) ∧ (∀ i, starX (.str i) = false) ∧ (∀ i, starX (.bl i) = false) ∧ starX .non = false ∧ (∀ i, starX (.var i) = false) ∧ (∀ i, starX (.glb i) = false) ∧ (∀ o a b, starX (.bin o a b) = false) ∧ (∀ m a b, starX (.cat m a b) = false) ∧
    (∀ a, starX (.neg a) = false) ∧ (∀ a, starX (.not a) = false) ∧ (∀ o a b, starX (.cmp o a b) = false) ∧ (∀ o p a b c, starX (.chain o p a b c) = false) ∧ (∀ a, starX (.isN a) = false) ∧ (∀ a, starX (.notN a) = false) ∧ (∀ a b, starX (.isB a b) = false) ∧
    (∀ a b, starX (.mem a b) = false) ∧ (∀ a b, starX (.notIn a b) = false) ∧ (∀ a b, starX (.memK a b) = false) ∧ (∀ a b, starX (.notInK a b) = false) ∧ (∀ a, starX (.and a) = false) ∧ (∀ a, starX (.or a) = false) ∧ (∀ a b c, starX (.ite a b c) = false) ∧
    (∀ a, starX (.tup a) = false) ∧ (∀ m a, starX (.lst m a) = false) ∧ (∀ a b, starX (.sub a b) = false) ∧ (∀ a b, starX (.subK a b) = false) ∧ (∀ a b c, starX (.slice a b c) = false) ∧ (∀ a, starX (.rev a) = false) ∧ (∀ f a, starX (.call f a) = false) ∧ (∀ f m a, starX (.bi f m a) = false) ∧
    (∀ m a, starX (.lrange m a) = false) ∧ (∀ t a, starX (.isa t a) = false) ∧ (∀ f o a, starX (.meth f o a) = false) ∧ (∀ a b c d e, starX (.comp a b c d e) = false) ∧ (∀ a b c d e f g h i, starX (.comp2 a b c d e f g h i) = false) := by
  refine ⟨?_, ?_, ?_, ?_, ?_, ?_, ?_, ?_, ?_, ?_, ?_, ?_, ?_, ?_, ?_, ?_, ?_, ?_, ?_, ?_, ?_, ?_, ?_, ?_, ?_, ?_, ?_, ?_, ?_, ?_, ?_, ?_, ?_, ?_, ?_⟩ <;> intros <;> rfl
/-! ### values -/
def subLoc (o : Option SO) (k : Int) : Option D := match o with
  | some (.lst ds) => atI ds k
  | _ => none
theorem bl_eq (a b : Bool) (st : Store) : cmpD st .Eq (.bl a) (.bl b) = some (a == b) := by cases a <;> cases b <;> rfl
theorem Val1 : (∀ (st : Store) (ds : List D) (k : Int), subD st (.tup ds) (.int k) = atI ds k) ∧ (∀ (st : Store) (ds : List D) (k : Int), subD st (.lst ds) (.int k) = atI ds k) ∧ (∀ (st : Store) (n : Nat) (k : Int), subD st (.loc n) (.int k) = subLoc st[n]? k) ∧
    (∀ (ds : List D) (k : Int), subLoc (some (.lst ds)) k = atI ds k) ∧
    (∀ (a : D) (l : List D), atI (a :: l) 0 = some a) ∧ (∀ (a b : D) (l : List D), atI (a :: b :: l) 1 = some b) ∧ (∀ (a b c : D) (l : List D), atI (a :: b :: c :: l) 2 = some c) ∧ (∀ (a b c d : D) (l : List D), atI (a :: b :: c :: d :: l) 3 = some d) ∧
    (∀ (x y : D) (st : Store), kSub x y st = (subD st x y).map fun d => (d, st)) ∧ (∀ (op : CmpOp) (x y : D) (st : Store), kCmp op x y st = (cmpD st op x y).map fun k => (.bl k, st)) ∧
    (∀ (st : Store) (i j : Int), cmpD st .Lt (.int i) (.int j) = some (decide (i < j))) ∧ (∀ (st : Store) (i j : Int), cmpD st .LtE (.int i) (.int j) = some (decide (i ≤ j))) ∧
    (∀ (st : Store) (i j : Int), cmpD st .Gt (.int i) (.int j) = some (decide (j < i))) ∧ (∀ (st : Store) (i j : Int), cmpD st .GtE (.int i) (.int j) = some (decide (j ≤ i))) ∧
    (∀ (st : Store) (i j : Int), cmpD st .Eq (.int i) (.int j) = some (i == j)) ∧ (∀ (st : Store) (i j : Int), cmpD st .NotEq (.int i) (.int j) = some (!(i == j))) ∧
    (∀ (st : Store) (i j : Str), cmpD st .Eq (.str i) (.str j) = some (i == j)) ∧ (∀ (st : Store) (i j : Str), cmpD st .NotEq (.str i) (.str j) = some (!(i == j))) ∧
    (∀ (st : Store) (i j : Bool), cmpD st .Eq (.bl i) (.bl j) = some (i == j)) ∧ (∀ (st : Store) (i j : Bool), cmpD st .NotEq (.bl i) (.bl j) = some (!(i == j))) ∧
    (∀ (i j : Int) (st : Store), binD .Add (.int i) (.int j) st = some (.int (i + j), st)) ∧ (∀ (i j : Int) (st : Store), binD .Sub (.int i) (.int j) st = some (.int (i - j), st)) ∧
    (∀ (m : Bool) (d : D) (st : Store), biD .len m [d] st = (lenD st d).map fun n => (.int n, st)) ∧ (∀ (m : Bool) (i : Int) (st : Store), biD .int m [.int i] st = some (.int i, st)) ∧ (∀ (m : Bool) (i : Int) (st : Store), biD .abs m [.int i] st = some (.int (if i < 0 then -i else i), st)) ∧
    (∀ (st : Store) (ds : List D), lenD st (.tup ds) = some (ds.length : Int)) ∧ (∀ (st : Store) (ds : List D), lenD st (.lst ds) = some (ds.length : Int)) := by
  refine ⟨?_, ?_, ?_, ?_, ?_, ?_, ?_, ?_, ?_, ?_, ?_, ?_, ?_, ?_, ?_, ?_, ?_, ?_, ?_, ?_, ?_, ?_, ?_, ?_, ?_, ?_, ?_⟩ <;> intros <;> first | rfl | exact bl_eq _ _ _ | skip
  · rename_i st n k
    simp only [subD, seqOf, subLoc]
    rcases st[n]? with _ | (_ | _ | _) <;> rfl
  · exact atI_nat (j := 0) rfl
  · exact atI_nat (j := 1) rfl
  · exact atI_nat (j := 2) rfl
  · exact atI_nat (j := 3) rfl
theorem mult_ok {i j : Int} {st : Store} (h1 : i.natAbs < 2 ^ 1000) (h2 : j.natAbs < 2 ^ 1000) : binD .Mult (.int i) (.int j) st = some (.int (i * j), st) := by
  show (binI .Mult i j).map _ = _
  simp only [binI, if_pos (And.intro h1 h2)]; rfl
theorem fdiv_ok {i j : Int} {st : Store} (h1 : j ≠ 0) (h2 : j.natAbs < 2 ^ 1000) : binD .FloorDiv (.int i) (.int j) st = some (.int (i.fdiv j), st) := by
  show (binI .FloorDiv i j).map _ = _
  simp only [binI, if_pos (And.intro h1 h2)]; rfl
theorem fmod_ok {i j : Int} {st : Store} (h1 : j ≠ 0) : binD .Mod (.int i) (.int j) st = some (.int (i.fmod j), st) := by
  show (binI .Mod i j).map _ = _
  simp only [binI, if_pos h1]; rfl
theorem pow15 (st : Store) : binD .Pow (.int 10) (.int 15) st = some (.int 1000000000000000, st) := by
  simp [binD, binI]
theorem pow18 (st : Store) : binD .Pow (.int 10) (.int 18) st = some (.int 1000000000000000000, st) := by
  simp [binD, binI]
theorem noneX_t : noneX .none_ = true := rfl
theorem noneX_i {i : Int} : noneX (.int i) = false := rfl
theorem noneX_v {i : Nat} : noneX (.var i) = false := rfl
theorem noneX_n {a : X} : noneX (.neg a) = false := rfl
/-! ### loops -/
theorem compLoop_all {one : D → Store → Option (List D × Store)} {st : Store} {f : D → List D} : ∀ {ds : List D}, (∀ d ∈ ds, one d st = some (f d, st)) → compLoop none one ds st = some (ds.flatMap f, st)
  | [], _ => rfl
  | d :: ds, h => by
    have ih := compLoop_all (f := f) (one := one) (st := st) (ds := ds) fun x hx => h x (List.mem_cons_of_mem _ hx)
    show (if guardOk none st = true then (one d st).bind fun r => (compLoop none one ds r.2).bind fun q => some (r.1 ++ q.1, q.2) else none) = _
    rw [if_pos (show guardOk none st = true from rfl), h d List.mem_cons_self]
    show ((compLoop none one ds st).bind fun q => some (f d ++ q.1, q.2)) = _
    rw [ih]
    rfl
theorem compLoop_nil {one : D → Store → Option (List D × Store)} {st : Store} {ds : List D} (h : ∀ d ∈ ds, one d st = some ([], st)) : compLoop none one ds st = some ([], st) := by
  rw [compLoop_all (f := fun _ => []) h]
  simp
theorem compLoop_map {one : D → Store → Option (List D × Store)} {st : Store} (g : D → D) {ds : List D} (h : ∀ d ∈ ds, one d st = some ([g d], st)) : compLoop none one ds st = some (ds.map g, st) := by
  rw [compLoop_all (f := fun d => [g d]) h, List.map_eq_flatMap]
theorem rangeD_mem {n : Nat} {d : D} (h : d ∈ rangeD 0 n) : ∃ i : Nat, i < n ∧ d = .int i := by
  unfold rangeD at h
  obtain ⟨i, hi, rfl⟩ := List.mem_map.mp h
  refine ⟨i, ?_, by simp⟩
  have := List.mem_range.mp hi
  omega
theorem forLoop_inv {bd : D → Env → Option Env} {body : Env → Store → RS} {I : Env → Store → Prop} : ∀ {ds : List D} {env : Env} {st : Store}, I env st → (∀ d ∈ ds, ∀ env st, I env st → ∃ env1, bd d env = some env1 ∧ ∃ env2 st2, body env1 st = some (.next, env2, st2) ∧ I env2 st2) →
    ∃ env2 st2, forLoop none bd body ds env st = some (.next, env2, st2) ∧ I env2 st2
  | [], env, st, h, _ => ⟨env, st, rfl, h⟩
  | d :: ds, env, st, h, hs => by
    obtain ⟨env1, h1, env2, st2, h2, h3⟩ := hs d List.mem_cons_self env st h
    obtain ⟨env3, st3, h4, h5⟩ := forLoop_inv h3 fun x hx => hs x (List.mem_cons_of_mem _ hx)
    refine ⟨env3, st3, ?_, h5⟩
    show (if guardOk none st = true then (bd d env).bind fun env1 => (body env1 st).bind fun r => match r with
        | (.ret d, env2, st2) => some (.ret d, env2, st2)
        | (.next, env2, st2) => forLoop none bd body ds env2 st2 else none) = _
    rw [if_pos (show guardOk none st = true from rfl), h1]
    show ((body env1 st).bind _) = _
    rw [h2]
    exact h4
/-- the loop's invariant with its turn -/
theorem forLoop_ix {bd : D → Env → Option Env} {body : Env → Store → RS} {I : Nat → Env → Store → Prop} : ∀ {ds : List D} {env : Env} {st : Store} {j : Nat}, I j env st → (∀ (i : Nat) (d : D), ds[i]? = some d → ∀ env st, I (j + i) env st → ∃ env1, bd d env = some env1 ∧ ∃ env2 st2, body env1 st = some (.next, env2, st2) ∧ I (j + i + 1) env2 st2) →
    ∃ env2 st2, forLoop none bd body ds env st = some (.next, env2, st2) ∧ I (j + ds.length) env2 st2
  | [], env, st, j, h, _ => ⟨env, st, rfl, h⟩
  | d :: ds, env, st, j, h, hs => by
    obtain ⟨env1, h1, env2, st2, h2, h3⟩ := hs 0 d rfl env st h
    obtain ⟨env3, st3, h4, h5⟩ := forLoop_ix (j := j + 1) h3 fun i x hx env st hI => by
      have e : j + (i + 1) = j + 1 + i := by omega
      have := hs (i + 1) x hx env st (by rw [e]; exact hI)
      rw [e] at this
      exact this
    refine ⟨env3, st3, ?_, by have e : j + (d :: ds).length = j + 1 + ds.length := by rw [List.length_cons]; omega
                              rw [e]; exact h5⟩
    show (if guardOk none st = true then (bd d env).bind fun env1 => (body env1 st).bind fun r => match r with
        | (.ret d, env2, st2) => some (.ret d, env2, st2)
        | (.next, env2, st2) => forLoop none bd body ds env2 st2 else none) = _
    rw [if_pos (show guardOk none st = true from rfl), h1]
    show ((body env1 st).bind _) = _
    rw [h2]
    exact h4
theorem for_eq {C : Q.Ctx} {t : Tt} {b : List S} {env : Env} {gd : Option (Nat × List D)} {ds : List D} {st : Store} : kFor C t b env gd (ds, st) = forLoop gd (bindT t) (exL C b) ds env st := rfl
theorem comp_eq {C : Q.Ctx} {own : List (Str × Nat)} {t : Tt} {c e : X} {env : Env} {gd : Option (Nat × List D)} {ds : List D} {st : Store} : kComp C own t c e env gd (ds, st) = endC (compLoop gd (one1 C own t c e env) ds st) := rfl
theorem endC_ok {zs : List D} {st : Store} (h : zs.length ≤ sizeLine) : endC (some (zs, st)) = some (.lst zs, st) := by
  show (if zs.length ≤ sizeLine then some (D.lst zs, st) else none) = _
  rw [if_pos h]
def kBl (C : Q.Ctx) (e : X) (env : Env) (x : D) (st : Store) : Option (List D × Store) := match x with
  | .bl t => if t = true then th (fun d st => some ([d], st)) (ev C e env st) else some ([], st)
  | _ => none
/-- one turn over a plain name -/
theorem one1_name {C : Q.Ctx} {own : List (Str × Nat)} {i : Nat} {c e : X} {env : Env} {d : D} {st : Store} (h : i < (wipeE env (own.map (·.2))).length) :
    one1 C own (.name i) c e env d st = th (kBl C e ((wipeE env (own.map (·.2))).set i (some d))) (ev C c ((wipeE env (own.map (·.2))).set i (some d)) st) := by
  unfold one1 compOne
  simp only [bindT, if_pos h]
  generalize (wipeE env (own.map (·.2))).set i (some d) = env1
  show ((asB (ev C c env1 st)).bind _) = th (kBl C e env1) (ev C c env1 st)
  rcases ev C c env1 st with _ | ⟨x, st1⟩
  · rfl
  · cases x <;> try rfl
    rename_i b
    cases b
    · rfl
    · show (Option.map (fun q => ([q.1], q.2)) (ev C e env1 st1)) = th (fun d st => some ([d], st)) (ev C e env1 st1)
      rw [map_th]
theorem kBl_bl {C : Q.Ctx} {e : X} {env : Env} {t : Bool} {st : Store} : kBl C e env (.bl t) st = if t = true then th (fun d st => some ([d], st)) (ev C e env st) else some ([], st) := rfl
theorem Isa (st : Store) : isaD st ["list", "tuple"] .non = some false ∧ isaD st ["list"] .non = some false ∧ isaD st ["tuple"] .non = some false ∧ isaD st ["bool"] .non = some false ∧
    (∀ i, isaD st ["list", "tuple"] (.int i) = some false) ∧ (∀ i, isaD st ["list"] (.int i) = some false) ∧ (∀ i, isaD st ["tuple"] (.int i) = some false) ∧ (∀ i, isaD st ["bool"] (.int i) = some false) ∧
    (∀ i, isaD st ["list", "tuple"] (.str i) = some false) ∧ (∀ i, isaD st ["list"] (.str i) = some false) ∧ (∀ i, isaD st ["tuple"] (.str i) = some false) ∧ (∀ i, isaD st ["bool"] (.str i) = some false) ∧
    (∀ i, isaD st ["list", "tuple"] (.bl i) = some false) ∧ (∀ i, isaD st ["list"] (.bl i) = some false) ∧ (∀ i, isaD st ["tuple"] (.bl i) = some false) ∧ (∀ i, isaD st ["bool"] (.bl i) = some true) ∧
    (∀ i, isaD st ["list", "tuple"] (.tup i) = some true) ∧ (∀ i, isaD st ["list"] (.tup i) = some false) ∧ (∀ i, isaD st ["tuple"] (.tup i) = some true) ∧ (∀ i, isaD st ["bool"] (.tup i) = some false) ∧
    (∀ i, isaD st ["list", "tuple"] (.lst i) = some true) ∧ (∀ i, isaD st ["list"] (.lst i) = some true) ∧ (∀ i, isaD st ["tuple"] (.lst i) = some false) ∧ (∀ i, isaD st ["bool"] (.lst i) = some false) := by
  refine ⟨?_, ?_, ?_, ?_, ?_, ?_, ?_, ?_, ?_, ?_, ?_, ?_, ?_, ?_, ?_, ?_, ?_, ?_, ?_, ?_, ?_, ?_, ?_, ?_⟩ <;> intros <;> rfl
theorem mkL_nil {st : Store} : mkL false [] st = some (.lst [], st) := rfl
theorem mkL_f {ds : List D} {st : Store} (h : ds.length ≤ sizeLine) : mkL false ds st = some (.lst ds, st) := by
  unfold mkL; rw [if_pos h]; rfl
theorem mkL_t {ds : List D} {st : Store} (h : ds.length ≤ sizeLine) : mkL true ds st = some (.loc st.length, st ++ [.lst ds]) := by
  unfold mkL; rw [if_pos h]; rfl
theorem mkT_ok {ds : List D} {st : Store} (h : ds.length ≤ sizeLine) : mkT ds st = some (.tup ds, st) := by
  unfold mkT; rw [if_pos h]
theorem MkT : (∀ (a b : D) (st : Store), mkT [a, b] st = some (.tup [a, b], st)) ∧ (∀ (a b c : D) (st : Store), mkT [a, b, c] st = some (.tup [a, b, c], st)) ∧ (∀ (a b c d : D) (st : Store), mkT [a, b, c, d] st = some (.tup [a, b, c, d], st)) ∧
    (∀ (a : D) (st : Store), mkT [a] st = some (.tup [a], st)) ∧ (∀ (st : Store), mkT [] st = some (.tup [], st)) ∧ (∀ (st : Store), mkL false [] st = some (.lst [], st)) ∧ (∀ (a : D) (st : Store), mkL false [a] st = some (.lst [a], st)) ∧ (∀ (a b : D) (st : Store), mkL false [a, b] st = some (.lst [a, b], st)) ∧
    (∀ (a b c : D) (st : Store), mkL false [a, b, c] st = some (.lst [a, b, c], st)) ∧ (∀ (a b c d : D) (st : Store), mkL false [a, b, c, d] st = some (.lst [a, b, c, d], st)) := by
  refine ⟨?_, ?_, ?_, ?_, ?_, ?_, ?_, ?_, ?_, ?_⟩ <;> intros <;> first | exact mkT_ok (by simp [sizeLine]) | exact mkL_f (by simp [sizeLine])
theorem lst_eq_nil {st : Store} : cmpD st .Eq (.lst []) (.lst []) = some true := rfl
theorem stTs_nil {C : Q.Ctx} {env : Env} {st : Store} : stTs C [] [] env st = some (env, st) := by simp only [stTs]
/-- a loop that gathers items -/
theorem gather {bd : D → Q.Env → Option Q.Env} {body : Q.Env → Store → RS} {mk : Option D → List D → Q.Env} {f : D → List D} {st : Store} {B : Nat} : ∀ {ds : List D}, (∀ d ∈ ds, ∀ acc x, (acc ++ f d).length ≤ B → ∃ env1, bd d (mk x acc) = some env1 ∧ body env1 st = some (.next, mk (some d) (acc ++ f d), st)) →
    ∀ acc x, (acc ++ ds.flatMap f).length ≤ B → ∃ y, forLoop none bd body ds (mk x acc) st = some (.next, mk y (acc ++ ds.flatMap f), st)
  | [], _, acc, x, _ => ⟨x, by
    show some (Fl.next, mk x acc, st) = _
    rw [List.flatMap_nil, List.append_nil]⟩
  | d :: ds, h, acc, x, hB => by
    obtain ⟨env1, h1, h2⟩ := h d List.mem_cons_self acc x (by simp only [List.flatMap_cons, List.length_append] at hB ⊢; omega)
    obtain ⟨y, h3⟩ := gather (fun e he => h e (List.mem_cons_of_mem _ he)) (acc ++ f d) (some d) (by rw [List.append_assoc, ← List.flatMap_cons]; exact hB)
    refine ⟨y, ?_⟩
    show (if guardOk none st = true then (bd d (mk x acc)).bind fun env1 => (body env1 st).bind fun r => match r with
        | (.ret d, env2, st2) => some (.ret d, env2, st2)
        | (.next, env2, st2) => forLoop none bd body ds env2 st2 else none) = _
    rw [if_pos (show guardOk none st = true from rfl), h1]
    show ((body env1 st).bind _) = _
    rw [h2, List.flatMap_cons, ← List.append_assoc]
    exact h3
theorem cat_ok {xs ys : List D} {st : Store} (h : (xs ++ ys).length ≤ 1000000) : ((lstOf st (.lst xs)).bind fun xs => (lstOf st (.lst ys)).bind fun ys => mkL false (xs ++ ys) st) = some (.lst (xs ++ ys), st) := by
  show mkL false (xs ++ ys) st = _
  exact mkL_f (Nat.le_trans h (by decide))
def fCat2 (ys zs : List D) (st : Store) : Option (List D × Store) := some (ys ++ zs, st)
def fCat (one : D → Store → Option (List D × Store)) (ds ys : List D) (st : Store) : Option (List D × Store) := th (fCat2 ys) (compLoop none one ds st)
def oneI (C : Q.Ctx) (vs : List Nat) (t : Tt) (c e : X) (env : Q.Env) : D → Store → Option (List D × Store) :=
  compOne (wipeE env vs) (bindT t) (fun env st => asB (ev C c env st)) fun env st => (ev C e env st).map fun q => ([q.1], q.2)
def kIn (C : Q.Ctx) (own1 : List Nat) (t1 : Tt) (c1 e : X) (env : Q.Env) (gd : Option (Nat × List D)) (r : List D × Store) : Option (List D × Store) := compLoop gd (oneI C own1 t1 c1 e env) r.1 r.2
def kBl2 (C : Q.Ctx) (own1 : List Nat) (t1 : Tt) (it1 : It) (c1 e : X) (env : Q.Env) (x : D) (st : Store) : Option (List D × Store) := match x with
  | .bl t => if t = true then thI (kIn C own1 t1 c1 e env) (evIt C it1 env st) else some ([], st)
  | _ => none
theorem one2_name {C : Q.Ctx} {own : List (Str × Nat)} {i : Nat} {c e : X} {own1 : List Nat} {t1 : Tt} {it1 : It} {c1 : X} {env : Q.Env} {d : D} {st : Store} (h : i < (wipeE env (own.map (·.2))).length) :
    one2 C own (.name i) c own1 t1 it1 c1 e env d st = th (kBl2 C own1 t1 it1 c1 e ((wipeE env (own.map (·.2))).set i (some d))) (ev C c ((wipeE env (own.map (·.2))).set i (some d)) st) := by
  unfold one2 compOne
  simp only [bindT, if_pos h]
  generalize (wipeE env (own.map (·.2))).set i (some d) = env1
  show ((asB (ev C c env1 st)).bind _) = th (kBl2 C own1 t1 it1 c1 e env1) (ev C c env1 st)
  rcases ev C c env1 st with _ | ⟨x, st1⟩
  · rfl
  · cases x <;> rfl
theorem oneI_name {C : Q.Ctx} {vs : List Nat} {i : Nat} {c e : X} {env : Q.Env} {d : D} {st : Store} (h : i < (wipeE env vs).length) :
    oneI C vs (.name i) c e env d st = th (kBl C e ((wipeE env vs).set i (some d))) (ev C c ((wipeE env vs).set i (some d)) st) := by
  unfold oneI compOne
  simp only [bindT, if_pos h]
  generalize (wipeE env vs).set i (some d) = env1
  show ((asB (ev C c env1 st)).bind _) = th (kBl C e env1) (ev C c env1 st)
  rcases ev C c env1 st with _ | ⟨x, st1⟩
  · rfl
  · cases x <;> try rfl
    rename_i b
    cases b
    · rfl
    · show (Option.map (fun q => ([q.1], q.2)) (ev C e env1 st1)) = th (fun d st => some ([d], st)) (ev C e env1 st1)
      rw [map_th]
theorem Lp : (∀ (one : D → Store → Option (List D × Store)) (d : D) (ds : List D) (st : Store), compLoop none one (d :: ds) st = th (fCat one ds) (one d st)) ∧ (∀ (one : D → Store → Option (List D × Store)) (st : Store), compLoop none one [] st = some ([], st)) ∧
    (∀ (one : D → Store → Option (List D × Store)) (ds ys : List D) (st : Store), fCat one ds ys st = th (fCat2 ys) (compLoop none one ds st)) ∧ (∀ (ys zs : List D) (st : Store), fCat2 ys zs st = some (ys ++ zs, st)) ∧
    (∀ (C : Q.Ctx) (own : List (Str × Nat)) (t : Tt) (c : X) (own1 : List Nat) (t1 : Tt) (it1 : It) (c1 e : X) (env : Q.Env) (gd : Option (Nat × List D)) (ds : List D) (st : Store), kComp2 C own t c own1 t1 it1 c1 e env gd (ds, st) = endC (compLoop gd (one2 C own t c own1 t1 it1 c1 e env) ds st)) ∧
    (∀ (C : Q.Ctx) (own1 : List Nat) (t1 : Tt) (it1 : It) (c1 e : X) (env : Q.Env) (t : Bool) (st : Store), kBl2 C own1 t1 it1 c1 e env (.bl t) st = if t = true then thI (kIn C own1 t1 c1 e env) (evIt C it1 env st) else some ([], st)) ∧
    (∀ (C : Q.Ctx) (own1 : List Nat) (t1 : Tt) (c1 e : X) (env : Q.Env) (gd : Option (Nat × List D)) (ds : List D) (st : Store), kIn C own1 t1 c1 e env gd (ds, st) = compLoop gd (oneI C own1 t1 c1 e env) ds st) ∧
    (∀ (C : Q.Ctx) (e : X) (env : Q.Env) (t : Bool) (st : Store), kBl C e env (.bl t) st = if t = true then th (fun d st => some ([d], st)) (ev C e env st) else some ([], st)) ∧
    (∀ (st : Store), endC (some ([], st)) = some (.lst [], st)) ∧ (∀ (a : D) (st : Store), endC (some ([a], st)) = some (.lst [a], st)) ∧ (∀ (a b : D) (st : Store), endC (some ([a, b], st)) = some (.lst [a, b], st)) ∧ (∀ (a b c : D) (st : Store), endC (some ([a, b, c], st)) = some (.lst [a, b, c], st)) ∧ (∀ (a b c d : D) (st : Store), endC (some ([a, b, c, d], st)) = some (.lst [a, b, c, d], st)) := by
  refine ⟨?_, ?_, ?_, ?_, ?_, ?_, ?_, ?_, ?_, ?_, ?_, ?_, ?_⟩ <;> intros <;> first | exact endC_ok (by simp [sizeLine]) | rfl
theorem oneI_if {C : Q.Ctx} {vs : List Nat} {i : Nat} {c e : X} {env : Q.Env} {d : D} {st : Store} :
    oneI C vs (.name i) c e env d st = if i < (wipeE env vs).length then th (kBl C e ((wipeE env vs).set i (some d))) (ev C c ((wipeE env vs).set i (some d)) st) else none := by
  split
  · rename_i h; exact oneI_name h
  · rename_i h
    unfold oneI compOne
    simp only [bindT, if_neg h]; rfl
theorem one1_pair {C : Q.Ctx} {own : List (Str × Nat)} {i j : Nat} {c e : X} {env : Q.Env} {a b : D} {st : Store} : one1 C own (.tup [.name i, .name j]) c e env (.tup [a, b]) st = if i < (wipeE env (own.map (·.2))).length ∧ j < (wipeE env (own.map (·.2))).length then
    th (kBl C e (((wipeE env (own.map (·.2))).set i (some a)).set j (some b))) (ev C c (((wipeE env (own.map (·.2))).set i (some a)).set j (some b)) st) else none := by
  unfold one1 compOne
  generalize wipeE env (own.map (·.2)) = env0
  by_cases hi : i < env0.length
  · by_cases hj : j < env0.length
    · rw [if_pos ⟨hi, hj⟩]
      have e1 : bindT (.tup [.name i, .name j]) (.tup [a, b]) env0 = some ((env0.set i (some a)).set j (some b)) := by
        simp only [bindT, bindTs, List.length_cons, List.length_nil, if_true, if_pos hi, Option.bind_some, List.length_set, if_pos hj]
      rw [e1]
      generalize (env0.set i (some a)).set j (some b) = env1
      show ((asB (ev C c env1 st)).bind _) = th (kBl C e env1) (ev C c env1 st)
      rcases ev C c env1 st with _ | ⟨x, st1⟩
      · rfl
      · cases x <;> try rfl
        rename_i t
        cases t
        · rfl
        · show (Option.map (fun q => ([q.1], q.2)) (ev C e env1 st1)) = th (fun d st => some ([d], st)) (ev C e env1 st1)
          rw [map_th]
    · rw [if_neg fun z => hj z.2]
      simp only [bindT, bindTs, List.length_cons, List.length_nil, if_true, if_pos hi, Option.bind_some, List.length_set, if_neg hj]
      rfl
  · rw [if_neg fun z => hi z.1]
    simp only [bindT, bindTs, List.length_cons, List.length_nil, if_true, if_neg hi]
    rfl
theorem pow40 (st : Store) : binD .Pow (.int 10) (.int 40) st = some (.int 10000000000000000000000000000000000000000, st) := by
  simp [binD, binI]
theorem Tri : (∀ (a b c d e f : Int) (st : Store), cmpD st .Eq (.tup [.int a, .int b, .int c]) (.tup [.int d, .int e, .int f]) = some (a == d && b == e && c == f)) ∧ (∀ (a b d e : Int) (st : Store), cmpD st .Eq (.tup [.int a, .int b]) (.tup [.int d, .int e]) = some (a == d && b == e)) ∧
    (∀ (a b d e : Int) (st : Store), cmpD st .NotEq (.tup [.int a, .int b]) (.tup [.int d, .int e]) = some (!(a == d && b == e))) ∧ (∀ (a b c : D) (st : Store), sliceD (.tup [a, b, c]) none (some 2) st = some (.tup [a, b], st)) ∧
    (∀ (a b : Int) (st : Store), biD .max false [.lst [.int a, .int b]] st = some (.int (max a b), st)) ∧ (∀ (a b : Int) (st : Store), biD .min false [.lst [.int a, .int b]] st = some (.int (min a b), st)) := by
  refine ⟨?_, ?_, ?_, ?_, ?_, ?_⟩
  · intro a b c d e f st; simp [cmpD, deq, pure1, D.ok, D.okL, D.eq, D.eqL, Bool.and_assoc]
  · intro a b d e st; simp [cmpD, deq, pure1, D.ok, D.okL, D.eq, D.eqL]
  · intro a b d e st; simp [cmpD, deq, pure1, D.ok, D.okL, D.eq, D.eqL]
  · intros; rfl
  · intros; rfl
  · intros; rfl
def kDct (ds : List D) (st : Store) : R := (dPairs ds).bind fun ps => if ps.length ≤ 15 then mkD (mergeP [] ps) st else none
theorem ev_dct {C : Q.Ctx} {xs ys : List X} {env : Q.Env} {st : Store} : ev C (.dct xs ys) env st = th kDct (evL C xs env st) := by simp only [ev]; rfl
theorem Sx2 {a b : List X} : starX (.dct a b) = false := rfl
def cndW (C : Q.Ctx) (c : X) (env : Q.Env) (st : Store) : Option (Bool × Store) := asB (ev C c env st)
theorem ex_whileC {C : Q.Ctx} {c : X} {b : List S} {env : Q.Env} {st : Store} : exS C (.while_ c b) env st = whileLoop (cndW C c) (exL C b) C.turns env st := by simp only [exS]; rfl
theorem while_step {c : Q.Env → Store → Option (Bool × Store)} {body : Q.Env → Store → RS} {n : Nat} {env env2 : Q.Env} {st st1 st2 : Store} (h : c env st = some (true, st1)) (h2 : body env st1 = some (.next, env2, st2)) : whileLoop c body (n + 1) env st = whileLoop c body n env2 st2 := by
  show ((c env st).bind _) = _
  rw [h]
  show ((body env st1).bind _) = _
  rw [h2]; rfl
theorem while_stop {c : Q.Env → Store → Option (Bool × Store)} {body : Q.Env → Store → RS} {n : Nat} {env : Q.Env} {st st1 : Store} (h : c env st = some (false, st1)) : whileLoop c body (n + 1) env st = some (.next, env, st1) := by
  show ((c env st).bind _) = _
  rw [h]; rfl
theorem Ev4 : (∀ (C : Q.Ctx) (a b : X) (env : Q.Env) (st : Store), ev C (.notInK a b) env st = th (fTwo C kNotInK b env) (ev C a env st)) ∧ (∀ (C : Q.Ctx) (a b : X) (env : Q.Env) (st : Store), ev C (.memK a b) env st = th (fTwo C kMemK b env) (ev C a env st)) := by
  refine ⟨?_, ?_⟩ <;> intros <;> (simp only [ev]; rfl)
end Q

/-! QLib: the functions that several laws share: what they give, in plain Lean. -/
namespace QL
open PySem PySem.Spec L2 Q
def d_law_draw : Q.Def := { name := "_law_draw", arity := 2, names := ["tape", "many", "prime", "cell", "found"], body := [.set (.name 2) (.int 2305843009213693951), .ite (.cmp .Lt (.sub (.var 0) (.int 2)) (.var 1)) [.set (.name 3) (.int 0), .ite (.cmp .Gt (.bi .len false [.sub (.var 0) (.int 0)]) (.int 0)) [.set (.name 3) (.sub (.sub (.var 0) (.int 0)) (.bin .Mod (.bi .int false [.sub (.var 0) (.int 1)]) (.bi .len false [.sub (.var 0) (.int 0)])))] [], .ite (.or [.cmp .GtE (.sub (.var 0) (.int 1)) (.bi .len false [.sub (.var 0) (.int 0)]), .cmp .Lt (.var 3) (.bin .Pow (.int 10) (.int 18))]) [.set (.name 3) (.bin .Mod (.bi .int false [.bin .Add (.var 3) (.bin .Mult (.int 1000003) (.sub (.var 0) (.int 1)))]) (.var 2)), .set (.name 3) (.bin .Mod (.bi .int false [.bin .Add (.bin .Add (.bin .Mult (.var 3) (.var 3)) (.bin .Mult (.int 1181783497276652981) (.var 3))) (.int 2049848353892358983)]) (.var 2)), .set (.name 3) (.bin .Mod (.bi .int false [.bin .Add (.bin .Mult (.var 3) (.var 3)) (.int 1442695040888963407)]) (.var 2))] [], .set (.sub (.var 0) (.int 1)) (.bin .Add (.sub (.var 0) (.int 1)) (.int 1)), .set (.sub (.var 0) (.int 2)) (.var 3)] [], .set (.name 4) (.bin .Mod (.bi .int false [.sub (.var 0) (.int 2)]) (.var 1)), .set (.sub (.var 0) (.int 2)) (.bin .FloorDiv (.sub (.var 0) (.int 2)) (.var 1)), .ret (.var 4)] }
def d_law_like : Q.Def := { name := "_law_like", arity := 2, names := ["one", "two", "k"], body := [.ite (.isa ["list", "tuple"] (.var 0)) [.ite (.or [.cmp .NotEq (.isa ["list"] (.var 0)) (.isa ["list"] (.var 1)), .cmp .NotEq (.isa ["tuple"] (.var 0)) (.isa ["tuple"] (.var 1))]) [.ret (.bl false)] [], .ite (.cmp .NotEq (.bi .len false [.var 0]) (.bi .len false [.var 1])) [.ret (.bl false)] [], .ret (.cmp .Eq (.comp [("k", 2)] (.name 2) (.rng1 (.bi .len false [.var 0])) (.not (.call "_law_like" [.sub (.var 0) (.var 2), .sub (.var 1) (.var 2)])) (.var 2)) (.lst false []))] [], .ite (.isa ["list", "tuple"] (.var 1)) [.ret (.bl false)] [], .ret (.and [.cmp .Eq (.isa ["bool"] (.var 0)) (.isa ["bool"] (.var 1)), .cmp .Eq (.var 0) (.var 1)])] }
def d_law_rule : Q.Def := { name := "_law_rule", arity := 1, names := ["tape", "corner", "way"], body := [.par [1, 2] [.sub (.lst false [.str "ne", .str "nw", .str "se", .str "sw"]) (.call "_law_draw" [.var 0, .int 4]), .sub (.lst false [.str "columns", .str "rows"]) (.call "_law_draw" [.var 0, .int 2])], .ret (.tup [.var 1, .var 2, .sub (.lst false [.str "next", .str "stay", .str "swap"]) (.call "_law_draw" [.var 0, .int 3]), .cmp .Eq (.call "_law_draw" [.var 0, .int 2]) (.int 0)])] }
def d_law_size : Q.Def := { name := "_law_size", arity := 2, names := ["tape", "most"], body := [.ret (.tup [.bin .Add (.int 1) (.call "_law_draw" [.var 0, .var 1]), .bin .Add (.int 1) (.call "_law_draw" [.var 0, .var 1])])] }
def d_law_spot : Q.Def := { name := "_law_spot", arity := 3, names := ["rule", "size", "index", "along", "line", "at", "row", "column"], body := [.set (.name 3) (.ite (.cmp .Eq (.sub (.var 0) (.int 1)) (.str "rows")) (.sub (.var 1) (.int 1)) (.sub (.var 1) (.int 0))), .par [4, 5] [.bin .FloorDiv (.var 2) (.var 3), .bin .Mod (.bi .int false [.var 2]) (.var 3)], .set (.tup [.name 6, .name 7]) (.ite (.cmp .Eq (.sub (.var 0) (.int 1)) (.str "rows")) (.tup [.var 4, .var 5]) (.tup [.var 5, .var 4])), .set (.name 6) (.ite (.mem (.str "s") (.sub (.var 0) (.int 0))) (.bin .Sub (.bin .Sub (.sub (.var 1) (.int 0)) (.int 1)) (.var 6)) (.var 6)), .ret (.tup [.var 6, .ite (.mem (.str "e") (.sub (.var 0) (.int 0))) (.bin .Sub (.bin .Sub (.sub (.var 1) (.int 1)) (.int 1)) (.var 7)) (.var 7)])] }
def d_cell_at : Q.Def := { name := "cell_at", arity := 3, names := ["rule", "size", "index", "rows", "columns", "row", "column"], body := [.set (.tup [.name 3, .name 4]) (.var 1), .ite (.cmp .Eq (.sub (.var 0) (.int 1)) (.str "rows")) [.par [5, 6] [.bin .FloorDiv (.var 2) (.var 4), .bin .Mod (.var 2) (.var 4)]] [.par [5, 6] [.bin .Mod (.var 2) (.var 3), .bin .FloorDiv (.var 2) (.var 3)]], .set (.name 5) (.ite (.cmp .Eq (.sub (.sub (.var 0) (.int 0)) (.int 0)) (.str "n")) (.var 5) (.bin .Sub (.bin .Sub (.var 3) (.int 1)) (.var 5))), .ret (.tup [.var 5, .ite (.cmp .Eq (.sub (.sub (.var 0) (.int 0)) (.int 1)) (.str "w")) (.var 6) (.bin .Sub (.bin .Sub (.var 4) (.int 1)) (.var 6))])] }
def d_index_of : Q.Def := { name := "index_of", arity := 3, names := ["rule", "size", "place", "rows", "columns", "row", "column"], body := [.set (.tup [.name 3, .name 4]) (.var 1), .set (.name 5) (.ite (.cmp .Eq (.sub (.sub (.var 0) (.int 0)) (.int 0)) (.str "n")) (.sub (.var 2) (.int 0)) (.bin .Sub (.bin .Sub (.var 3) (.int 1)) (.sub (.var 2) (.int 0)))), .set (.name 6) (.ite (.cmp .Eq (.sub (.sub (.var 0) (.int 0)) (.int 1)) (.str "w")) (.sub (.var 2) (.int 1)) (.bin .Sub (.bin .Sub (.var 4) (.int 1)) (.sub (.var 2) (.int 1)))), .ret (.ite (.cmp .Eq (.sub (.var 0) (.int 1)) (.str "rows")) (.bin .Add (.bin .Mult (.var 5) (.var 4)) (.var 6)) (.bin .Add (.bin .Mult (.var 6) (.var 3)) (.var 5)))] }
def d_law_number : Q.Def := { name := "_law_number", arity := 3, names := ["rule", "size", "place", "row", "column"], body := [.set (.name 3) (.ite (.mem (.str "s") (.sub (.var 0) (.int 0))) (.bin .Sub (.bin .Sub (.sub (.var 1) (.int 0)) (.int 1)) (.sub (.var 2) (.int 0))) (.sub (.var 2) (.int 0))), .set (.name 4) (.ite (.mem (.str "e") (.sub (.var 0) (.int 0))) (.bin .Sub (.bin .Sub (.sub (.var 1) (.int 1)) (.int 1)) (.sub (.var 2) (.int 1))) (.sub (.var 2) (.int 1))), .ret (.ite (.cmp .Eq (.sub (.var 0) (.int 1)) (.str "rows")) (.bin .Add (.bin .Mult (.var 3) (.sub (.var 1) (.int 1))) (.var 4)) (.bin .Add (.bin .Mult (.var 4) (.sub (.var 1) (.int 0))) (.var 3)))] }
def d_index_between : Q.Def := { name := "index_between", arity := 4, names := ["one", "other", "size", "index"], body := [.ret (.call "index_of" [.var 1, .var 2, .call "cell_at" [.var 0, .var 2, .var 3]])] }
def d_same_order : Q.Def := { name := "same_order", arity := 3, names := ["one", "other", "size", "side"], body := [.ite (.or [.cmp .Eq (.var 2) (.tup [.int 1, .int 1]), .cmp .Eq (.slice (.var 0) (.none_) (.int 2)) (.slice (.var 1) (.none_) (.int 2))]) [.ret (.bl true)] [], .ite (.notIn (.int 1) (.var 2)) [.ret (.bl false)] [], .set (.name 3) (.ite (.cmp .Eq (.sub (.var 2) (.int 0)) (.int 1)) (.int 1) (.int 0)), .ret (.cmp .Eq (.sub (.sub (.var 0) (.int 0)) (.var 3)) (.sub (.sub (.var 1) (.int 0)) (.var 3)))] }
section
variable {cst : Str → Option D} {turns : Nat} {tab : Str → Option Def} {k n : Nat} {st : Store}
def tapeAt (st : Store) (n : Nat) (cells : List Int) (i c : Int) : Prop := st[n]? = some (.lst [.lst (cells.map D.int), .int i, .int c])
theorem fmod_rng {a b : Int} (h : 0 < b) : 0 ≤ a.fmod b ∧ a.fmod b < b := by
  rw [Int.fmod_eq_emod_of_nonneg _ (Int.le_of_lt h)]
  exact ⟨Int.emod_nonneg _ (Int.ne_of_gt h), Int.emod_lt_of_pos _ h⟩
theorem abs_lt {a b : Int} {c : Nat} (h1 : -(c : Int) < a) (h2 : a < c) : a.natAbs < c := by omega
theorem lt900 {a : Int} (h : 0 ≤ a) (h2 : a < 2 ^ 900) : a.natAbs < 2 ^ 1000 := by
  have : (2 : Int) ^ 900 ≤ ((2 ^ 1000 : Nat) : Int) := by decide +kernel
  omega
theorem ltP {a : Int} (h : 0 ≤ a) (h2 : a < 2305843009213693951) : a.natAbs < 2 ^ 1000 := by
  have : (2305843009213693951 : Int) ≤ ((2 ^ 1000 : Nat) : Int) := by decide +kernel
  omega
theorem draw_ok (ht : tab "_law_draw" = some d_law_draw) {cells : List Int} {i c m : Int} (h : tapeAt st n cells i c) (hi : 0 ≤ i) (hi2 : i < 2 ^ 900) (hm : 0 < m) (hm2 : m < 2 ^ 900) :
    ∃ i' c' r, callN cst turns tab (k + 1) "_law_draw" [.loc n, .int m] st = some (.int r, st.set n (.lst [.lst (cells.map D.int), .int i', .int c'])) ∧ 0 ≤ r ∧ r < m ∧ i ≤ i' ∧ i' ≤ i + 1 := by
  unfold tapeAt at h
  have hn : n < st.length := (List.getElem?_eq_some_iff.mp h).1
  have g : ∀ o, (st.set n o)[n]? = some o := fun o => List.getElem?_set_self hn
  rw [call_eq ht rfl]
  have hmne : m ≠ 0 := by omega
  have hmN := lt900 (Int.le_of_lt hm) hm2
  have a1 : ∀ st, binD .Mult (.int 1000003) (.int i) st = some (.int (1000003 * i), st) := fun st => mult_ok (by decide) (lt900 hi hi2)
  have hp : (2305843009213693951 : Int) ≠ 0 := by decide
  have pr : ∀ x : Int, (0 ≤ x.fmod 2305843009213693951 ∧ x.fmod 2305843009213693951 < 2305843009213693951) := fun x => fmod_rng (by decide)
  have a2 : ∀ (x : Int) st, binD .Mult (.int (x.fmod 2305843009213693951)) (.int (x.fmod 2305843009213693951)) st = some (.int (x.fmod 2305843009213693951 * x.fmod 2305843009213693951), st) := fun x st => mult_ok (ltP (pr x).1 (pr x).2) (ltP (pr x).1 (pr x).2)
  have a3 : ∀ (x : Int) st, binD .Mult (.int 1181783497276652981) (.int (x.fmod 2305843009213693951)) st = some (.int (1181783497276652981 * x.fmod 2305843009213693951), st) := fun x st => mult_ok (by decide) (ltP (pr x).1 (pr x).2)
  have fin : ∀ {i1 c1 : Int}, i ≤ i1 → i1 ≤ i + 1 → ∃ i' c' r, some (D.int (c1.fmod m), st.set n (.lst [.lst (cells.map D.int), .int i1, .int (c1.fdiv m)])) = some (D.int r, st.set n (.lst [.lst (cells.map D.int), .int i', .int c'])) ∧ 0 ≤ r ∧ r < m ∧ i ≤ i' ∧ i' ≤ i + 1 := fun h1 h2 => ⟨_, _, _, rfl, (fmod_rng hm).1, (fmod_rng hm).2, h1, h2⟩
  by_cases hc : c < m
  · by_cases hcl : (0 : Int) < cells.length
    · have hne : (cells.length : Int) ≠ 0 := by omega
      obtain ⟨q1, q2⟩ := fmod_rng (a := i) hcl
      obtain ⟨x, hx⟩ : ∃ x, atI (cells.map D.int) (i.fmod cells.length) = some (.int x) := by
        have hj : (i.fmod cells.length).toNat < cells.length := by omega
        refine ⟨cells[(i.fmod cells.length).toNat], ?_⟩
        have := atI_nat (xs := cells.map D.int) (j := (i.fmod cells.length).toNat) (v := .int cells[(i.fmod cells.length).toNat]) (by rw [List.getElem?_map, List.getElem?_eq_getElem hj]; rfl)
        rw [Int.toNat_of_nonneg q1] at this
        exact this
      by_cases h1 : (cells.length : Int) ≤ i
      · simp only [d_law_draw, List.map_cons, List.map_nil, List.length_cons, List.length_nil, Nat.reduceAdd, Nat.reduceSub, Nat.reduceLT, List.replicate, List.cons_append, List.nil_append, Go, Ev1, Ev2, Ex1, Ex2, Pl, Val1, set_name, kSet_name, evl_cons, Sx, List.getElem?_cons_zero, List.getElem?_cons_succ, List.set_cons_zero, List.set_cons_succ, h, Option.map_some, decide_eq_true_eq, hc, if_true, List.length_map, hcl,
          fmod_ok hne, hx, h1, pow18, a1, a2, a3, fmod_ok hp, putL_loc, putAt_lst, setAt_1, setAt_2, g, fmod_ok hmne, fdiv_ok hmne hmN, List.set_set]
        refine fin ?_ ?_ <;> omega
      · by_cases h2 : x < 1000000000000000000
        · simp only [d_law_draw, List.map_cons, List.map_nil, List.length_cons, List.length_nil, Nat.reduceAdd, Nat.reduceSub, Nat.reduceLT, List.replicate, List.cons_append, List.nil_append, Go, Ev1, Ev2, Ex1, Ex2, Pl, Val1, set_name, kSet_name, evl_cons, Sx, List.getElem?_cons_zero, List.getElem?_cons_succ, List.set_cons_zero, List.set_cons_succ, h, Option.map_some, decide_eq_true_eq, hc, if_true, List.length_map, hcl,
            fmod_ok hne, hx, h1, h2, if_false, pow18, a1, a2, a3, fmod_ok hp, putL_loc, putAt_lst, setAt_1, setAt_2, g, fmod_ok hmne, fdiv_ok hmne hmN, List.set_set]
          refine fin ?_ ?_ <;> omega
        · simp only [d_law_draw, List.map_cons, List.map_nil, List.length_cons, List.length_nil, Nat.reduceAdd, Nat.reduceSub, Nat.reduceLT, List.replicate, List.cons_append, List.nil_append, Go, Ev1, Ev2, Ex1, Ex2, Pl, Val1, set_name, kSet_name, evl_cons, Sx, List.getElem?_cons_zero, List.getElem?_cons_succ, List.set_cons_zero, List.set_cons_succ, h, Option.map_some, decide_eq_true_eq, hc, if_true, List.length_map, hcl,
            fmod_ok hne, hx, h1, h2, if_false, pow18, a1, a2, a3, fmod_ok hp, putL_loc, putAt_lst, setAt_1, setAt_2, g, fmod_ok hmne, fdiv_ok hmne hmN, List.set_set]
          refine fin ?_ ?_ <;> omega
    · have h1 : (cells.length : Int) ≤ i := by omega
      simp only [d_law_draw, List.map_cons, List.map_nil, List.length_cons, List.length_nil, Nat.reduceAdd, Nat.reduceSub, Nat.reduceLT, List.replicate, List.cons_append, List.nil_append, Go, Ev1, Ev2, Ex1, Ex2, Pl, Val1, set_name, kSet_name, evl_cons, Sx, List.getElem?_cons_zero, List.getElem?_cons_succ, List.set_cons_zero, List.set_cons_succ, h, Option.map_some, decide_eq_true_eq, hc, if_true, if_false, List.length_map, hcl,
          h1, pow18, a1, a2, a3, fmod_ok hp, putL_loc, putAt_lst, setAt_1, setAt_2, g, fmod_ok hmne, fdiv_ok hmne hmN, List.set_set]
      refine fin ?_ ?_ <;> omega
  · simp only [d_law_draw, List.map_cons, List.map_nil, List.length_cons, List.length_nil, Nat.reduceAdd, Nat.reduceSub, Nat.reduceLT, List.replicate, List.cons_append, List.nil_append, Go, Ev1, Ev2, Ex1, Ex2, Pl, Val1, set_name, kSet_name, evl_cons, Sx, List.getElem?_cons_zero, List.getElem?_cons_succ, List.set_cons_zero, List.set_cons_succ, h, Option.map_some, decide_eq_true_eq, hc, if_true, if_false, List.length_map,
          putL_loc, putAt_lst, setAt_1, setAt_2, g, fmod_ok hmne, fdiv_ok hmne hmN, List.set_set]
    refine fin ?_ ?_ <;> omega
end
/-! ### data alike -/
def wid : Nat → D → Prop
  | _, .non => True
  | _, .bl _ => True
  | _, .int _ => True
  | _, .str _ => True
  | 0, .tup _ => False
  | 0, .lst _ => False
  | n + 1, .tup ds => ds.length ≤ 1000000 ∧ ∀ d ∈ ds, wid n d
  | n + 1, .lst ds => ds.length ≤ 1000000 ∧ ∀ d ∈ ds, wid n d
  | _, .loc _ => False
  | _, .frz _ => False
mutual
theorem eq_self : ∀ d : D, (∀ n, d ≠ .loc n) → (∀ n, d ≠ .frz n) → ∀ n, D.ok n d = true → D.eq d d = true
  | .non, _, _, _, _ => by simp [D.eq]
  | .bl _, _, _, _, _ => by simp [D.eq]
  | .int _, _, _, _, _ => by simp [D.eq]
  | .str _, _, _, _, _ => by simp [D.eq]
  | .loc n, h, _, _, _ => absurd rfl (h n)
  | .frz n, _, h, _, _ => absurd rfl (h n)
  | .tup ds, _, _, n, h => by
    cases n with
    | zero => simp [D.ok] at h
    | succ n => simp only [D.ok] at h; simp only [D.eq]; exact eq_selfL ds n h
  | .lst ds, _, _, n, h => by
    cases n with
    | zero => simp [D.ok] at h
    | succ n => simp only [D.ok] at h; simp only [D.eq]; exact eq_selfL ds n h
theorem eq_selfL : ∀ (ds : List D) (n : Nat), D.okL n ds = true → D.eqL ds ds = true
  | [], _, _ => by simp [D.eqL]
  | d :: ds, n, h => by
    simp only [D.okL, Bool.and_eq_true] at h
    simp only [D.eqL, Bool.and_eq_true]
    refine ⟨eq_self d (fun m e => by subst e; cases n <;> simp [D.ok] at h) (fun m e => by subst e; cases n <;> simp [D.ok] at h) n h.1, eq_selfL ds n h.2⟩
end
theorem okL_of {n : Nat} : ∀ {ds : List D}, (∀ d ∈ ds, D.ok n d = true) → D.okL n ds = true
  | [], _ => by simp [D.okL]
  | d :: ds, h => by
    simp only [D.okL, Bool.and_eq_true]
    exact ⟨h d List.mem_cons_self, okL_of fun x hx => h x (List.mem_cons_of_mem _ hx)⟩
theorem wid_ok : ∀ {n : Nat} {d : D}, wid n d → D.ok n d = true
  | n, .non, _ => by cases n <;> simp [D.ok]
  | n, .bl _, _ => by cases n <;> simp [D.ok]
  | n, .int _, _ => by cases n <;> simp [D.ok]
  | n, .str _, _ => by cases n <;> simp [D.ok]
  | 0, .tup _, h => by simp [wid] at h
  | 0, .lst _, h => by simp [wid] at h
  | n + 1, .tup ds, h => by
    simp only [wid] at h
    simp only [D.ok]
    exact okL_of fun d hd => wid_ok (h.2 d hd)
  | n + 1, .lst ds, h => by
    simp only [wid] at h
    simp only [D.ok]
    exact okL_of fun d hd => wid_ok (h.2 d hd)
  | n, .loc _, h => by cases n <;> simp [wid] at h
  | n, .frz _, h => by cases n <;> simp [wid] at h
theorem ok_mono : ∀ {n m : Nat}, n ≤ m → ∀ {d : D}, D.ok n d = true → D.ok m d = true := by
  intro n
  induction n with
  | zero => intro m h d hd; cases d <;> cases m <;> simp_all [D.ok]
  | succ n ih =>
    intro m h d hd
    obtain ⟨m, rfl⟩ : ∃ m', m = m' + 1 := ⟨m - 1, by omega⟩
    have hl : ∀ ds : List D, D.okL n ds = true → D.okL m ds = true := fun ds => by
      induction ds with
      | nil => intro _; simp [D.okL]
      | cons d ds ihl =>
        intro q
        simp only [D.okL, Bool.and_eq_true] at q ⊢
        exact ⟨ih (by omega) q.1, ihl q.2⟩
    cases d <;> simp_all [D.ok]
theorem deq_self {st : Store} {n : Nat} {d : D} (h : wid n d) (hn : n ≤ 20) : deq st d d = some true := by
  have q := ok_mono hn (wid_ok h)
  have p : pure1 st d = d := by cases d <;> first | rfl | (cases n <;> simp [wid] at h)
  unfold deq
  rw [p, if_pos (by rw [q]; rfl), eq_self d (fun m e => by subst e; cases n <;> simp [wid] at h) (fun m e => by subst e; cases n <;> simp [wid] at h) _ q]
theorem lim_len {n : Nat} (h : n ≤ 1000000) : lim62 (n : Int) = true := by
  unfold lim62
  exact decide_eq_true ⟨by omega, by omega⟩
theorem like_self {cst : Str → Option D} {turns : Nat} {tab : Str → Option Def} (ht : tab "_law_like" = some d_law_like) : ∀ {n k : Nat} {d : D} {st : Store}, wid n d → n ≤ 20 → n ≤ k → callN cst turns tab (k + 1) "_law_like" [d, d] st = some (.bl true, st) := by
  intro n
  induction n with
  | zero =>
    intro k d st h hn hk
    have hq : cmpD st .Eq d d = some true := deq_self h hn
    rw [call_eq ht rfl]
    cases d <;> first | (simp [wid] at h; done) | skip
    all_goals simp only [d_law_like, List.map_cons, List.map_nil, List.length_cons, List.length_nil, Nat.reduceAdd, Nat.reduceSub, Nat.reduceLT, List.replicate, List.cons_append, List.nil_append, Go, Ev1, Ev2, Ev3, Ex1, Ex2, Pl, Val1, set_name, kSet_name, kSet_tup, stTs_name, stTs_nil, setAll_cons, evl_cons, Sx, List.getElem?_cons_zero, List.getElem?_cons_succ, List.set_cons_zero, List.set_cons_succ, Option.map_some, Option.bind_some, decide_eq_true_eq, if_true, if_false, Bool.false_eq_true, asO_some, asO_no, noneX_t, noneX_i, noneX_v, noneX_n, kAug_add, kAug_sub, Isa, MkT, comp_eq, for_eq, lst_eq_nil, BEq.rfl, hq]
  | succ n ih =>
    intro k d st h hn hk
    obtain ⟨k, rfl⟩ : ∃ k', k = k' + 1 := ⟨k - 1, by omega⟩
    have hq : cmpD st .Eq d d = some true := deq_self h hn
    rw [call_eq ht rfl]
    cases d
    case loc => simp [wid] at h
    case frz => simp [wid] at h
    case tup ds =>
      simp only [wid] at h
      have hcall : ∀ i : Nat, i < ds.length → ∃ x, atI ds i = some x ∧ callN cst turns tab (k + 1) "_law_like" [x, x] st = some (.bl true, st) := fun i hi =>
        ⟨ds[i], atI_nat (List.getElem?_eq_getElem hi), ih (h.2 _ (List.getElem_mem hi)) (by omega) (by omega)⟩
      simp only [d_law_like, List.map_cons, List.map_nil, List.length_cons, List.length_nil, Nat.reduceAdd, Nat.reduceSub, Nat.reduceLT, List.replicate, List.cons_append, List.nil_append, Go, Ev1, Ev2, Ev3, Ex1, Ex2, Pl, Val1, set_name, kSet_name, kSet_tup, stTs_name, stTs_nil, setAll_cons, evl_cons, Sx, List.getElem?_cons_zero, List.getElem?_cons_succ, List.set_cons_zero, List.set_cons_succ, Option.map_some, Option.bind_some, decide_eq_true_eq, if_true, if_false, Bool.false_eq_true, asO_some, asO_no, noneX_t, noneX_i, noneX_v, noneX_n, kAug_add, kAug_sub, Isa, MkT, comp_eq, for_eq, lst_eq_nil, BEq.rfl, Bool.not_true, lim_len h.1]
      rw [compLoop_nil fun d hd => ?_]
      · rfl
      · obtain ⟨i, hi, rfl⟩ := rangeD_mem hd
        obtain ⟨x, hx, hc⟩ := hcall i hi
        rw [one1_name (by show (2 : Nat) < 3; decide)]
        simp only [wipeE, List.map_cons, List.map_nil, List.length_cons, List.length_nil, Nat.reduceAdd, Nat.reduceSub, Nat.reduceLT, List.replicate, List.cons_append, List.nil_append, Go, Ev1, Ev2, Ev3, Ex1, Ex2, Pl, Val1, set_name, kSet_name, kSet_tup, stTs_name, stTs_nil, setAll_cons, evl_cons, Sx, List.getElem?_cons_zero, List.getElem?_cons_succ, List.set_cons_zero, List.set_cons_succ, Option.map_some, Option.bind_some, decide_eq_true_eq, if_true, if_false, Bool.false_eq_true, asO_some, asO_no, noneX_t, noneX_i, noneX_v, noneX_n, kAug_add, kAug_sub, Isa, MkT, comp_eq, for_eq, lst_eq_nil, BEq.rfl, hx, hc, kBl_bl, Bool.not_true]
    case lst ds =>
      simp only [wid] at h
      have hcall : ∀ i : Nat, i < ds.length → ∃ x, atI ds i = some x ∧ callN cst turns tab (k + 1) "_law_like" [x, x] st = some (.bl true, st) := fun i hi =>
        ⟨ds[i], atI_nat (List.getElem?_eq_getElem hi), ih (h.2 _ (List.getElem_mem hi)) (by omega) (by omega)⟩
      simp only [d_law_like, List.map_cons, List.map_nil, List.length_cons, List.length_nil, Nat.reduceAdd, Nat.reduceSub, Nat.reduceLT, List.replicate, List.cons_append, List.nil_append, Go, Ev1, Ev2, Ev3, Ex1, Ex2, Pl, Val1, set_name, kSet_name, kSet_tup, stTs_name, stTs_nil, setAll_cons, evl_cons, Sx, List.getElem?_cons_zero, List.getElem?_cons_succ, List.set_cons_zero, List.set_cons_succ, Option.map_some, Option.bind_some, decide_eq_true_eq, if_true, if_false, Bool.false_eq_true, asO_some, asO_no, noneX_t, noneX_i, noneX_v, noneX_n, kAug_add, kAug_sub, Isa, MkT, comp_eq, for_eq, lst_eq_nil, BEq.rfl, Bool.not_true, lim_len h.1]
      rw [compLoop_nil fun d hd => ?_]
      · rfl
      · obtain ⟨i, hi, rfl⟩ := rangeD_mem hd
        obtain ⟨x, hx, hc⟩ := hcall i hi
        rw [one1_name (by show (2 : Nat) < 3; decide)]
        simp only [wipeE, List.map_cons, List.map_nil, List.length_cons, List.length_nil, Nat.reduceAdd, Nat.reduceSub, Nat.reduceLT, List.replicate, List.cons_append, List.nil_append, Go, Ev1, Ev2, Ev3, Ex1, Ex2, Pl, Val1, set_name, kSet_name, kSet_tup, stTs_name, stTs_nil, setAll_cons, evl_cons, Sx, List.getElem?_cons_zero, List.getElem?_cons_succ, List.set_cons_zero, List.set_cons_succ, Option.map_some, Option.bind_some, decide_eq_true_eq, if_true, if_false, Bool.false_eq_true, asO_some, asO_no, noneX_t, noneX_i, noneX_v, noneX_n, kAug_add, kAug_sub, Isa, MkT, comp_eq, for_eq, lst_eq_nil, BEq.rfl, hx, hc, kBl_bl, Bool.not_true]
    all_goals simp only [d_law_like, List.map_cons, List.map_nil, List.length_cons, List.length_nil, Nat.reduceAdd, Nat.reduceSub, Nat.reduceLT, List.replicate, List.cons_append, List.nil_append, Go, Ev1, Ev2, Ev3, Ex1, Ex2, Pl, Val1, set_name, kSet_name, kSet_tup, stTs_name, stTs_nil, setAll_cons, evl_cons, Sx, List.getElem?_cons_zero, List.getElem?_cons_succ, List.set_cons_zero, List.set_cons_succ, Option.map_some, Option.bind_some, decide_eq_true_eq, if_true, if_false, Bool.false_eq_true, asO_some, asO_no, noneX_t, noneX_i, noneX_v, noneX_n, kAug_add, kAug_sub, Isa, MkT, comp_eq, for_eq, lst_eq_nil, BEq.rfl, hq]
/-! ### rules, sizes, places -/
structure Rule where
  s : Bool
  e : Bool
  r : Bool
  m : Nat
  b : Bool
  deriving DecidableEq
def corner : Bool → Bool → Str
  | false, true => "ne"
  | false, false => "nw"
  | true, true => "se"
  | true, false => "sw"
def wayS (r : Bool) : Str := if r = true then "rows" else "columns"
def memS : Nat → Str
  | 0 => "next"
  | 1 => "stay"
  | _ => "swap"
def ruleD (r : Rule) : D := .tup [.str (corner r.s r.e), .str (wayS r.r), .str (memS r.m), .bl r.b]
def sizeD (R C : Int) : D := .tup [.int R, .int C]
theorem RuleE : (∀ (r : Rule) (st : Store), subD st (ruleD r) (.int 0) = some (.str (corner r.s r.e))) ∧ (∀ (r : Rule) (st : Store), subD st (ruleD r) (.int 1) = some (.str (wayS r.r))) ∧ (∀ (r : Rule) (st : Store), subD st (ruleD r) (.int 2) = some (.str (memS r.m))) ∧ (∀ (r : Rule) (st : Store), subD st (ruleD r) (.int 3) = some (.bl r.b)) ∧
    (∀ (s e : Bool) (st : Store), memD st (.str "s") (.str (corner s e)) = some s) ∧ (∀ (s e : Bool) (st : Store), memD st (.str "e") (.str (corner s e)) = some e) ∧
    (∀ (s e : Bool) (st : Store), subD st (.str (corner s e)) (.int 0) = some (.str (if s = true then "s" else "n"))) ∧ (∀ (s e : Bool) (st : Store), subD st (.str (corner s e)) (.int 1) = some (.str (if e = true then "e" else "w"))) ∧
    (∀ (r : Bool), (wayS r == ("rows" : Str)) = r) ∧ (∀ (s : Bool), ((if s = true then ("s" : Str) else "n") == ("n" : Str)) = (!s)) ∧ (∀ (s : Bool), ((if s = true then ("e" : Str) else "w") == ("w" : Str)) = (!s)) ∧ (("n" : Str) == ("n" : Str)) = true ∧ (("s" : Str) == ("n" : Str)) = false ∧ (("w" : Str) == ("w" : Str)) = true ∧ (("e" : Str) == ("w" : Str)) = false ∧
    (∀ (R C : Int) (st : Store), subD st (sizeD R C) (.int 0) = some (.int R)) ∧ (∀ (R C : Int) (st : Store), subD st (sizeD R C) (.int 1) = some (.int C)) := by
  refine ⟨fun _ _ => rfl, fun _ _ => rfl, fun _ _ => rfl, fun _ _ => rfl, ?_, ?_, ?_, ?_, ?_, ?_, ?_, rfl, rfl, rfl, rfl, fun _ _ _ => rfl, fun _ _ _ => rfl⟩
  · intro s e st; cases s <;> cases e <;> rfl
  · intro s e st; cases s <;> cases e <;> rfl
  · intro s e st; cases s <;> cases e <;> rfl
  · intro s e st; cases s <;> cases e <;> rfl
  · intro r; cases r <;> rfl
  · intro r; cases r <;> rfl
  · intro r; cases r <;> rfl
theorem RuleQ : (∀ (R C : Int) (st : Store), cmpD st .Eq (sizeD R C) (.tup [.int 1, .int 1]) = some (R == 1 && C == 1)) ∧ (∀ (r : Rule) (st : Store), sliceD (ruleD r) none (some 2) st = some (.tup [.str (corner r.s r.e), .str (wayS r.r)], st)) ∧
    (∀ (a b c d : Str) (st : Store), cmpD st .Eq (.tup [.str a, .str b]) (.tup [.str c, .str d]) = some (a == c && b == d)) ∧ (∀ (s e s' e' : Bool), (corner s e == corner s' e') = (s == s' && e == e')) ∧ (∀ (s s' : Bool), (wayS s == wayS s') = (s == s')) ∧
    (∀ (R C : Int) (st : Store), memD st (.int 1) (sizeD R C) = some (R == 1 || C == 1)) ∧ (∀ (s t : Bool), ((if s = true then ("s" : Str) else "n") == (if t = true then ("s" : Str) else "n")) = (s == t)) ∧ (∀ (s t : Bool), ((if s = true then ("e" : Str) else "w") == (if t = true then ("e" : Str) else "w")) = (s == t)) := by
  refine ⟨?_, ?_, ?_, ?_, ?_, ?_, ?_, ?_⟩
  · intro R C st; simp [cmpD, deq, pure1, sizeD, D.ok, D.okL, D.eq, D.eqL]
  · intro r st; rfl
  · intro a b c d st; simp [cmpD, deq, pure1, D.ok, D.okL, D.eq, D.eqL]
  · intro s e s' e'; cases s <;> cases e <;> cases s' <;> cases e' <;> rfl
  · intro s s'; cases s <;> cases s' <;> rfl
  · intro R C st; simp [memD, sizeD, flatD, D.eq]
  · intro s s'; cases s <;> cases s' <;> rfl
  · intro s s'; cases s <;> cases s' <;> rfl
section
variable {cst : Str → Option D} {turns : Nat} {tab : Str → Option Def} {k n : Nat} {st st0 : Store} {cells : List Int} {b : Int}
/-- the tape at its place, at most b cells read; all else as in st0 -/
def Tp (cells : List Int) (n : Nat) (b : Int) (st0 st : Store) : Prop := (∃ i c, tapeAt st n cells i c ∧ 0 ≤ i ∧ i ≤ b) ∧ st.length = st0.length ∧ ∀ m, m ≠ n → st[m]? = st0[m]?
theorem Tp.mono {b' : Int} (h : Tp cells n b st0 st) (hb : b ≤ b') : Tp cells n b' st0 st := by
  obtain ⟨⟨i, c, h1, h2, h3⟩, h4⟩ := h
  exact ⟨⟨i, c, h1, h2, by omega⟩, h4⟩
theorem draw (ht : tab "_law_draw" = some d_law_draw) {m : Int} (h : Tp cells n b st0 st) (hb : b ≤ 1000000000) (hm : 0 < m) (hm2 : m ≤ 2 ^ 200) :
    ∃ st' r, callN cst turns tab (k + 1) "_law_draw" [.loc n, .int m] st = some (.int r, st') ∧ (0 ≤ r ∧ r < m) ∧ Tp cells n (b + 1) st0 st' := by
  obtain ⟨⟨i, c, h1, h2, h3⟩, h4, h5⟩ := h
  have e9 : (1000000000 : Int) < 2 ^ 900 := by decide +kernel
  have e8 : (2 : Int) ^ 200 < 2 ^ 900 := by decide +kernel
  obtain ⟨i', c', r, q1, q2, q3, q4, q5⟩ := draw_ok (cst := cst) (turns := turns) (k := k) ht h1 h2 (by omega) hm (Int.lt_of_le_of_lt hm2 e8)
  have hn : n < st.length := (List.getElem?_eq_some_iff.mp h1).1
  refine ⟨_, r, q1, ⟨q2, q3⟩, ⟨i', c', List.getElem?_set_self hn, by omega, by omega⟩, by simpa using h4, fun m hm => ?_⟩
  rw [List.getElem?_set_ne (Ne.symm hm)]
  exact h5 m hm
theorem pick4 {r : Int} (h : 0 ≤ r ∧ r < 4) : ∃ s e, ∀ st, subD st (.lst [.str "ne", .str "nw", .str "se", .str "sw"]) (.int r) = some (.str (corner s e)) := by
  obtain ⟨h1, h2⟩ := h
  obtain rfl | rfl | rfl | rfl : r = 0 ∨ r = 1 ∨ r = 2 ∨ r = 3 := by omega
  · exact ⟨false, true, fun _ => rfl⟩
  · exact ⟨false, false, fun _ => rfl⟩
  · exact ⟨true, true, fun _ => rfl⟩
  · exact ⟨true, false, fun _ => rfl⟩
theorem pick2 {r : Int} (h : 0 ≤ r ∧ r < 2) : ∃ s, ∀ st, subD st (.lst [.str "columns", .str "rows"]) (.int r) = some (.str (wayS s)) := by
  obtain ⟨h1, h2⟩ := h
  obtain rfl | rfl : r = 0 ∨ r = 1 := by omega
  · exact ⟨false, fun _ => rfl⟩
  · exact ⟨true, fun _ => rfl⟩
theorem pick3 {r : Int} (h : 0 ≤ r ∧ r < 3) : ∃ m, m < 3 ∧ ∀ st, subD st (.lst [.str "next", .str "stay", .str "swap"]) (.int r) = some (.str (memS m)) := by
  obtain ⟨h1, h2⟩ := h
  obtain rfl | rfl | rfl : r = 0 ∨ r = 1 ∨ r = 2 := by omega
  · exact ⟨0, by decide, fun _ => rfl⟩
  · exact ⟨1, by decide, fun _ => rfl⟩
  · exact ⟨2, by decide, fun _ => rfl⟩
theorem rule (ht : tab "_law_draw" = some d_law_draw) (ht2 : tab "_law_rule" = some d_law_rule) (h : Tp cells n b st0 st) (hb : b ≤ 999999990) :
    ∃ st' r, callN cst turns tab (k + 2) "_law_rule" [.loc n] st = some (ruleD r, st') ∧ r.m < 3 ∧ Tp cells n (b + 4) st0 st' := by
  obtain ⟨st1, r1, e1, q1, t1⟩ := draw (cst := cst) (turns := turns) (k := k) (m := 4) ht h (by omega) (by decide) (by decide)
  obtain ⟨st2, r2, e2, q2, t2⟩ := draw (cst := cst) (turns := turns) (k := k) (m := 2) ht t1 (by omega) (by decide) (by decide)
  obtain ⟨st3, r3, e3, q3, t3⟩ := draw (cst := cst) (turns := turns) (k := k) (m := 3) ht t2 (by omega) (by decide) (by decide)
  obtain ⟨st4, r4, e4, q4, t4⟩ := draw (cst := cst) (turns := turns) (k := k) (m := 2) ht t3 (by omega) (by decide) (by decide)
  obtain ⟨s, e, p1⟩ := pick4 q1
  obtain ⟨w, p2⟩ := pick2 q2
  obtain ⟨m, hm, p3⟩ := pick3 q3
  refine ⟨st4, ⟨s, e, w, m, r4 == 0⟩, ?_, hm, t4.mono (by omega)⟩
  rw [call_eq ht2 rfl]
  simp only [d_law_rule, p1, p2, p3, List.map_cons, List.map_nil, List.length_cons, List.length_nil, Nat.reduceAdd, Nat.reduceSub, Nat.reduceLT, List.replicate, List.cons_append, List.nil_append, Go, Ev1, Ev2, Ev3, Ex1, Ex2, Pl, Val1, set_name, kSet_name, kSet_tup, stTs_name, stTs_nil, setAll_cons, evl_cons, Sx, List.getElem?_cons_zero, List.getElem?_cons_succ, List.set_cons_zero, List.set_cons_succ, Option.map_some, Option.bind_some, decide_eq_true_eq, if_true, if_false, Bool.false_eq_true, asO_some, asO_no, noneX_t, noneX_i, noneX_v, noneX_n, kAug_add, kAug_sub, Isa, MkT, comp_eq, for_eq, lst_eq_nil, BEq.rfl, e1, e2, e3, e4, p1, p2, p3]
  rfl
theorem size (ht : tab "_law_draw" = some d_law_draw) (ht2 : tab "_law_size" = some d_law_size) {m : Int} (h : Tp cells n b st0 st) (hb : b ≤ 999999990) (hm : 0 < m) (hm2 : m ≤ 2 ^ 200) :
    ∃ st' R C, callN cst turns tab (k + 2) "_law_size" [.loc n, .int m] st = some (sizeD R C, st') ∧ (1 ≤ R ∧ R ≤ m) ∧ (1 ≤ C ∧ C ≤ m) ∧ Tp cells n (b + 2) st0 st' := by
  obtain ⟨st1, r1, e1, q1, t1⟩ := draw (cst := cst) (turns := turns) (k := k) (m := m) ht h (by omega) hm hm2
  obtain ⟨st2, r2, e2, q2, t2⟩ := draw (cst := cst) (turns := turns) (k := k) (m := m) ht t1 (by omega) hm hm2
  refine ⟨st2, 1 + r1, 1 + r2, ?_, by omega, by omega, t2.mono (by omega)⟩
  rw [call_eq ht2 rfl]
  simp only [d_law_size, List.map_cons, List.map_nil, List.length_cons, List.length_nil, Nat.reduceAdd, Nat.reduceSub, Nat.reduceLT, List.replicate, List.cons_append, List.nil_append, Go, Ev1, Ev2, Ev3, Ex1, Ex2, Pl, Val1, set_name, kSet_name, kSet_tup, stTs_name, stTs_nil, setAll_cons, evl_cons, Sx, List.getElem?_cons_zero, List.getElem?_cons_succ, List.set_cons_zero, List.set_cons_succ, Option.map_some, Option.bind_some, decide_eq_true_eq, if_true, if_false, Bool.false_eq_true, asO_some, asO_no, noneX_t, noneX_i, noneX_v, noneX_n, kAug_add, kAug_sub, Isa, MkT, comp_eq, for_eq, lst_eq_nil, BEq.rfl, e1, e2]
  rfl
def spotV (r : Rule) (R C i : Int) : Int × Int :=
  let along := if r.r = true then C else R
  let p : Int × Int := if r.r = true then (i.fdiv along, i.fmod along) else (i.fmod along, i.fdiv along)
  (if r.s = true then R - 1 - p.1 else p.1, if r.e = true then C - 1 - p.2 else p.2)
def placeD (p : Int × Int) : D := .tup [.int p.1, .int p.2]
theorem PlaceE : (∀ (p : Int × Int) (st : Store), subD st (placeD p) (.int 0) = some (.int p.1)) ∧ (∀ (p : Int × Int) (st : Store), subD st (placeD p) (.int 1) = some (.int p.2)) := ⟨fun _ _ => rfl, fun _ _ => rfl⟩
theorem spot (ht : tab "_law_spot" = some d_law_spot) {r : Rule} {R C i : Int} (hR : 0 < R ∧ R < 2 ^ 900) (hC : 0 < C ∧ C < 2 ^ 900) : callN cst turns tab (k + 1) "_law_spot" [ruleD r, sizeD R C, .int i] st = some (placeD (spotV r R C i), st) := by
  have hR0 : R ≠ 0 := by omega
  have hC0 : C ≠ 0 := by omega
  have hR1 := lt900 (Int.le_of_lt hR.1) hR.2
  have hC1 := lt900 (Int.le_of_lt hC.1) hC.2
  rw [call_eq ht rfl]
  obtain ⟨s, e, w, m, b⟩ := r
  cases w <;> cases s <;> cases e <;> simp only [d_law_spot, RuleE, List.map_cons, List.map_nil, List.length_cons, List.length_nil, Nat.reduceAdd, Nat.reduceSub, Nat.reduceLT, List.replicate, List.cons_append, List.nil_append, Go, Ev1, Ev2, Ev3, Ex1, Ex2, Pl, Val1, set_name, kSet_name, kSet_tup, stTs_name, stTs_nil, setAll_cons, evl_cons, Sx, List.getElem?_cons_zero, List.getElem?_cons_succ, List.set_cons_zero, List.set_cons_succ, Option.map_some, Option.bind_some, decide_eq_true_eq, if_true, if_false, Bool.false_eq_true, asO_some, asO_no, noneX_t, noneX_i, noneX_v, noneX_n, kAug_add, kAug_sub, Isa, MkT, comp_eq, for_eq, lst_eq_nil, BEq.rfl, fdiv_ok hR0 hR1, fdiv_ok hC0 hC1, fmod_ok hR0, fmod_ok hC0] <;> rfl
theorem cell_at (ht : tab "cell_at" = some d_cell_at) {r : Rule} {R C i : Int} (hR : 0 < R ∧ R < 2 ^ 900) (hC : 0 < C ∧ C < 2 ^ 900) : callN cst turns tab (k + 1) "cell_at" [ruleD r, sizeD R C, .int i] st = some (placeD (spotV r R C i), st) := by
  have hR0 : R ≠ 0 := by omega
  have hC0 : C ≠ 0 := by omega
  have hR1 := lt900 (Int.le_of_lt hR.1) hR.2
  have hC1 := lt900 (Int.le_of_lt hC.1) hC.2
  rw [call_eq ht rfl]
  obtain ⟨s, e, w, m, b⟩ := r
  have e1 : sizeD R C = .tup [.int R, .int C] := rfl
  rw [e1]
  cases w <;> cases s <;> cases e <;> simp only [d_cell_at, RuleE, List.map_cons, List.map_nil, List.length_cons, List.length_nil, Nat.reduceAdd, Nat.reduceSub, Nat.reduceLT, List.replicate, List.cons_append, List.nil_append, Go, Ev1, Ev2, Ev3, Ex1, Ex2, Pl, Val1, set_name, kSet_name, kSet_tup, stTs_name, stTs_nil, setAll_cons, evl_cons, Sx, List.getElem?_cons_zero, List.getElem?_cons_succ, List.set_cons_zero, List.set_cons_succ, Option.map_some, Option.bind_some, decide_eq_true_eq, if_true, if_false, Bool.false_eq_true, asO_some, asO_no, noneX_t, noneX_i, noneX_v, noneX_n, kAug_add, kAug_sub, Isa, MkT, comp_eq, for_eq, lst_eq_nil, BEq.rfl, fdiv_ok hR0 hR1, fdiv_ok hC0 hC1, fmod_ok hR0, fmod_ok hC0, Bool.not_false, Bool.not_true] <;> rfl
def numV (r : Rule) (R C : Int) (p : Int × Int) : Int :=
  let row := if r.s = true then R - 1 - p.1 else p.1
  let col := if r.e = true then C - 1 - p.2 else p.2
  if r.r = true then row * C + col else col * R + row
theorem lt901 {R x : Int} (hR : 0 < R ∧ R < 2 ^ 900) (hx : -(2 ^ 900) < x ∧ x < 2 ^ 900) : x.natAbs < 2 ^ 1000 ∧ (R - 1 - x).natAbs < 2 ^ 1000 := by
  have : (2 : Int) ^ 900 + 2 ^ 900 + 2 ^ 900 ≤ ((2 ^ 1000 : Nat) : Int) := by decide +kernel
  omega
theorem index_of (ht : tab "index_of" = some d_index_of) {r : Rule} {R C : Int} {p : Int × Int} (hR : 0 < R ∧ R < 2 ^ 900) (hC : 0 < C ∧ C < 2 ^ 900) (h1 : -(2 ^ 900) < p.1 ∧ p.1 < 2 ^ 900) (h2 : -(2 ^ 900) < p.2 ∧ p.2 < 2 ^ 900) :
    callN cst turns tab (k + 1) "index_of" [ruleD r, sizeD R C, placeD p] st = some (.int (numV r R C p), st) := by
  have hR1 := lt900 (Int.le_of_lt hR.1) hR.2
  have hC1 := lt900 (Int.le_of_lt hC.1) hC.2
  have p1 := lt901 hR h1
  have p2 := lt901 hC h2
  rw [call_eq ht rfl]
  obtain ⟨s, e, w, m, b⟩ := r
  have e1 : sizeD R C = .tup [.int R, .int C] := rfl
  rw [e1]
  cases w <;> cases s <;> cases e <;> simp only [d_index_of, RuleE, PlaceE, List.map_cons, List.map_nil, List.length_cons, List.length_nil, Nat.reduceAdd, Nat.reduceSub, Nat.reduceLT, List.replicate, List.cons_append, List.nil_append, Go, Ev1, Ev2, Ev3, Ex1, Ex2, Pl, Val1, set_name, kSet_name, kSet_tup, stTs_name, stTs_nil, setAll_cons, evl_cons, Sx, List.getElem?_cons_zero, List.getElem?_cons_succ, List.set_cons_zero, List.set_cons_succ, Option.map_some, Option.bind_some, decide_eq_true_eq, if_true, if_false, Bool.false_eq_true, asO_some, asO_no, noneX_t, noneX_i, noneX_v, noneX_n, kAug_add, kAug_sub, Isa, MkT, comp_eq, for_eq, lst_eq_nil, BEq.rfl, mult_ok p1.1 hC1, mult_ok p1.2 hC1, mult_ok p2.1 hR1, mult_ok p2.2 hR1, Bool.not_false, Bool.not_true] <;> rfl
theorem list_frz {ns : List Int} (h : ns.length ≤ 63) : biD .list false [.frz ns] st = some (.lst (ns.map D.int), st) := by
  show mkL false (ns.map D.int) st = _
  exact mkL_f (by rw [List.length_map]; exact Nat.le_trans h (by decide))
theorem tape0 {a b c : D} : mkL true [a, b, c] ([] : Store) = some (.loc 0, [.lst [a, b, c]]) := mkL_t (by simp [sizeLine])
theorem Tp.start {ns : List Int} : Tp ns 0 0 [.lst [.lst (ns.map D.int), .int 0, .int 0]] [.lst [.lst (ns.map D.int), .int 0, .int 0]] := ⟨⟨0, 0, rfl, Int.le_refl _, Int.le_refl _⟩, rfl, fun _ _ => rfl⟩
def places (r : Rule) (R C : Int) : List D := (List.range (R * C).toNat).map fun (i : Nat) => placeD (spotV r R C i)
theorem range_map {g : D → D} {f : Int → D} {n : Int} (hg : ∀ i, g (.int i) = f i) : (rangeD 0 n).map g = (List.range n.toNat).map fun (i : Nat) => f i := by
  unfold rangeD
  rw [List.map_map, Int.sub_zero]
  refine List.map_congr_left fun i _ => ?_
  show g (.int (0 + i)) = f i
  rw [hg, Int.zero_add]
def onI (f : Int → D) : D → D
  | .int i => f i
  | _ => .non
/-- a comprehension over a range, each item its value -/
theorem comp_range {one : D → Store → Option (List D × Store)} {f : Int → D} {n : Int} (hn : n ≤ 1000000) (h : ∀ i : Int, 0 ≤ i → i < n → one (.int i) st = some ([f i], st)) : endC (compLoop none one (rangeD 0 n) st) = some (.lst ((List.range n.toNat).map fun (i : Nat) => f i), st) := by
  rw [compLoop_map (onI f) fun d hd => ?_, range_map (f := f) fun i => rfl]
  · refine endC_ok ?_
    rw [List.length_map, List.length_range]
    exact Nat.le_trans (by omega : n.toNat ≤ 1000000) (by decide)
  · unfold rangeD at hd
    obtain ⟨i, hi, rfl⟩ := List.mem_map.mp hd
    have := List.mem_range.mp hi
    exact h _ (by omega) (by omega)
theorem lim_of {i : Int} (h : -1000000000000000000 ≤ i) (h2 : i ≤ 1000000000000000000) : lim62 i = true := decide_eq_true ⟨by omega, by omega⟩
end
/-! ### places and indices -/
def bodyOf : S → List S
  | .for_ _ _ b => b
  | _ => []
theorem big_of {x : Int} (h : 0 < x) (h2 : x ≤ 1000000000000000000000000000000) : 0 < x ∧ x < 2 ^ 900 := ⟨h, Int.lt_of_le_of_lt h2 (by decide +kernel)⟩
theorem big_in {x : Int} (h : -1000000000000000000000000000000 ≤ x) (h2 : x ≤ 1000000000000000000000000000000) : -(2 ^ 900) < x ∧ x < 2 ^ 900 := ⟨Int.lt_of_lt_of_le (by decide +kernel) h, Int.lt_of_le_of_lt h2 (by decide +kernel)⟩
theorem ediv_rng {i A B : Int} (hA : 0 < A) (hi : 0 ≤ i) (h : i < B * A) : 0 ≤ i / A ∧ i / A < B ∧ 0 ≤ i % A ∧ i % A < A ∧ i / A * A + i % A = i := by
  refine ⟨Int.ediv_nonneg hi (Int.le_of_lt hA), (Int.ediv_lt_iff_lt_mul hA).mpr h, Int.emod_nonneg _ (Int.ne_of_gt hA), Int.emod_lt_of_pos _ hA, ?_⟩
  have := Int.mul_ediv_add_emod i A
  rw [Int.mul_comm] at this
  exact this
theorem spot_rng {r : Rule} {R C i : Int} (hR : 0 < R) (hC : 0 < C) (hi : 0 ≤ i) (h : i < R * C) : (0 ≤ (spotV r R C i).1 ∧ (spotV r R C i).1 < R) ∧ (0 ≤ (spotV r R C i).2 ∧ (spotV r R C i).2 < C) := by
  obtain ⟨s, e, w, m, b⟩ := r
  cases w
  · obtain ⟨q1, q2, q3, q4, q5⟩ := ediv_rng hR hi (by rw [Int.mul_comm]; exact h)
    cases s <;> cases e <;> simp only [spotV, Bool.false_eq_true, if_false, if_true, Int.fdiv_eq_ediv_of_nonneg _ (Int.le_of_lt hR), Int.fmod_eq_emod_of_nonneg _ (Int.le_of_lt hR)] <;> omega
  · obtain ⟨q1, q2, q3, q4, q5⟩ := ediv_rng hC hi h
    cases s <;> cases e <;> simp only [spotV, Bool.false_eq_true, if_false, if_true, Int.fdiv_eq_ediv_of_nonneg _ (Int.le_of_lt hC), Int.fmod_eq_emod_of_nonneg _ (Int.le_of_lt hC)] <;> omega
theorem num_spot {r : Rule} {R C i : Int} (hR : 0 < R) (hC : 0 < C) (hi : 0 ≤ i) (h : i < R * C) : numV r R C (spotV r R C i) = i := by
  obtain ⟨s, e, w, m, b⟩ := r
  cases w
  · obtain ⟨q1, q2, q3, q4, q5⟩ := ediv_rng hR hi (by rw [Int.mul_comm]; exact h)
    have f1 : ∀ x : Int, C - 1 - (C - 1 - x) = x := fun x => by omega
    have f2 : ∀ x : Int, R - 1 - (R - 1 - x) = x := fun x => by omega
    cases s <;> cases e <;> simp only [numV, spotV, Bool.false_eq_true, if_false, if_true, Int.fdiv_eq_ediv_of_nonneg _ (Int.le_of_lt hR), Int.fmod_eq_emod_of_nonneg _ (Int.le_of_lt hR), f1, f2, q5]
  · obtain ⟨q1, q2, q3, q4, q5⟩ := ediv_rng hC hi h
    have f1 : ∀ x : Int, C - 1 - (C - 1 - x) = x := fun x => by omega
    have f2 : ∀ x : Int, R - 1 - (R - 1 - x) = x := fun x => by omega
    cases s <;> cases e <;> simp only [numV, spotV, Bool.false_eq_true, if_false, if_true, Int.fdiv_eq_ediv_of_nonneg _ (Int.le_of_lt hC), Int.fmod_eq_emod_of_nonneg _ (Int.le_of_lt hC), f1, f2, q5]
theorem places_len {r : Rule} {R C : Int} : (places r R C).length = (R * C).toNat := by simp [places]
theorem ne_self {st : Store} {n : Nat} {d : D} (h : wid n d) (hn : n ≤ 20) : cmpD st .NotEq d d = some false := by
  show (deq st d d).map not = _
  rw [deq_self h hn]; rfl
theorem wid_place {n : Nat} {p : Int × Int} : wid (n + 1) (placeD p) := ⟨by simp, fun d hd => by
  simp only [List.mem_cons, List.not_mem_nil, or_false] at hd
  rcases hd with rfl | rfl <;> simp [wid]⟩
theorem wid_places {n : Nat} {r : Rule} {R C : Int} (h : R * C ≤ 1000000) : wid (n + 2) (.lst (places r R C)) := ⟨by rw [places_len]; omega, fun d hd => by
  obtain ⟨i, _, rfl⟩ := List.mem_map.mp hd
  exact wid_place⟩
theorem wid_ints {n : Nat} {f : Nat → Int} {m : Nat} (h : m ≤ 1000000) : wid (n + 1) (.lst ((List.range m).map fun i => .int (f i))) := ⟨by simpa using h, fun d hd => by
  obtain ⟨i, _, rfl⟩ := List.mem_map.mp hd
  simp [wid]⟩
theorem rangeD_eq {n : Int} : rangeD 0 n = (List.range n.toNat).map fun (i : Nat) => .int i := by
  unfold rangeD
  rw [Int.sub_zero]
  refine List.map_congr_left fun i _ => ?_
  rw [Int.zero_add]
theorem wid_range {n : Nat} {m : Int} (h : m ≤ 1000000) : wid (n + 1) (.lst (rangeD 0 m)) := by
  rw [rangeD_eq]
  exact wid_ints (by omega)
theorem mul_le {R C a b : Int} (hR : 0 < R ∧ R ≤ a) (hC : 0 < C ∧ C ≤ b) : 0 < R * C ∧ R * C ≤ a * b := ⟨Int.mul_pos hR.1 hC.1, Int.mul_le_mul hR.2 hC.2 (Int.le_of_lt hC.1) (by omega)⟩
/-- a comprehension over a list, each item its value -/
theorem comp_list {st : Store} {one : D → Store → Option (List D × Store)} {g : D → D} {ds : List D} (hn : ds.length ≤ 1000000) (h : ∀ d ∈ ds, one d st = some ([g d], st)) : endC (compLoop none one ds st) = some (.lst (ds.map g), st) := by
  rw [compLoop_map g h]
  refine endC_ok ?_
  rw [List.length_map]
  exact Nat.le_trans hn (by decide)
theorem loop_map {α : Type} {st : Store} {one : D → Store → Option (List D × Store)} {F G : α → D} : ∀ {is : List α}, (∀ i ∈ is, one (F i) st = some ([G i], st)) → compLoop none one (is.map F) st = some (is.map G, st)
  | [], _ => rfl
  | i :: is, h => by
    have ih := loop_map (fun j hj => h j (List.mem_cons_of_mem i hj))
    show (if guardOk none st = true then (one (F i) st).bind fun r => (compLoop none one (is.map F) r.2).bind fun q => some (r.1 ++ q.1, q.2) else none) = _
    rw [if_pos (show guardOk none st = true from rfl), h i List.mem_cons_self]
    show ((compLoop none one (is.map F) st).bind fun q => some ([G i] ++ q.1, q.2)) = _
    rw [ih]
    rfl
theorem comp_map {α : Type} {st : Store} {one : D → Store → Option (List D × Store)} {F G : α → D} {is : List α} (hn : is.length ≤ 1000000) (h : ∀ i ∈ is, one (F i) st = some ([G i], st)) : endC (compLoop none one (is.map F) st) = some (.lst (is.map G), st) := by
  rw [loop_map h]
  exact endC_ok (by rw [List.length_map]; exact Nat.le_trans hn (by decide))
theorem comp_places {st : Store} {one : D → Store → Option (List D × Store)} {r : Rule} {R C : Int} (hn : R * C ≤ 1000000) (h : ∀ i : Int, 0 ≤ i → i < R * C → one (.int i) st = some ([placeD (spotV r R C i)], st)) : endC (compLoop none one (rangeD 0 (R * C)) st) = some (.lst (places r R C), st) := comp_range (f := fun i => placeD (spotV r R C i)) hn h
theorem comp_back {st : Store} {one : D → Store → Option (List D × Store)} {r : Rule} {R C : Int} (hn : R * C ≤ 1000000) (h : ∀ i : Int, 0 ≤ i → i < R * C → one (placeD (spotV r R C i)) st = some ([.int i], st)) : endC (compLoop none one (places r R C) st) = some (.lst (rangeD 0 (R * C)), st) := by
  rw [rangeD_eq]
  exact comp_map (F := fun (i : Nat) => placeD (spotV r R C i)) (G := fun (i : Nat) => .int i) (by rw [List.length_range]; omega) fun i hi => by
    have := List.mem_range.mp hi
    exact h i (by omega) (by omega)
theorem lrange_ok {st : Store} {n : Int} (h : 0 ≤ n) (h2 : n ≤ 1000000) : (if 0 ≤ n ∧ n ≤ 1000000 then mkL false (rangeD 0 n) st else none) = some (.lst (rangeD 0 n), st) := by
  rw [if_pos ⟨h, h2⟩]
  exact mkL_f (by simp [rangeD, sizeLine]; omega)
/-! ### numbers of places -/
section
variable {cst : Str → Option D} {turns : Nat} {tab : Str → Option Def} {k : Nat} {st : Store}
theorem number (ht : tab "_law_number" = some d_law_number) {r : Rule} {R C : Int} {p : Int × Int} (hR : 0 < R ∧ R < 2 ^ 900) (hC : 0 < C ∧ C < 2 ^ 900) (h1 : -(2 ^ 900) < p.1 ∧ p.1 < 2 ^ 900) (h2 : -(2 ^ 900) < p.2 ∧ p.2 < 2 ^ 900) :
    callN cst turns tab (k + 1) "_law_number" [ruleD r, sizeD R C, placeD p] st = some (.int (numV r R C p), st) := by
  have hR1 := lt900 (Int.le_of_lt hR.1) hR.2
  have hC1 := lt900 (Int.le_of_lt hC.1) hC.2
  have p1 := lt901 hR h1
  have p2 := lt901 hC h2
  rw [call_eq ht rfl]
  obtain ⟨s, e, w, m, b⟩ := r
  cases w <;> cases s <;> cases e <;> simp only [d_law_number, RuleE, PlaceE, List.map_cons, List.map_nil, List.length_cons, List.length_nil, Nat.reduceAdd, Nat.reduceSub, Nat.reduceLT, List.replicate, List.cons_append, List.nil_append, Go, Ev1, Ev2, Ev3, Ex1, Ex2, Pl, Val1, set_name, kSet_name, kSet_tup, stTs_name, stTs_nil, setAll_cons, evl_cons, Sx, List.getElem?_cons_zero, List.getElem?_cons_succ, List.set_cons_zero, List.set_cons_succ, Option.map_some, Option.bind_some, decide_eq_true_eq, if_true, if_false, Bool.false_eq_true, asO_some, asO_no, noneX_t, noneX_i, noneX_v, noneX_n, kAug_add, kAug_sub, Isa, MkT, comp_eq, for_eq, lst_eq_nil, BEq.rfl, mult_ok p1.1 hC1, mult_ok p1.2 hC1, mult_ok p2.1 hR1, mult_ok p2.2 hR1, Bool.not_false, Bool.not_true] <;> rfl
/-- an index told in another order -/
def betweenV (o p : Rule) (R C i : Int) : Int := numV p R C (spotV o R C i)
theorem index_between (ht : tab "index_between" = some d_index_between) (t_cell : tab "cell_at" = some d_cell_at) (t_index : tab "index_of" = some d_index_of) {o p : Rule} {R C i : Int} (hR : 0 < R ∧ R ≤ 1000000000000000000000000000000) (hC : 0 < C ∧ C ≤ 1000000000000000000000000000000) (hi : 0 ≤ i) (h : i < R * C) :
    callN cst turns tab (k + 2) "index_between" [ruleD o, ruleD p, sizeD R C, .int i] st = some (.int (betweenV o p R C i), st) := by
  have bR := big_of hR.1 hR.2
  have bC := big_of hC.1 hC.2
  have sr := spot_rng (r := o) (R := R) (C := C) (i := i) hR.1 hC.1 hi h
  have e1 := cell_at (cst := cst) (turns := turns) (k := k) (st := st) (r := o) (i := i) t_cell bR bC
  have e2 := index_of (cst := cst) (turns := turns) (k := k) (st := st) (r := p) (p := spotV o R C i) t_index bR bC (big_in (by omega) (by omega)) (big_in (by omega) (by omega))
  rw [call_eq ht rfl]
  simp only [d_index_between, List.map_cons, List.map_nil, List.length_cons, List.length_nil, Nat.reduceAdd, Nat.reduceSub, Nat.reduceLT, List.replicate, List.cons_append, List.nil_append, Go, Ev1, Ev2, Ev3, Ex1, Ex2, Pl, Val1, set_name, kSet_name, kSet_tup, stTs_name, stTs_nil, setAll_cons, evl_cons, Sx, List.getElem?_cons_zero, List.getElem?_cons_succ, List.set_cons_zero, List.set_cons_succ, Option.map_some, Option.bind_some, decide_eq_true_eq, if_true, if_false, Bool.false_eq_true, asO_some, asO_no, noneX_t, noneX_i, noneX_v, noneX_n, kAug_add, kAug_sub, Isa, MkT, comp_eq, for_eq, lst_eq_nil, BEq.rfl, e1, e2]
  rfl
end
theorem num_rng {r : Rule} {R C : Int} {p : Int × Int} (hR : 0 < R) (hC : 0 < C) (h1 : 0 ≤ p.1 ∧ p.1 < R) (h2 : 0 ≤ p.2 ∧ p.2 < C) : 0 ≤ numV r R C p ∧ numV r R C p < R * C := by
  have key : ∀ {a b A B : Int}, 0 < B → 0 ≤ a ∧ a < A → 0 ≤ b ∧ b < B → 0 ≤ a * B + b ∧ a * B + b < A * B := fun {a b A B} hB ha hb => by
    have q1 : 0 ≤ a * B := Int.mul_nonneg ha.1 (Int.le_of_lt hB)
    have q2 : (a + 1) * B ≤ A * B := Int.mul_le_mul_of_nonneg_right (by omega) (Int.le_of_lt hB)
    rw [Int.add_mul, Int.one_mul] at q2
    omega
  obtain ⟨s, e, w, m, b⟩ := r
  cases w
  · rw [Int.mul_comm]
    cases s <;> cases e <;> simp only [numV, Bool.false_eq_true, if_false, if_true] <;> exact key hR (by omega) (by omega)
  · cases s <;> cases e <;> simp only [numV, Bool.false_eq_true, if_false, if_true] <;> exact key hC (by omega) (by omega)
theorem spot_num {r : Rule} {R C : Int} {p : Int × Int} (hR : 0 < R) (hC : 0 < C) (h1 : 0 ≤ p.1 ∧ p.1 < R) (h2 : 0 ≤ p.2 ∧ p.2 < C) : spotV r R C (numV r R C p) = p := by
  have dm : ∀ {a b B : Int}, 0 < B → 0 ≤ b ∧ b < B → (a * B + b) / B = a ∧ (a * B + b) % B = b := fun {a b B} hB hb => by
    constructor
    · rw [Int.add_comm, Int.add_mul_ediv_right _ _ (Int.ne_of_gt hB), Int.ediv_eq_zero_of_lt hb.1 hb.2, Int.zero_add]
    · rw [Int.add_comm, Int.add_mul_emod_self_right, Int.emod_eq_of_lt hb.1 hb.2]
  obtain ⟨s, e, w, m, b⟩ := r
  obtain ⟨x, y⟩ := p
  simp only at h1 h2
  have f1 : ∀ x : Int, C - 1 - (C - 1 - x) = x := fun x => by omega
  have f2 : ∀ x : Int, R - 1 - (R - 1 - x) = x := fun x => by omega
  cases w <;> cases s <;> cases e <;> simp only [numV, spotV, Bool.false_eq_true, if_false, if_true, Int.fdiv_eq_ediv_of_nonneg _ (Int.le_of_lt hR), Int.fmod_eq_emod_of_nonneg _ (Int.le_of_lt hR), Int.fdiv_eq_ediv_of_nonneg _ (Int.le_of_lt hC), Int.fmod_eq_emod_of_nonneg _ (Int.le_of_lt hC)] <;>
    first
    | rw [(dm (a := y) (b := x) hR (by omega)).1, (dm (a := y) (b := x) hR (by omega)).2]
    | rw [(dm (a := x) (b := y) hC (by omega)).1, (dm (a := x) (b := y) hC (by omega)).2]
    | rw [(dm (a := C - 1 - y) (b := x) hR (by omega)).1, (dm (a := C - 1 - y) (b := x) hR (by omega)).2, f1]
    | rw [(dm (a := y) (b := R - 1 - x) hR (by omega)).1, (dm (a := y) (b := R - 1 - x) hR (by omega)).2, f2]
    | rw [(dm (a := C - 1 - y) (b := R - 1 - x) hR (by omega)).1, (dm (a := C - 1 - y) (b := R - 1 - x) hR (by omega)).2, f1, f2]
    | rw [(dm (a := R - 1 - x) (b := y) hC (by omega)).1, (dm (a := R - 1 - x) (b := y) hC (by omega)).2, f2]
    | rw [(dm (a := x) (b := C - 1 - y) hC (by omega)).1, (dm (a := x) (b := C - 1 - y) hC (by omega)).2, f1]
    | rw [(dm (a := R - 1 - x) (b := C - 1 - y) hC (by omega)).1, (dm (a := R - 1 - x) (b := C - 1 - y) hC (by omega)).2, f1, f2]
end QL

/-! QMod: what deeds do on a desk, in plain Lean. -/
namespace QL
open PySem PySem.Spec L2 Q

abbrev Pl := Int × Int
structure Ic where
  n : Str
  p : Option Pl
  w : Option Pl
  deriving DecidableEq
abbrev Ics := List Ic
structure Sta where
  R : Int
  C : Int
  is : Ics
  deriving DecidableEq
inductive Deed where
  | add (n : Str) | drop (n : Str) | put (n : Str) (a b : Int) | sort | size (a b : Int)
  deriving DecidableEq
def takenV (is : Ics) : List Pl := is.filterMap (·.p)
def namesV (is : Ics) : List Str := is.map (·.n)
def onV (R C : Int) : Option Pl → Bool
  | none => false
  | some p => decide (0 ≤ p.1 ∧ p.1 < R) && decide (0 ≤ p.2 ∧ p.2 < C)
/-- the first free place, looking at most so many times -/
def freeN (r : Rule) (R C : Int) (tk : List Pl) : Nat → Int → Option Pl
  | 0, _ => none
  | n + 1, i => if i < R * C then (if spotV r R C i ∈ tk then freeN r R C tk n (i + 1) else some (spotV r R C i)) else none
def freeV (r : Rule) (R C : Int) (tk : List Pl) (i : Int) : Option Pl := freeN r R C tk (tk.length + 1) i
/-- hidden icons come; the first ones are done -/
def fillV (r : Rule) (R C : Int) : Ics → Ics → Ics
  | done, [] => done
  | done, i :: rest => match i.p with
    | none => fillV r R C (done ++ [⟨i.n, freeV r R C (takenV (done ++ i :: rest)) 0, i.w⟩]) rest
    | some _ => fillV r R C (done ++ [i]) rest
def filledV (r : Rule) (R C : Int) (is : Ics) : Ics := fillV r R C [] is
def freeW (tk : List Pl) : Option Pl → Bool
  | none => true
  | some p => decide (p ∉ tk)
def callsB (R C : Int) (tk : List Pl) (i : Ic) : Bool := decide (i.p ≠ i.w) && onV R C i.w && freeW tk i.w
def back1 (R C : Int) (tk : List Pl) : Ics → Ics
  | [] => []
  | i :: rest => if callsB R C tk i = true then ⟨i.n, i.w, i.w⟩ :: rest else i :: back1 R C tk rest
def backV (R C : Int) (is : Ics) : Ics := back1 R C (takenV is) is
def iterB (R C : Int) : Nat → Ics → Ics
  | 0, is => is
  | n + 1, is => iterB R C n (backV R C is)
def cutV (R C : Int) (is : Ics) : Ics := is.map fun i => ⟨i.n, if onV R C i.p = true then i.p else none, i.w⟩
def moreV (R a : Int) : Int := if R + a > 1 then R + a else 1
def resizedV (r : Rule) (s : Sta) (a b : Int) : Sta :=
  ⟨moreV s.R a, moreV s.C b, filledV r (moreV s.R a) (moreV s.C b) (if r.b = true then iterB (moreV s.R a) (moreV s.C b) (2 * s.is.length + 1) (cutV (moreV s.R a) (moreV s.C b) s.is) else cutV (moreV s.R a) (moreV s.C b) s.is)⟩
def addedV (r : Rule) (s : Sta) (n : Str) : Sta := if n ∈ namesV s.is then s else ⟨s.R, s.C, s.is ++ [⟨n, freeV r s.R s.C (takenV s.is) 0, freeV r s.R s.C (takenV s.is) 0⟩]⟩
def dropN (n : Str) (is : Ics) : Ics := is.filter fun i => !decide (i.n = n)
def droppedV (r : Rule) (s : Sta) (n : Str) : Sta := ⟨s.R, s.C, filledV r s.R s.C (dropN n s.is)⟩
def wI (f : Str → Option (Option Pl)) (i : Ic) : Ic := match f i.n with
  | some p => ⟨i.n, p, p⟩
  | none => i
def withV (f : Str → Option (Option Pl)) (is : Ics) : Ics := is.map (wI f)
theorem wI_some {f : Str → Option (Option Pl)} {i : Ic} {p : Option Pl} (h : f i.n = some p) : wI f i = ⟨i.n, p, p⟩ := by unfold wI; rw [h]
theorem wI_none {f : Str → Option (Option Pl)} {i : Ic} (h : f i.n = none) : wI f i = i := by unfold wI; rw [h]
def ownV (n : Str) (is : Ics) : Ics := is.filter fun i => decide (i.n = n) && i.p.isSome
def thereV (n : Str) (q : Pl) (is : Ics) : Ics := is.filter fun i => decide (i.p = some q) && !decide (i.n = n)
def one1V (n : Str) (p : Option Pl) (x : Str) : Option (Option Pl) := if x = n then some p else none
def two2V (n : Str) (p : Option Pl) (m : Str) (q : Option Pl) (x : Str) : Option (Option Pl) := if x = n then some p else if x = m then some q else none
def putV (r : Rule) (s : Sta) (n : Str) (q : Pl) : Sta :=
  match ownV n s.is with
  | [] => s
  | own :: _ => if onV s.R s.C (some q) = true then (match thereV n q s.is with
      | [] => ⟨s.R, s.C, filledV r s.R s.C (withV (one1V n (some q)) s.is)⟩
      | t :: _ => if r.m = 2 then ⟨s.R, s.C, withV (two2V n (some q) t.n own.p) s.is⟩ else if r.m = 0 then (match freeV r s.R s.C (takenV s.is) (numV r s.R s.C q + 1) with
          | some f => ⟨s.R, s.C, filledV r s.R s.C (withV (one1V n (some f)) s.is)⟩
          | none => s) else s) else s
def ixS (x : Str) : List Str → Nat → Option Nat
  | [], _ => none
  | y :: ys, k => if y = x then some k else ixS x ys (k + 1)
def placeV (r : Rule) (R C : Int) (k : Nat) : Option Pl := if (k : Int) < R * C then some (spotV r R C k) else none
def sortF (r : Rule) (R C : Int) (ns : List Str) (x : Str) : Option (Option Pl) := (ixS x ns 0).map (placeV r R C)
def sortedV (r : Rule) (s : Sta) : Sta := ⟨s.R, s.C, withV (sortF r s.R s.C (sortS (namesV s.is))) s.is⟩
def afterV (r : Rule) (s : Sta) : Deed → Sta
  | .add n => addedV r s n
  | .drop n => droppedV r s n
  | .put n a b => putV r s n (a, b)
  | .sort => sortedV r s
  | .size a b => resizedV r s a b
def lastV (r : Rule) (s : Sta) (ds : List Deed) : Sta := ds.foldl (afterV r) s
/-! ### pigeons -/
theorem nodup_len {α : Type} [DecidableEq α] : ∀ {l m : List α}, l.Nodup → (∀ x ∈ l, x ∈ m) → l.length ≤ m.length
  | [], _, _, _ => Nat.zero_le _
  | x :: l, m, hn, hs => by
    have hx := hs x List.mem_cons_self
    rw [List.nodup_cons] at hn
    have q := nodup_len (l := l) (m := m.erase x) hn.2 fun y hy => (List.mem_erase_of_ne fun (e : y = x) => hn.1 (by rw [← e]; exact hy)).mpr (hs y (List.mem_cons_of_mem _ hy))
    rw [List.length_erase_of_mem hx] at q
    have : 0 < m.length := List.length_pos_of_mem hx
    rw [List.length_cons]; omega
theorem spot_inj {r : Rule} {R C i j : Int} (hR : 0 < R) (hC : 0 < C) (hi : 0 ≤ i ∧ i < R * C) (hj : 0 ≤ j ∧ j < R * C) (h : spotV r R C i = spotV r R C j) : i = j := by
  rw [← num_spot (r := r) hR hC hi.1 hi.2, h, num_spot hR hC hj.1 hj.2]
/-- a place to stop is near -/
theorem stop_near {r : Rule} {R C : Int} {tk : List Pl} {i : Int} (hR : 0 < R) (hC : 0 < C) (hi : 0 ≤ i) : ∃ j : Nat, j ≤ tk.length ∧ (¬ i + j < R * C ∨ spotV r R C (i + j) ∉ tk) := by
  refine Classical.byContradiction fun hno => ?_
  have all : ∀ j : Nat, j ≤ tk.length → i + j < R * C ∧ spotV r R C (i + j) ∈ tk := fun j hj => by
    refine ⟨Classical.byContradiction fun z => hno ⟨j, hj, .inl z⟩, Classical.byContradiction fun z => hno ⟨j, hj, .inr z⟩⟩
  have q := nodup_len (l := (List.range (tk.length + 1)).map fun (j : Nat) => spotV r R C (i + j)) (m := tk) ?_ ?_
  · rw [List.length_map, List.length_range] at q
    omega
  · refine List.pairwise_map.mpr (List.Pairwise.imp_of_mem ?_ List.nodup_range)
    intro a b ha hb hn e
    rw [List.mem_range] at ha hb
    have h1 := all a (by omega)
    have h2 := all b (by omega)
    have := spot_inj hR hC (i := i + a) (j := i + b) ⟨by omega, h1.1⟩ ⟨by omega, h2.1⟩ e
    exact hn (by omega)
  · intro x hx
    obtain ⟨j, hj, rfl⟩ := List.mem_map.mp hx
    rw [List.mem_range] at hj
    exact (all j (by omega)).2
/-- looking longer finds the same -/
theorem freeN_stop {r : Rule} {R C : Int} {tk : List Pl} : ∀ {j n m : Nat} {i : Int}, (¬ i + j < R * C ∨ spotV r R C (i + j) ∉ tk) → j < n → j < m → freeN r R C tk n i = freeN r R C tk m i := by
  intro j
  induction j with
  | zero =>
    intro n m i h hn hm
    obtain ⟨n, rfl⟩ : ∃ n', n = n' + 1 := ⟨n - 1, by omega⟩
    obtain ⟨m, rfl⟩ : ∃ m', m = m' + 1 := ⟨m - 1, by omega⟩
    simp only [freeN]
    have e : i + ((0 : Nat) : Int) = i := by omega
    rw [e] at h
    rcases h with h | h
    · rw [if_neg h, if_neg h]
    · rw [if_neg h, if_neg h]
  | succ j ih =>
    intro n m i h hn hm
    obtain ⟨n, rfl⟩ : ∃ n', n = n' + 1 := ⟨n - 1, by omega⟩
    obtain ⟨m, rfl⟩ : ∃ m', m = m' + 1 := ⟨m - 1, by omega⟩
    simp only [freeN]
    have e : i + ((j + 1 : Nat) : Int) = i + 1 + (j : Nat) := by omega
    rw [e] at h
    rw [ih (n := n) (m := m) h (by omega) (by omega)]
theorem freeN_eq {r : Rule} {R C : Int} {tk : List Pl} {n : Nat} {i : Int} (hR : 0 < R) (hC : 0 < C) (hi : 0 ≤ i) (hn : tk.length < n) : freeN r R C tk n i = freeV r R C tk i := by
  obtain ⟨j, h1, h2⟩ := stop_near (r := r) (tk := tk) hR hC hi
  exact freeN_stop h2 (by omega) (by omega)
theorem freeV_step {r : Rule} {R C : Int} {tk : List Pl} {i : Int} (hR : 0 < R) (hC : 0 < C) (hi : 0 ≤ i) : freeV r R C tk i = if i < R * C then (if spotV r R C i ∈ tk then freeV r R C tk (i + 1) else some (spotV r R C i)) else none := by
  rw [← freeN_eq (n := tk.length + 1 + 1) hR hC hi (by omega)]
  rfl
theorem freeN_some {r : Rule} {R C : Int} {tk : List Pl} (hR : 0 < R) (hC : 0 < C) : ∀ {n : Nat} {i : Int} {p : Pl}, 0 ≤ i → freeN r R C tk n i = some p → p ∉ tk ∧ (0 ≤ p.1 ∧ p.1 < R) ∧ (0 ≤ p.2 ∧ p.2 < C)
  | 0, _, _, _, h => by simp [freeN] at h
  | n + 1, i, p, hi, h => by
    simp only [freeN] at h
    split at h
    · rename_i h1
      split at h
      · exact freeN_some hR hC (by omega) h
      · rename_i h2
        cases h
        exact ⟨h2, spot_rng hR hC hi h1⟩
    · cases h
theorem freeN_none {r : Rule} {R C : Int} {tk : List Pl} (hR : 0 < R) (hC : 0 < C) : ∀ {n : Nat} {i : Int}, freeN r R C tk n i = none → ∀ j, i ≤ j → j < R * C → j < i + n → spotV r R C j ∈ tk
  | 0, i, _, j, h1, _, h3 => by omega
  | n + 1, i, h, j, h1, h2, h3 => by
    simp only [freeN] at h
    split at h
    · split at h
      · rename_i h4
        by_cases e : j = i
        · subst e; exact h4
        · exact freeN_none hR hC h j (by omega) h2 (by omega)
      · cases h
    · omega
/-- no place is free: all are taken -/
theorem freeV_none {r : Rule} {R C : Int} {tk : List Pl} (hR : 0 < R) (hC : 0 < C) (h : freeV r R C tk 0 = none) {q : Pl} (h1 : 0 ≤ q.1 ∧ q.1 < R) (h2 : 0 ≤ q.2 ∧ q.2 < C) : q ∈ tk := by
  have n := num_rng (r := r) hR hC h1 h2
  have big : freeN r R C tk ((R * C).toNat + tk.length + 1) 0 = none := by
    rw [freeN_eq hR hC (Int.le_refl _) (by omega)]; exact h
  have q2 := freeN_none hR hC big (numV r R C q) n.1 n.2 (by omega)
  rw [spot_num hR hC h1 h2] at q2
  exact q2
end QL

/-! QInv: what always holds on a desk. -/
namespace QL
open PySem PySem.Spec L2 Q

def OnD (R C : Int) (q : Pl) : Prop := (0 ≤ q.1 ∧ q.1 < R) ∧ (0 ≤ q.2 ∧ q.2 < C)
theorem onV_iff {R C : Int} {q : Pl} : onV R C (some q) = true ↔ OnD R C q := by
  unfold onV OnD
  simp only [Bool.and_eq_true, decide_eq_true_eq]
theorem takenV_append {a b : Ics} : takenV (a ++ b) = takenV a ++ takenV b := by unfold takenV; rw [List.filterMap_append]
theorem mem_taken {is : Ics} {q : Pl} : q ∈ takenV is ↔ ∃ i ∈ is, i.p = some q := by
  unfold takenV
  rw [List.mem_filterMap]
theorem taken_none {i : Ic} {b : Ics} (h : i.p = none) : takenV (i :: b) = takenV b := by unfold takenV; rw [List.filterMap_cons, h]
theorem taken_some {i : Ic} {b : Ics} {q : Pl} (h : i.p = some q) : takenV (i :: b) = q :: takenV b := by unfold takenV; rw [List.filterMap_cons, h]
theorem nodup_mid {a b : List Pl} {q : Pl} : (a ++ q :: b).Nodup ↔ q ∉ a ++ b ∧ (a ++ b).Nodup := by
  rw [(List.perm_middle (a := q) (l₁ := a) (l₂ := b)).nodup_iff, List.nodup_cons]
/-- without «hidden ones only on full desks» -/
structure Pre (R C : Int) (is : Ics) : Prop where
  nd : (namesV is).Nodup
  tn : (takenV is).Nodup
  on : ∀ q ∈ takenV is, OnD R C q
  ws : ∀ i ∈ is, ∀ q, i.w = some q → 0 ≤ q.1 ∧ 0 ≤ q.2
def Full (R C : Int) (is : Ics) : Prop := (∃ i ∈ is, i.p = none) → ∀ q, OnD R C q → q ∈ takenV is
structure Inv (s : Sta) : Prop where
  R : 1 ≤ s.R
  C : 1 ≤ s.C
  pre : Pre s.R s.C s.is
  full : Full s.R s.C s.is
theorem free_ok {r : Rule} {R C : Int} {tk : List Pl} {i : Int} {p : Pl} (hR : 0 < R) (hC : 0 < C) (hi : 0 ≤ i) (h : freeV r R C tk i = some p) : p ∉ tk ∧ OnD R C p := by
  obtain ⟨h1, h2, h3⟩ := freeN_some hR hC hi h
  exact ⟨h1, h2, h3⟩
theorem free_no {r : Rule} {R C : Int} {tk : List Pl} (hR : 0 < R) (hC : 0 < C) (h : freeV r R C tk 0 = none) {q : Pl} (hq : OnD R C q) : q ∈ tk := freeV_none hR hC h hq.1 hq.2
/-- what filling keeps and brings -/
theorem fill_ok {r : Rule} {R C : Int} (hR : 0 < R) (hC : 0 < C) : ∀ {rest done : Ics}, (takenV (done ++ rest)).Nodup → (∀ q ∈ takenV (done ++ rest), OnD R C q) → Full R C done ∨ (∀ i ∈ done, i.p ≠ none) ∨ (∀ q, OnD R C q → q ∈ takenV (done ++ rest)) →
    (fillV r R C done rest).map (·.n) = (done ++ rest).map (·.n) ∧ (fillV r R C done rest).map (·.w) = (done ++ rest).map (·.w) ∧ (takenV (fillV r R C done rest)).Nodup ∧ (∀ q ∈ takenV (fillV r R C done rest), OnD R C q) ∧ (∀ q ∈ takenV (done ++ rest), q ∈ takenV (fillV r R C done rest)) ∧ Full R C (fillV r R C done rest)
  | [], done, h1, h2, h3 => by
    rw [List.append_nil] at h1 h2 h3 ⊢
    refine ⟨rfl, rfl, h1, h2, fun q h => h, ?_⟩
    rcases h3 with h3 | h3 | h3
    · exact h3
    · exact fun ⟨i, hi, e⟩ => absurd e (h3 i hi)
    · exact fun _ => h3
  | i :: rest, done, h1, h2, h3 => by
    cases hp : i.p with
    | some p =>
      have e : fillV r R C done (i :: rest) = fillV r R C (done ++ [i]) rest := by
        rw [fillV]; simp only [hp]
      have e2 : done ++ i :: rest = (done ++ [i]) ++ rest := by simp
      rw [e, e2]
      rw [e2] at h1 h2 h3
      refine fill_ok hR hC h1 h2 ?_
      rcases h3 with h3 | h3 | h3
      · by_cases hh : ∃ x ∈ done, x.p = none
        · refine .inr (.inr fun q hq => ?_)
          rw [takenV_append, takenV_append]
          exact List.mem_append.mpr (.inl (List.mem_append.mpr (.inl (h3 hh q hq))))
        · refine .inr (.inl fun x hx => ?_)
          rcases List.mem_append.mp hx with hx | hx
          · exact fun z => hh ⟨x, hx, z⟩
          · have : x = i := by simpa using hx
            rw [this, hp]; simp
      · refine .inr (.inl fun x hx => ?_)
        rcases List.mem_append.mp hx with hx | hx
        · exact h3 x hx
        · have : x = i := by simpa using hx
          rw [this, hp]; simp
      · exact .inr (.inr h3)
    | none =>
      have e : fillV r R C done (i :: rest) = fillV r R C (done ++ [⟨i.n, freeV r R C (takenV (done ++ i :: rest)) 0, i.w⟩]) rest := by
        rw [fillV]; simp only [hp]
      rw [e]
      generalize hf : freeV r R C (takenV (done ++ i :: rest)) 0 = f
      have e0 : takenV (done ++ i :: rest) = takenV done ++ takenV rest := by rw [takenV_append, taken_none hp]
      have e2 : (done ++ [(⟨i.n, f, i.w⟩ : Ic)]) ++ rest = done ++ ⟨i.n, f, i.w⟩ :: rest := by simp
      have names : (done ++ i :: rest).map (·.n) = ((done ++ [(⟨i.n, f, i.w⟩ : Ic)]) ++ rest).map (·.n) := by simp
      have wishes : (done ++ i :: rest).map (·.w) = ((done ++ [(⟨i.n, f, i.w⟩ : Ic)]) ++ rest).map (·.w) := by simp
      rw [names, wishes, e0]
      rw [e0] at h1 h2 h3 hf
      cases f with
      | some p =>
        obtain ⟨q1, q2⟩ := free_ok hR hC (Int.le_refl _) hf
        have e3 : takenV ((done ++ [(⟨i.n, some p, i.w⟩ : Ic)]) ++ rest) = takenV done ++ p :: takenV rest := by rw [e2, takenV_append, taken_some rfl]
        have n1 : (takenV ((done ++ [(⟨i.n, some p, i.w⟩ : Ic)]) ++ rest)).Nodup := by rw [e3]; exact nodup_mid.mpr ⟨q1, h1⟩
        have o1 : ∀ q ∈ takenV ((done ++ [(⟨i.n, some p, i.w⟩ : Ic)]) ++ rest), OnD R C q := fun q hq => by
          rw [e3, List.mem_append, List.mem_cons] at hq
          rcases hq with hq | rfl | hq
          · exact h2 q (List.mem_append.mpr (.inl hq))
          · exact q2
          · exact h2 q (List.mem_append.mpr (.inr hq))
        have g := fill_ok (r := r) hR hC (rest := rest) (done := done ++ [(⟨i.n, some p, i.w⟩ : Ic)]) n1 o1 (by
          rcases h3 with h3 | h3 | h3
          · by_cases hh : ∃ x ∈ done, x.p = none
            · refine .inr (.inr fun q hq => ?_)
              rw [e3]
              exact List.mem_append.mpr (.inl (h3 hh q hq))
            · refine .inr (.inl fun x hx => ?_)
              rcases List.mem_append.mp hx with hx | hx
              · exact fun z => hh ⟨x, hx, z⟩
              · have : x = ⟨i.n, some p, i.w⟩ := by simpa using hx
                rw [this]; simp
          · refine .inr (.inl fun x hx => ?_)
            rcases List.mem_append.mp hx with hx | hx
            · exact h3 x hx
            · have : x = ⟨i.n, some p, i.w⟩ := by simpa using hx
              rw [this]; simp
          · exact absurd (h3 p q2) q1)
        refine ⟨g.1, g.2.1, g.2.2.1, g.2.2.2.1, fun q hq => g.2.2.2.2.1 q ?_, g.2.2.2.2.2⟩
        rw [e3, List.mem_append, List.mem_cons]
        rcases List.mem_append.mp hq with hq | hq
        · exact .inl hq
        · exact .inr (.inr hq)
      | none =>
        have e3 : takenV ((done ++ [(⟨i.n, none, i.w⟩ : Ic)]) ++ rest) = takenV done ++ takenV rest := by rw [e2, takenV_append, taken_none rfl]
        have g := fill_ok (r := r) hR hC (rest := rest) (done := done ++ [(⟨i.n, none, i.w⟩ : Ic)]) (by rw [e3]; exact h1) (by rw [e3]; exact h2) (.inr (.inr fun q hq => by rw [e3]; exact free_no hR hC hf hq))
        rw [e3] at g
        exact g
theorem filled_inv {r : Rule} {R C : Int} {is : Ics} (hR : 1 ≤ R) (hC : 1 ≤ C) (h : Pre R C is) : Inv ⟨R, C, filledV r R C is⟩ := by
  obtain ⟨g1, g2, g3, g4, g5, g6⟩ := fill_ok (r := r) (R := R) (C := C) (by omega) (by omega) (rest := is) (done := []) h.tn h.on (.inr (.inl fun i hi => absurd hi (by simp)))
  refine ⟨hR, hC, ⟨?_, g3, g4, fun i hi q hw => ?_⟩, g6⟩
  · show ((fillV r R C [] is).map (·.n)).Nodup
    rw [g1]; exact h.nd
  · have m : i.w ∈ (fillV r R C [] is).map (·.w) := List.mem_map.mpr ⟨i, hi, rfl⟩
    rw [g2] at m
    obtain ⟨j, hj, e⟩ := List.mem_map.mp m
    exact h.ws j hj q (by rw [e, hw])
/-! ### names -/
theorem split_at {is : Ics} {n : Str} (nd : (namesV is).Nodup) (h : n ∈ namesV is) : ∃ a i b, is = a ++ i :: b ∧ i.n = n ∧ ∀ x ∈ a ++ b, x.n ≠ n := by
  obtain ⟨i, hi, e⟩ := List.mem_map.mp h
  obtain ⟨a, b, rfl⟩ := List.append_of_mem hi
  refine ⟨a, i, b, rfl, e, fun x hx z => ?_⟩
  unfold namesV at nd
  rw [List.map_append, List.map_cons, (List.perm_middle).nodup_iff, List.nodup_cons, ← List.map_append] at nd
  exact nd.1 (List.mem_map.mpr ⟨x, hx, by rw [z, e]⟩)
theorem with_id {f : Str → Option (Option Pl)} {is : Ics} (h : ∀ x ∈ is, f x.n = none) : withV f is = is := by
  unfold withV
  conv => rhs; rw [← List.map_id is]
  refine List.map_congr_left fun x hx => ?_
  exact wI_none (h x hx)
theorem with_names {f : Str → Option (Option Pl)} {is : Ics} : namesV (withV f is) = namesV is := by
  unfold namesV withV
  rw [List.map_map]
  refine List.map_congr_left fun x _ => ?_
  show (wI f x).n = x.n
  cases e : f x.n with
  | none => rw [wI_none e]
  | some p => rw [wI_some e]
theorem with_one {a b : Ics} {i : Ic} {n : Str} {p : Option Pl} (e : i.n = n) (h : ∀ x ∈ a ++ b, x.n ≠ n) : withV (one1V n p) (a ++ i :: b) = a ++ ⟨n, p, p⟩ :: b := by
  have no : ∀ x : Ic, x.n ≠ n → one1V n p x.n = none := fun x hx => if_neg hx
  have h1 : withV (one1V n p) a = a := with_id fun x hx => no x (h x (List.mem_append.mpr (.inl hx)))
  have h2 : withV (one1V n p) b = b := with_id fun x hx => no x (h x (List.mem_append.mpr (.inr hx)))
  have h3 : withV (one1V n p) (a ++ i :: b) = withV (one1V n p) a ++ withV (one1V n p) [i] ++ withV (one1V n p) b := by unfold withV; simp
  rw [h3, h1, h2]
  have h4 : withV (one1V n p) [i] = [⟨n, p, p⟩] := by
    unfold withV
    rw [List.map_cons, List.map_nil, wI_some (p := p) (if_pos e), e]
  rw [h4]; simp
/-- one icon at one place -/
theorem taken_uniq {q : Pl} : ∀ is : Ics, (takenV is).Nodup → ∀ i j : Ic, i ∈ is → j ∈ is → i.p = some q → j.p = some q → i = j := by
  intro is
  induction is with
  | nil => intro _ i j hi; exact absurd hi (by simp)
  | cons x is ih =>
    intro h i j hi hj e1 e2
    have key : ∀ k : Ic, k ∈ is → k.p = some q → x.p ≠ some q := fun k hk ek z => by
      rw [taken_some z, List.nodup_cons] at h
      exact h.1 (mem_taken.mpr ⟨k, hk, ek⟩)
    have tl : (takenV is).Nodup := by
      cases hx : x.p with
      | none => rwa [taken_none hx] at h
      | some p => rw [taken_some hx, List.nodup_cons] at h; exact h.2
    rcases List.mem_cons.mp hi with hi | hi
    · rcases List.mem_cons.mp hj with hj | hj
      · rw [hi, hj]
      · exact absurd (hi ▸ e1) (key j hj e2)
    · rcases List.mem_cons.mp hj with hj | hj
      · exact absurd (hj ▸ e2) (key i hi e1)
      · exact ih tl i j hi hj e1 e2
/-- an icon gets a new free place -/
theorem pre_one {R C : Int} {is : Ics} {n : Str} {q : Pl} (h : Pre R C is) (hn : n ∈ namesV is) (hq : OnD R C q) (hf : ∀ x ∈ is, x.n ≠ n → x.p ≠ some q) : Pre R C (withV (one1V n (some q)) is) := by
  obtain ⟨a, i, b, rfl, e, hne⟩ := split_at h.nd hn
  rw [with_one e hne]
  have t1 : takenV (a ++ ⟨n, some q, some q⟩ :: b) = takenV a ++ q :: takenV b := by rw [takenV_append, taken_some rfl]
  have sub : ∀ x ∈ takenV a ++ takenV b, x ∈ takenV (a ++ i :: b) := fun x hx => by
    rw [← takenV_append, mem_taken] at hx
    obtain ⟨y, hy, ey⟩ := hx
    refine mem_taken.mpr ⟨y, ?_, ey⟩
    rcases List.mem_append.mp hy with hy | hy
    · exact List.mem_append.mpr (.inl hy)
    · exact List.mem_append.mpr (.inr (List.mem_cons_of_mem _ hy))
  have nd2 : (takenV a ++ takenV b).Nodup := by
    have z := h.tn
    rw [takenV_append] at z
    cases hp : i.p with
    | none => rwa [taken_none hp] at z
    | some p => rw [taken_some hp] at z; exact (nodup_mid.mp z).2
  refine ⟨?_, ?_, fun x hx => ?_, fun x hx p hw => ?_⟩
  · have : namesV (a ++ ⟨n, some q, some q⟩ :: b) = namesV (a ++ i :: b) := by unfold namesV; simp [e]
    rw [this]; exact h.nd
  · rw [t1]
    refine nodup_mid.mpr ⟨fun hx => ?_, nd2⟩
    rw [← takenV_append, mem_taken] at hx
    obtain ⟨y, hy, ey⟩ := hx
    refine hf y ?_ (hne y hy) ey
    rcases List.mem_append.mp hy with hy | hy
    · exact List.mem_append.mpr (.inl hy)
    · exact List.mem_append.mpr (.inr (List.mem_cons_of_mem _ hy))
  · rw [t1, List.mem_append, List.mem_cons] at hx
    rcases hx with hx | rfl | hx
    · exact h.on x (sub x (List.mem_append.mpr (.inl hx)))
    · exact hq
    · exact h.on x (sub x (List.mem_append.mpr (.inr hx)))
  · rcases List.mem_append.mp hx with hx | hx
    · exact h.ws x (List.mem_append.mpr (.inl hx)) p hw
    · rcases List.mem_cons.mp hx with rfl | hx
      · cases hw
        exact ⟨hq.1.1, hq.2.1⟩
      · exact h.ws x (List.mem_append.mpr (.inr (List.mem_cons_of_mem _ hx))) p hw
/-! ### two icons change places -/
def swapP (a b x : Pl) : Pl := if x = a then b else if x = b then a else x
theorem swapP_swapP {a b x : Pl} : swapP a b (swapP a b x) = x := by
  unfold swapP
  by_cases h1 : x = a
  · subst h1
    by_cases h2 : b = x
    · simp [h2]
    · simp [h2]
  · by_cases h2 : x = b
    · subst h2; simp [h1]
    · simp [h1, h2]
theorem taken_map {f : Pl → Pl} {g : Ic → Ic} {is : Ics} (h : ∀ i ∈ is, (g i).p = i.p.map f) : takenV (is.map g) = (takenV is).map f := by
  induction is with
  | nil => rfl
  | cons i is ih =>
    have ih' := ih fun x hx => h x (List.mem_cons_of_mem _ hx)
    have hi := h i List.mem_cons_self
    rw [List.map_cons]
    cases e : i.p with
    | none =>
      rw [e] at hi
      rw [taken_none hi, taken_none e, ih']
    | some q =>
      rw [e] at hi
      rw [taken_some hi, taken_some e, ih', List.map_cons]
theorem inv_swap {s : Sta} {n : Str} {q p0 : Pl} {own t : Ic} (h : Inv s) (ho : own ∈ s.is) (hn : own.n = n) (hp : own.p = some p0) (ht : t ∈ s.is) (hq : t.p = some q) (hne : t.n ≠ n) : Inv ⟨s.R, s.C, withV (two2V n (some q) t.n own.p) s.is⟩ := by
  have nq : p0 ≠ q := fun e => by
    subst e
    exact hne (by rw [← taken_uniq s.is h.pre.tn own t ho ht hp hq, hn])
  have byn : ∀ i ∈ s.is, ∀ j ∈ s.is, i.n = j.n → i = j := fun i hi j hj e => by
    obtain ⟨a, x, b, e1, e2, e3⟩ := split_at h.pre.nd (n := i.n) (List.mem_map.mpr ⟨i, hi, rfl⟩)
    have at_ : ∀ k ∈ s.is, k.n = i.n → k = x := fun k hk ek => by
      rw [e1, List.mem_append, List.mem_cons] at hk
      rcases hk with hk | hk | hk
      · exact absurd ek (e3 k (List.mem_append.mpr (.inl hk)))
      · exact hk
      · exact absurd ek (e3 k (List.mem_append.mpr (.inr hk)))
    rw [at_ i hi rfl, at_ j hj e.symm]
  have key : ∀ i ∈ s.is, (wI (two2V n (some q) t.n own.p) i).p = i.p.map (swapP p0 q) := fun i hi => by
    by_cases h1 : i.n = n
    · have : i = own := byn i hi own ho (by rw [h1, hn])
      rw [wI_some (p := some q) (if_pos h1), this, hp]
      simp [swapP]
    · by_cases h2 : i.n = t.n
      · have : i = t := byn i hi t ht h2
        rw [wI_some (p := own.p) (by unfold two2V; rw [if_neg h1, if_pos h2]), this, hp, hq]
        simp [swapP, nq.symm]
      · rw [wI_none (by unfold two2V; rw [if_neg h1, if_neg h2])]
        cases e : i.p with
        | none => rfl
        | some x =>
          have x1 : x ≠ p0 := fun z => h1 (by subst z; rw [taken_uniq s.is h.pre.tn i own hi ho e hp, hn])
          have x2 : x ≠ q := fun z => h2 (by subst z; rw [taken_uniq s.is h.pre.tn i t hi ht e hq])
          simp [swapP, x1, x2]
  have tk : takenV (withV (two2V n (some q) t.n own.p) s.is) = (takenV s.is).map (swapP p0 q) := taken_map key
  have mm : ∀ x, x ∈ takenV (withV (two2V n (some q) t.n own.p) s.is) ↔ x ∈ takenV s.is := fun x => by
    have m1 : p0 ∈ takenV s.is := mem_taken.mpr ⟨own, ho, hp⟩
    have m2 : q ∈ takenV s.is := mem_taken.mpr ⟨t, ht, hq⟩
    rw [tk, List.mem_map]
    constructor
    · rintro ⟨y, hy, rfl⟩
      unfold swapP
      split
      · exact m2
      · split
        · exact m1
        · exact hy
    · intro hx
      refine ⟨swapP p0 q x, ?_, swapP_swapP⟩
      unfold swapP
      split
      · exact m2
      · split
        · exact m1
        · exact hx
  refine ⟨h.R, h.C, ⟨by show (namesV _).Nodup; rw [with_names]; exact h.pre.nd, ?_, fun x hx => h.pre.on x ((mm x).mp hx), fun i hi x hw => ?_⟩, fun ⟨i, hi, e⟩ x hx => (mm x).mpr (h.full ?_ x hx)⟩
  · show (takenV _).Nodup
    rw [tk]
    exact List.pairwise_map.mpr (h.pre.tn.imp fun {a b} hab e => hab (by rw [← swapP_swapP (a := p0) (b := q) (x := a), e, swapP_swapP]))
  · have hi : i ∈ withV (two2V n (some q) t.n own.p) s.is := hi
    unfold withV at hi
    obtain ⟨j, hj, rfl⟩ := List.mem_map.mp hi
    by_cases h1 : j.n = n
    · rw [wI_some (p := some q) (if_pos h1)] at hw
      cases hw
      have z := h.pre.on q (mem_taken.mpr ⟨t, ht, hq⟩)
      exact ⟨z.1.1, z.2.1⟩
    · by_cases h2 : j.n = t.n
      · rw [wI_some (p := own.p) (by unfold two2V; rw [if_neg h1, if_pos h2])] at hw
        have hw : own.p = some x := hw
        rw [hp] at hw
        cases hw
        have z := h.pre.on p0 (mem_taken.mpr ⟨own, ho, hp⟩)
        exact ⟨z.1.1, z.2.1⟩
      · rw [wI_none (by unfold two2V; rw [if_neg h1, if_neg h2])] at hw
        exact h.pre.ws j hj x hw
  · have hi : i ∈ withV (two2V n (some q) t.n own.p) s.is := hi
    unfold withV at hi
    obtain ⟨j, hj, rfl⟩ := List.mem_map.mp hi
    refine ⟨j, hj, ?_⟩
    have := key j hj
    rw [this] at e
    cases hjp : j.p with
    | none => rfl
    | some y => rw [hjp] at e; cases e
/-! ### all by name -/
theorem ix_some : ∀ {ns : List Str} {x : Str} {k : Nat}, x ∈ ns → ∃ j, ixS x ns k = some (k + j) ∧ ns[j]? = some x
  | y :: ns, x, k, h => by
    unfold ixS
    by_cases e : y = x
    · rw [if_pos e]; exact ⟨0, rfl, by simp [e]⟩
    · rw [if_neg e]
      obtain ⟨j, h1, h2⟩ := ix_some (k := k + 1) (List.mem_of_ne_of_mem (fun z => e z.symm) h)
      exact ⟨j + 1, by rw [h1]; congr 1; omega, by simpa using h2⟩
theorem ix_at : ∀ {ns : List Str} {x : Str} {k j : Nat}, ns.Nodup → ns[j]? = some x → ixS x ns k = some (k + j)
  | y :: ns, x, k, 0, _, h => by
    simp at h
    unfold ixS
    rw [if_pos h]; rfl
  | y :: ns, x, k, j + 1, hn, h => by
    rw [List.nodup_cons] at hn
    have h' : ns[j]? = some x := by simpa using h
    unfold ixS
    rw [if_neg fun z => hn.1 (by rw [z]; exact List.mem_of_getElem? h'), ix_at hn.2 h']
    congr 1; omega
theorem insS_perm (x : Str) : ∀ ys : List Str, (insS x ys).Perm (x :: ys)
  | [] => .refl _
  | y :: ys => by
    unfold insS
    split
    · exact .refl _
    · exact ((insS_perm x ys).cons y).trans (.swap x y ys)
theorem sortS_perm : ∀ xs : List Str, (sortS xs).Perm xs
  | [] => .refl _
  | x :: xs => (insS_perm x _).trans ((sortS_perm xs).cons x)
theorem sort_taken {r : Rule} {R C : Int} {ns : List Str} (hR : 0 < R) (hC : 0 < C) (hn : ns.Nodup) {is : Ics} (nd : (namesV is).Nodup) (hs : ∀ i ∈ is, i.n ∈ ns) : (takenV (withV (sortF r R C ns) is)).Nodup ∧ ∀ q ∈ takenV (withV (sortF r R C ns) is), OnD R C q := by
  have pl : ∀ i ∈ is, ∃ j, ns[j]? = some i.n ∧ sortF r R C ns i.n = some (placeV r R C j) := fun i hi => by
    obtain ⟨j, h1, h2⟩ := ix_some (k := 0) (hs i hi)
    exact ⟨j, h2, by unfold sortF; rw [h1, Nat.zero_add]; rfl⟩
  have at_ : ∀ i ∈ is, ∀ q, (wI (sortF r R C ns) i).p = some q → ∃ j : Nat, ns[j]? = some i.n ∧ (j : Int) < R * C ∧ q = spotV r R C j := fun i hi q e => by
    obtain ⟨j, h1, h2⟩ := pl i hi
    rw [wI_some h2] at e
    unfold placeV at e
    split at e
    · rename_i hj
      cases e
      exact ⟨j, h1, hj, rfl⟩
    · cases e
  constructor
  · clear pl
    induction is with
    | nil => exact List.nodup_nil
    | cons i is ih =>
      have ih' := ih (by unfold namesV at nd ⊢; rw [List.map_cons, List.nodup_cons] at nd; exact nd.2) (fun x hx => hs x (List.mem_cons_of_mem _ hx)) (fun x hx => at_ x (List.mem_cons_of_mem _ hx))
      have e : withV (sortF r R C ns) (i :: is) = wI (sortF r R C ns) i :: withV (sortF r R C ns) is := rfl
      rw [e]
      cases hp : (wI (sortF r R C ns) i).p with
      | none => rw [taken_none hp]; exact ih'
      | some q =>
        rw [taken_some hp, List.nodup_cons]
        refine ⟨fun hq => ?_, ih'⟩
        obtain ⟨y, hy, ey⟩ := mem_taken.mp hq
        unfold withV at hy
        obtain ⟨z, hz, rfl⟩ := List.mem_map.mp hy
        obtain ⟨j1, a1, a2, a3⟩ := at_ i List.mem_cons_self q hp
        obtain ⟨j2, b1, b2, b3⟩ := at_ z (List.mem_cons_of_mem _ hz) q ey
        have := spot_inj (r := r) hR hC (i := j1) (j := j2) ⟨by omega, a2⟩ ⟨by omega, b2⟩ (by rw [← a3, ← b3])
        have e12 : j1 = j2 := by omega
        subst e12
        rw [a1] at b1
        have en : i.n = z.n := Option.some.inj b1
        unfold namesV at nd
        rw [List.map_cons, List.nodup_cons] at nd
        exact nd.1 (List.mem_map.mpr ⟨z, hz, en.symm⟩)
  · intro q hq
    obtain ⟨y, hy, ey⟩ := mem_taken.mp hq
    unfold withV at hy
    obtain ⟨z, hz, rfl⟩ := List.mem_map.mp hy
    obtain ⟨j1, a1, a2, a3⟩ := at_ z hz q ey
    rw [a3]
    exact spot_rng hR hC (by omega) a2
theorem inv_sorted {r : Rule} {s : Sta} (h : Inv s) : Inv (sortedV r s) := by
  have hR : 0 < s.R := by have := h.R; omega
  have hC : 0 < s.C := by have := h.C; omega
  have hn : (sortS (namesV s.is)).Nodup := (sortS_perm _).nodup_iff.mpr h.pre.nd
  have hs : ∀ i ∈ s.is, i.n ∈ sortS (namesV s.is) := fun i hi => (sortS_perm _).mem_iff.mpr (List.mem_map.mpr ⟨i, hi, rfl⟩)
  obtain ⟨g1, g2⟩ := sort_taken (r := r) hR hC hn h.pre.nd hs
  have pl : ∀ i ∈ s.is, ∃ j, (sortS (namesV s.is))[j]? = some i.n ∧ sortF r s.R s.C (sortS (namesV s.is)) i.n = some (placeV r s.R s.C j) := fun i hi => by
    obtain ⟨j, h1, h2⟩ := ix_some (k := 0) (hs i hi)
    exact ⟨j, h2, by unfold sortF; rw [h1, Nat.zero_add]; rfl⟩
  refine ⟨h.R, h.C, ⟨by show (namesV (withV _ _)).Nodup; rw [with_names]; exact h.pre.nd, g1, g2, fun i hi q hw => ?_⟩, ?_⟩
  · have hi : i ∈ withV (sortF r s.R s.C (sortS (namesV s.is))) s.is := hi
    unfold withV at hi
    obtain ⟨z, hz, rfl⟩ := List.mem_map.mp hi
    obtain ⟨j, h1, h2⟩ := pl z hz
    rw [wI_some h2] at hw
    unfold placeV at hw
    split at hw
    · rename_i hj
      cases hw
      have := spot_rng (r := r) hR hC (i := (j : Int)) (by omega) hj
      exact ⟨this.1.1, this.2.1⟩
    · cases hw
  · rintro ⟨i, hi, e⟩ q hq
    have hi : i ∈ withV (sortF r s.R s.C (sortS (namesV s.is))) s.is := hi
    unfold withV at hi
    obtain ⟨z, hz, rfl⟩ := List.mem_map.mp hi
    obtain ⟨j, h1, h2⟩ := pl z hz
    rw [wI_some h2] at e
    have hj : ¬ (j : Int) < s.R * s.C := fun hj => by
      unfold placeV at e
      rw [if_pos hj] at e
      cases e
    have nq := num_rng (r := r) hR hC hq.1 hq.2
    have hjl : j < (sortS (namesV s.is)).length := (List.getElem?_eq_some_iff.mp h1).1
    have hk : (numV r s.R s.C q).toNat < (sortS (namesV s.is)).length := by omega
    have hx := (sortS_perm (namesV s.is)).mem_iff.mp (List.getElem_mem hk)
    obtain ⟨y, hy, ey⟩ := List.mem_map.mp hx
    refine mem_taken.mpr ⟨wI (sortF r s.R s.C (sortS (namesV s.is))) y, List.mem_map.mpr ⟨y, hy, rfl⟩, ?_⟩
    have ix := ix_at (k := 0) hn (j := (numV r s.R s.C q).toNat) (x := y.n) (by rw [List.getElem?_eq_getElem hk, ey])
    have : sortF r s.R s.C (sortS (namesV s.is)) y.n = some (some q) := by
      unfold sortF placeV
      rw [ix, Nat.zero_add]
      show some (if (((numV r s.R s.C q).toNat : Nat) : Int) < s.R * s.C then some (spotV r s.R s.C ((numV r s.R s.C q).toNat : Nat)) else none) = _
      rw [Int.toNat_of_nonneg nq.1, if_pos nq.2, spot_num hR hC hq.1 hq.2]
    rw [wI_some this]
/-! ### sizes -/
theorem names_cut {R C : Int} {is : Ics} : namesV (cutV R C is) = namesV is := by
  unfold namesV cutV; rw [List.map_map]; rfl
theorem pre_cut {R C R0 C0 : Int} {is : Ics} (h : Pre R0 C0 is) : Pre R C (cutV R C is) := by
  have tk : takenV (cutV R C is) = (takenV is).filter fun q => onV R C (some q) := by
    clear h
    induction is with
    | nil => rfl
    | cons i is ih =>
      have e0 : cutV R C (i :: is) = ⟨i.n, if onV R C i.p = true then i.p else none, i.w⟩ :: cutV R C is := rfl
      rw [e0]
      cases e : i.p with
      | none => rw [taken_none (i := i) e, taken_none (by simp), ih]
      | some q =>
        rw [taken_some (i := i) e, List.filter_cons]
        by_cases h : onV R C (some q) = true
        · rw [if_pos h, if_pos h, taken_some rfl, ih]
        · rw [if_neg h, if_neg h, taken_none rfl, ih]
  refine ⟨by rw [names_cut]; exact h.nd, by rw [tk]; exact h.tn.filter _, fun q hq => ?_, fun i hi q hw => ?_⟩
  · rw [tk, List.mem_filter] at hq
    exact onV_iff.mp hq.2
  · unfold cutV at hi
    obtain ⟨j, hj, rfl⟩ := List.mem_map.mp hi
    exact h.ws j hj q hw
theorem back1_names {R C : Int} {tk : List Pl} : ∀ is : Ics, namesV (back1 R C tk is) = namesV is
  | [] => rfl
  | i :: is => by
    unfold back1
    split
    · rfl
    · show i.n :: namesV (back1 R C tk is) = _
      rw [back1_names is]; rfl
theorem back1_split {R C : Int} {tk : List Pl} : ∀ is : Ics, back1 R C tk is = is ∨ ∃ a i b, is = a ++ i :: b ∧ back1 R C tk is = a ++ ⟨i.n, i.w, i.w⟩ :: b ∧ callsB R C tk i = true ∧ ∀ x ∈ a, callsB R C tk x = false
  | [] => .inl rfl
  | i :: is => by
    unfold back1
    by_cases h : callsB R C tk i = true
    · rw [if_pos h]
      exact .inr ⟨[], i, is, rfl, rfl, h, fun x hx => absurd hx (by simp)⟩
    · rw [if_neg h]
      rcases back1_split (R := R) (C := C) (tk := tk) is with z | ⟨a, j, b, e1, e2, e3, e4⟩
      · left; rw [z]
      · refine .inr ⟨i :: a, j, b, by rw [e1]; rfl, by rw [e2]; rfl, e3, fun x hx => ?_⟩
        rcases List.mem_cons.mp hx with rfl | hx
        · simpa using h
        · exact e4 x hx
theorem pre_back {R C : Int} {is : Ics} (h : Pre R C is) : Pre R C (backV R C is) := by
  unfold backV
  rcases back1_split (R := R) (C := C) (tk := takenV is) is with e | ⟨a, i, b, e1, e2, e3, _⟩
  · rw [e]; exact h
  · unfold callsB at e3
    simp only [Bool.and_eq_true] at e3
    cases hw : i.w with
    | none => rw [hw] at e3; exact absurd e3.1.2 (by simp [onV])
    | some q =>
      rw [hw] at e3
      have hf : q ∉ takenV is := by
        have := e3.2
        unfold freeW at this
        exact of_decide_eq_true this
      have hne : ∀ x ∈ a ++ b, x.n ≠ i.n := fun x hx z => by
        have nd := h.nd
        rw [e1] at nd
        unfold namesV at nd
        rw [List.map_append, List.map_cons, (List.perm_middle).nodup_iff, List.nodup_cons, ← List.map_append] at nd
        exact nd.1 (List.mem_map.mpr ⟨x, hx, z⟩)
      have q2 := pre_one (n := i.n) (q := q) h (by rw [e1]; unfold namesV; simp) (onV_iff.mp e3.1.2) (fun x hx _ z => hf (mem_taken.mpr ⟨x, hx, z⟩))
      rw [e2, hw]
      rw [e1, with_one rfl hne] at q2
      exact q2
theorem pre_iterB {R C : Int} : ∀ {n : Nat} {is : Ics}, Pre R C is → Pre R C (iterB R C n is)
  | 0, _, h => h
  | n + 1, is, h => pre_iterB (n := n) (is := backV R C is) (pre_back h)
theorem moreV_pos (R a : Int) : 1 ≤ moreV R a := by unfold moreV; split <;> omega
theorem inv_resized {r : Rule} {s : Sta} {a b : Int} (h : Inv s) : Inv (resizedV r s a b) := by
  unfold resizedV
  refine filled_inv (moreV_pos _ _) (moreV_pos _ _) ?_
  split
  · exact pre_iterB (pre_cut h.pre)
  · exact pre_cut h.pre
theorem inv_added {r : Rule} {s : Sta} {n : Str} (h : Inv s) : Inv (addedV r s n) := by
  unfold addedV
  split
  · exact h
  · rename_i hn
    have hR : 0 < s.R := by have := h.R; omega
    have hC : 0 < s.C := by have := h.C; omega
    generalize hf : freeV r s.R s.C (takenV s.is) 0 = f
    have nm : namesV (s.is ++ [(⟨n, f, f⟩ : Ic)]) = namesV s.is ++ [n] := by unfold namesV; simp
    have ndn : (namesV (s.is ++ [(⟨n, f, f⟩ : Ic)])).Nodup := by
      rw [nm, List.nodup_append]
      exact ⟨h.pre.nd, by simp, fun a ha b hb e => hn (by
        have z : b = n := by simpa using hb
        rw [← z, ← e]; exact ha)⟩
    cases f with
    | none =>
      have tk : takenV (s.is ++ [(⟨n, none, none⟩ : Ic)]) = takenV s.is := by rw [takenV_append]; simp [takenV]
      refine ⟨h.R, h.C, ⟨ndn, by show (takenV _).Nodup; rw [tk]; exact h.pre.tn, fun q hq => h.pre.on q (by rw [← tk]; exact hq), fun i hi q hw => ?_⟩, fun _ q hq => ?_⟩
      · rcases List.mem_append.mp hi with hi | hi
        · exact h.pre.ws i hi q hw
        · have : i = ⟨n, none, none⟩ := by simpa using hi
          rw [this] at hw; cases hw
      · show q ∈ takenV _
        rw [tk]; exact free_no hR hC hf hq
    | some p =>
      obtain ⟨q1, q2⟩ := free_ok hR hC (Int.le_refl _) hf
      have tk : takenV (s.is ++ [(⟨n, some p, some p⟩ : Ic)]) = takenV s.is ++ [p] := by rw [takenV_append]; simp [takenV]
      refine ⟨h.R, h.C, ⟨ndn, ?_, fun q hq => ?_, fun i hi q hw => ?_⟩, fun hh q hq => ?_⟩
      · show (takenV _).Nodup
        rw [tk, List.nodup_append]
        exact ⟨h.pre.tn, by simp, fun a ha b hb e => q1 (by
          have z : b = p := by simpa using hb
          rw [← z, ← e]; exact ha)⟩
      · have hq : q ∈ takenV (s.is ++ [(⟨n, some p, some p⟩ : Ic)]) := hq
        rw [tk, List.mem_append] at hq
        rcases hq with hq | hq
        · exact h.pre.on q hq
        · have : q = p := by simpa using hq
          rw [this]; exact q2
      · rcases List.mem_append.mp hi with hi | hi
        · exact h.pre.ws i hi q hw
        · have : i = ⟨n, some p, some p⟩ := by simpa using hi
          rw [this] at hw; cases hw
          exact ⟨q2.1.1, q2.2.1⟩
      · show q ∈ takenV (s.is ++ [(⟨n, some p, some p⟩ : Ic)])
        rw [tk]
        refine List.mem_append.mpr (.inl (h.full ?_ q hq))
        obtain ⟨i, hi, e⟩ := hh
        rcases List.mem_append.mp hi with hi | hi
        · exact ⟨i, hi, e⟩
        · have : i = ⟨n, some p, some p⟩ := by simpa using hi
          rw [this] at e; cases e
theorem pre_drop {R C : Int} {n : Str} {is : Ics} (h : Pre R C is) : Pre R C (dropN n is) := by
  have sl : (dropN n is).Sublist is := List.filter_sublist
  exact ⟨h.nd.sublist (sl.map _), h.tn.sublist (sl.filterMap _), fun q hq => h.on q ((sl.filterMap _).subset hq), fun i hi => h.ws i (sl.subset hi)⟩
theorem own_mem {n : Str} {is : Ics} {own : Ic} {l : Ics} (h : ownV n is = own :: l) : own ∈ is ∧ own.n = n ∧ ∃ p, own.p = some p := by
  have m : own ∈ ownV n is := by rw [h]; exact List.mem_cons_self
  unfold ownV at m
  rw [List.mem_filter, Bool.and_eq_true, decide_eq_true_eq, Option.isSome_iff_exists] at m
  exact ⟨m.1, m.2.1, m.2.2⟩
theorem there_mem {n : Str} {q : Pl} {is : Ics} {t : Ic} {l : Ics} (h : thereV n q is = t :: l) : t ∈ is ∧ t.p = some q ∧ t.n ≠ n := by
  have m : t ∈ thereV n q is := by rw [h]; exact List.mem_cons_self
  unfold thereV at m
  rw [List.mem_filter, Bool.and_eq_true, decide_eq_true_eq, Bool.not_eq_true', decide_eq_false_iff_not] at m
  exact ⟨m.1, m.2.1, m.2.2⟩
theorem there_nil {n : Str} {q : Pl} {is : Ics} (h : thereV n q is = []) : ∀ x ∈ is, x.n ≠ n → x.p ≠ some q := fun x hx hn hp => by
  have m : x ∈ thereV n q is := by
    unfold thereV
    rw [List.mem_filter, Bool.and_eq_true, decide_eq_true_eq, Bool.not_eq_true', decide_eq_false_iff_not]
    exact ⟨hx, hp, hn⟩
  rw [h] at m
  exact absurd m (by simp)
theorem inv_put {r : Rule} {s : Sta} {n : Str} {q : Pl} (h : Inv s) (hq : 0 ≤ q.1 ∧ 0 ≤ q.2) : Inv (putV r s n q) := by
  have hR : 0 < s.R := by have := h.R; omega
  have hC : 0 < s.C := by have := h.C; omega
  unfold putV
  split
  · exact h
  · rename_i own l ho
    obtain ⟨o1, o2, p0, o3⟩ := own_mem ho
    have hn : n ∈ namesV s.is := List.mem_map.mpr ⟨own, o1, o2⟩
    split
    · rename_i hon
      have hd := onV_iff.mp hon
      split
      · rename_i ht
        exact filled_inv h.R h.C (pre_one h.pre hn hd (there_nil ht))
      · rename_i t l2 ht
        obtain ⟨t1, t2, t3⟩ := there_mem ht
        split
        · exact inv_swap h o1 o2 o3 t1 t2 t3
        · split
          · split
            · rename_i f hf
              have nq := num_rng (r := r) hR hC hd.1 hd.2
              obtain ⟨f1, f2⟩ := free_ok hR hC (by omega) hf
              exact filled_inv h.R h.C (pre_one h.pre hn f2 fun x hx _ z => f1 (mem_taken.mpr ⟨x, hx, z⟩))
            · exact h
          · exact h
    · exact h
/-- the deed's numbers are a deed's -/
def okDeed : Deed → Prop
  | .put _ a b => (0 ≤ a ∧ a ≤ 2) ∧ (0 ≤ b ∧ b ≤ 2)
  | .size a b => (-2 ≤ a ∧ a ≤ 2) ∧ (-2 ≤ b ∧ b ≤ 2)
  | _ => True
theorem inv_after {r : Rule} {s : Sta} {d : Deed} (h : Inv s) (hd : okDeed d) : Inv (afterV r s d) := by
  cases d with
  | add n => exact inv_added h
  | drop n => exact filled_inv h.R h.C (pre_drop h.pre)
  | put n a b => exact inv_put h ⟨hd.1.1, hd.2.1⟩
  | sort => exact inv_sorted h
  | size a b => exact inv_resized h
theorem inv_last {r : Rule} : ∀ {ds : List Deed} {s : Sta}, Inv s → (∀ d ∈ ds, okDeed d) → Inv (lastV r s ds)
  | [], _, h, _ => h
  | d :: ds, s, h, hd => inv_last (ds := ds) (inv_after h (hd d List.mem_cons_self)) fun x hx => hd x (List.mem_cons_of_mem _ hx)
theorem inv_empty {R C : Int} (hR : 1 ≤ R) (hC : 1 ≤ C) : Inv ⟨R, C, []⟩ := ⟨hR, hC, ⟨List.nodup_nil, List.nodup_nil, fun q hq => absurd hq (by simp [takenV]), fun i hi => absurd hi (by simp)⟩, fun ⟨i, hi, _⟩ => absurd hi (by simp)⟩
end QL

/-! QSim2: more equations for runs; what stands for icons. -/
namespace Q
open PySem PySem.Spec L2

def kSort (n : Nat) (x : D) (st : Store) : R := (seqOf st x).bind fun xs => (sortKD n xs).bind fun ys => if ys.length ≤ sizeLine then some (.lst ys, st) else none
def kEnum (x : D) (st : Store) : RI := match x with
  | .tup ds => some (none, enumD 0 ds, st)
  | .lst ds => some (none, enumD 0 ds, st)
  | _ => none
def kZip (x y : D) (st : Store) : RI := match x, y with
  | .tup xs, .tup ys => some (none, zipD xs ys, st)
  | _, _ => none
def fZip (C : Ctx) (b : X) (env : Env) (x : D) (st : Store) : RI := th (kZip x) (ev C b env st)
def kGlb (o : Option D) (st : Store) : R := match o with
  | some d => some (d, st)
  | none => none
theorem Nw : (∀ (C : Q.Ctx) (a ky : X) (env : Env) (st : Store), ev C (.sortK a ky) env st = th (kSort (keyN ky)) (ev C a env st)) ∧ (∀ (C : Q.Ctx) (a : X) (env : Env) (st : Store), evIt C (.enum a) env st = th kEnum (ev C a env st)) ∧
    (∀ (C : Q.Ctx) (a b : X) (env : Env) (st : Store), evIt C (.zip a b) env st = th (fZip C b env) (ev C a env st)) ∧ (∀ (C : Q.Ctx) (b : X) (env : Env) (x : D) (st : Store), fZip C b env x st = th (kZip x) (ev C b env st)) ∧
    (∀ (C : Q.Ctx) (x : Str) (env : Env) (st : Store), ev C (.glb x) env st = kGlb (C.cst x) st) ∧ (∀ (d : D) (st : Store), kGlb (some d) st = some (d, st)) ∧ (∀ (ds : List D) (st : Store), kEnum (.tup ds) st = some (none, enumD 0 ds, st)) ∧ (∀ (ds : List D) (st : Store), kEnum (.lst ds) st = some (none, enumD 0 ds, st)) ∧
    (∀ (xs ys : List D) (st : Store), kZip (.tup xs) (.tup ys) st = some (none, zipD xs ys, st)) ∧ (∀ (a : X) (es : List X) (env : Env) (C : Q.Ctx) (st : Store), evL C (.star a :: es) env st = th (fStar C es env) (ev C a env st)) ∧
    (∀ (a b : X), starX (.sortK a b) = false) ∧ (∀ (a : List (Str × Nat)) (b : Tt) (c : Nat) (d e : X), starX (.compK a b c d e) = false) ∧ (∀ (a b : List X), starX (.dct a b) = false) ∧ (∀ (C : Q.Ctx) (xs ys : List X) (env : Q.Env) (st : Store), ev C (.dct xs ys) env st = th kDct (evL C xs env st)) := by
  refine ⟨?_, ?_, ?_, fun _ _ _ _ _ => rfl, ?_, fun _ _ => rfl, fun _ _ => rfl, fun _ _ => rfl, fun _ _ _ => rfl, ?_, fun _ _ => rfl, fun _ _ _ _ _ => rfl, fun _ _ => rfl, fun _ _ _ _ _ => ev_dct⟩
  · intro C a ky env st
    simp only [ev]; rfl
  · intro C a env st
    simp only [evIt]
    rcases ev C a env st with _ | ⟨x, st1⟩
    · rfl
    · cases x <;> rfl
  · intro C a b env st
    simp only [evIt]
    rcases ev C a env st with _ | ⟨x, st1⟩
    · rfl
    · show ((ev C b env st1).bind _) = th (kZip x) (ev C b env st1)
      rcases ev C b env st1 with _ | ⟨y, st2⟩
      · rfl
      · cases x <;> cases y <;> rfl
  · intro C x env st
    simp only [ev]
    cases C.cst x <;> rfl
  · intro a es env C st
    simp only [evL]
    rcases ev C a env st with _ | ⟨x, st1⟩
    · rfl
    · show ((seqOf st1 x).bind fun xs => (evL C es env st1).map fun q => (xs ++ q.1, q.2)) = fStar C es env x st1
      unfold fStar
      cases seqOf st1 x with
      | none => rfl
      | some xs =>
        show ((evL C es env st1).map _) = th (fStar2 xs) (evL C es env st1)
        cases evL C es env st1 <;> rfl
theorem fStar_tup {C : Q.Ctx} {es : List X} {env : Env} {ds : List D} {st : Store} : fStar C es env (.tup ds) st = th (fStar2 ds) (evL C es env st) := rfl
theorem fStar2_eq {xs ys : List D} {st : Store} : fStar2 xs ys st = some (xs ++ ys, st) := rfl
theorem one1_bind {C : Q.Ctx} {own : List (Str × Nat)} {t : Tt} {c e : X} {env env1 : Env} {d : D} {st : Store} (h : bindT t d (wipeE env (own.map (·.2))) = some env1) : one1 C own t c e env d st = th (kBl C e env1) (ev C c env1 st) := by
  unfold one1 compOne
  rw [h]
  show ((asB (ev C c env1 st)).bind _) = th (kBl C e env1) (ev C c env1 st)
  rcases ev C c env1 st with _ | ⟨x, st1⟩
  · rfl
  · cases x <;> try rfl
    rename_i b
    cases b
    · rfl
    · show (Option.map (fun q => ([q.1], q.2)) (ev C e env1 st1)) = th (fun d st => some ([d], st)) (ev C e env1 st1)
      rw [map_th]
theorem loop_flat {α : Type} {st : Store} {one : D → Store → Option (List D × Store)} {F : α → D} {G : α → List D} : ∀ {is : List α}, (∀ i ∈ is, one (F i) st = some (G i, st)) → compLoop none one (is.map F) st = some (is.flatMap G, st)
  | [], _ => rfl
  | i :: is, h => by
    have ih := loop_flat (fun j hj => h j (List.mem_cons_of_mem i hj))
    show (if guardOk none st = true then (one (F i) st).bind fun r => (compLoop none one (is.map F) r.2).bind fun q => some (r.1 ++ q.1, q.2) else none) = _
    rw [if_pos (show guardOk none st = true from rfl), h i List.mem_cons_self]
    show ((compLoop none one (is.map F) st).bind fun q => some (G i ++ q.1, q.2)) = _
    rw [ih]; rfl
theorem size_le {n : Nat} (h : n ≤ 1000000) : n ≤ sizeLine := Nat.le_trans h (by decide)
theorem while_ret {c : Q.Env → Store → Option (Bool × Store)} {body : Q.Env → Store → RS} {n : Nat} {env env2 : Q.Env} {st st1 st2 : Store} {d : D} (h : c env st = some (true, st1)) (h2 : body env st1 = some (.ret d, env2, st2)) : whileLoop c body (n + 1) env st = some (.ret d, env2, st2) := by
  show ((c env st).bind _) = _
  rw [h]
  show ((body env st1).bind _) = _
  rw [h2]; rfl
theorem for_nil {bd : D → Env → Option Env} {body : Env → Store → RS} {env : Env} {st : Store} : forLoop none bd body [] env st = some (.next, env, st) := rfl
theorem for_next {bd : D → Env → Option Env} {body : Env → Store → RS} {x : D} {xs : List D} {env env1 env2 : Env} {st st2 : Store} (h1 : bd x env = some env1) (h2 : body env1 st = some (.next, env2, st2)) : forLoop none bd body (x :: xs) env st = forLoop none bd body xs env2 st2 := by
  show (if guardOk none st = true then (bd x env).bind fun env1 => (body env1 st).bind fun r => match r with
      | (.ret d, env2, st2) => some (.ret d, env2, st2)
      | (.next, env2, st2) => forLoop none bd body xs env2 st2 else none) = _
  rw [if_pos (show guardOk none st = true from rfl), h1]
  show ((body env1 st).bind _) = _
  rw [h2]; rfl
theorem for_ret {bd : D → Env → Option Env} {body : Env → Store → RS} {x : D} {xs : List D} {env env1 env2 : Env} {st st2 : Store} {d : D} (h1 : bd x env = some env1) (h2 : body env1 st = some (.ret d, env2, st2)) : forLoop none bd body (x :: xs) env st = some (.ret d, env2, st2) := by
  show (if guardOk none st = true then (bd x env).bind fun env1 => (body env1 st).bind fun r => match r with
      | (.ret d, env2, st2) => some (.ret d, env2, st2)
      | (.next, env2, st2) => forLoop none bd body xs env2 st2 else none) = _
  rw [if_pos (show guardOk none st = true from rfl), h1]
  show ((body env1 st).bind _) = _
  rw [h2]; rfl
/-- a comprehension over a dict's keys, whose turns leave all as it is -/
theorem compK_run {C : Q.Ctx} {own : List (Str × Nat)} {t : Tt} {i n : Nat} {c e : X} {env : Env} {st : Store} {kvs : List (Key × D)} {f : D → List D} (h1 : env[i]? = some (some (.loc n))) (h2 : st[n]? = some (.dct kvs))
    (h3 : ∀ d ∈ kvs.map (fun (kv : Key × D) => unkey kv.1), one1 C own t c e env d (st.set n (.lck kvs)) = some (f d, st.set n (.lck kvs))) (h4 : ((kvs.map fun (kv : Key × D) => unkey kv.1).flatMap f).length ≤ sizeLine) :
    ev C (.compK own t i c e) env st = some (.lst ((kvs.map fun (kv : Key × D) => unkey kv.1).flatMap f), st) := by
  have hn : n < st.length := (List.getElem?_eq_some_iff.mp h2).1
  have loop := compLoop_all (one := one1 C own t c e env) (st := st.set n (.lck kvs)) (f := f) (ds := kvs.map fun (kv : Key × D) => unkey kv.1) h3
  simp only [ev, h1, h2]
  show (compLoop none (one1 C own t c e env) (kvs.map fun (kv : Key × D) => unkey kv.1) (st.set n (.lck kvs))).bind _ = _
  rw [loop]
  show (match (st.set n (.lck kvs))[n]? with
    | some (.lck kvs') => if ((kvs.map fun (kv : Key × D) => unkey kv.1).flatMap f).length ≤ sizeLine then some (D.lst ((kvs.map fun (kv : Key × D) => unkey kv.1).flatMap f), (st.set n (.lck kvs)).set n (.dct kvs')) else none
    | _ => none) = _
  rw [List.getElem?_set_self hn]
  show (if ((kvs.map fun (kv : Key × D) => unkey kv.1).flatMap f).length ≤ sizeLine then some (D.lst ((kvs.map fun (kv : Key × D) => unkey kv.1).flatMap f), (st.set n (.lck kvs)).set n (.dct kvs)) else none) = _
  rw [if_pos h4, List.set_set]
  congr 2
  refine List.ext_getElem? fun j => ?_
  rw [List.getElem?_set]
  split
  · rename_i e
    subst e
    rw [h2]
  · rfl
theorem cut_to {α : Type} {xs : List α} {j : Nat} (h : j ≤ xs.length) : cutD xs none (some (j : Int)) = xs.take j := by
  unfold cutD
  rw [HT.sIx_none, HT.sIx_nat, List.drop_zero, Nat.sub_zero, Nat.min_eq_left h]
theorem cut_from {α : Type} {xs : List α} {j : Nat} (h : j ≤ xs.length) : cutD xs (some (j : Int)) none = xs.drop j := by
  unfold cutD
  rw [HT.sIx_none, HT.sIx_nat, Nat.min_eq_left h]
  exact List.take_of_length_le (by simp)
end Q
namespace QL
open PySem PySem.Spec L2 Q
/-! ### icons as data -/
def optD : Option Pl → D
  | none => .non
  | some p => placeD p
def iconD (i : Ic) : D := .tup [.str i.n, optD i.p, optD i.w]
def iconsD (is : Ics) : D := .tup (is.map iconD)
def staD (s : Sta) : D := .tup [sizeD s.R s.C, iconsD s.is]
def deedD : Deed → D
  | .add n => .tup [.str "add", .str n]
  | .drop n => .tup [.str "drop", .str n]
  | .put n a b => .tup [.str "put", .str n, .int a, .int b]
  | .sort => .tup [.str "sort"]
  | .size a b => .tup [.str "size", .int a, .int b]
def rowD (ds : List Deed) : D := .tup (ds.map deedD)
theorem optD_eq (a b : Option Pl) : D.eq (optD a) (optD b) = decide (a = b) := by
  cases a with
  | none => cases b <;> simp [optD, placeD, D.eq]
  | some p =>
    cases b with
    | none => simp [optD, placeD, D.eq]
    | some q =>
      obtain ⟨a1, a2⟩ := p
      obtain ⟨b1, b2⟩ := q
      by_cases e1 : a1 = b1 <;> by_cases e2 : a2 = b2 <;> simp [optD, placeD, D.eq, D.eqL, e1, e2]
theorem optD_ok (n : Nat) (a : Option Pl) : D.ok (n + 1) (optD a) = true := by
  cases a <;> simp [optD, placeD, D.ok, D.okL]
theorem optD_pure (st : Store) (a : Option Pl) : pure1 st (optD a) = optD a := by cases a <;> rfl
theorem optD_non (a : Option Pl) : _root_.Q.isNon (optD a) = !a.isSome := by cases a <;> rfl
theorem mem_taken_d {st : Store} {q : Pl} {tk : List Pl} : memD st (placeD q) (.lst (tk.map placeD)) = some (decide (q ∈ tk)) := by
  have ok : D.okL 20 (tk.map placeD) = true := okL_of fun d hd => by
    obtain ⟨x, _, rfl⟩ := List.mem_map.mp hd
    exact optD_ok 19 (some x)
  show (if (D.ok 20 (placeD q) && D.okL 20 (tk.map placeD)) = true then some ((tk.map placeD).any fun y => y.eq (placeD q)) else none) = _
  rw [ok, show D.ok 20 (placeD q) = true from optD_ok 19 (some q)]
  show some ((tk.map placeD).any fun y => y.eq (placeD q)) = _
  rw [List.any_map]
  congr 1
  rw [Bool.eq_iff_iff, List.any_eq_true, decide_eq_true_eq]
  constructor
  · rintro ⟨x, hx, e⟩
    have e : D.eq (placeD x) (placeD q) = true := e
    have z := optD_eq (some x) (some q)
    rw [show optD (some x) = placeD x from rfl, show optD (some q) = placeD q from rfl, e] at z
    have := of_decide_eq_true z.symm
    cases this
    exact hx
  · intro h
    refine ⟨q, h, ?_⟩
    show D.eq (placeD q) (placeD q) = true
    exact (optD_eq (some q) (some q)).trans (by simp)
theorem OptE : (∀ (st : Store) (a b : Option Pl), cmpD st .Eq (optD a) (optD b) = some (decide (a = b))) ∧ (∀ (st : Store) (a b : Option Pl), cmpD st .NotEq (optD a) (optD b) = some (!decide (a = b))) ∧
    (∀ (st : Store) (a : Option Pl) (q : Pl), cmpD st .Eq (optD a) (placeD q) = some (decide (a = some q))) ∧ (∀ (a : Option Pl), _root_.Q.isNon (optD a) = !a.isSome) ∧ (∀ (st : Store) (q : Pl) (tk : List Pl), memD st (placeD q) (.lst (tk.map placeD)) = some (decide (q ∈ tk))) ∧ (∀ (q : Pl), _root_.Q.isNon (placeD q) = false) ∧ optD none = .non ∧ _root_.Q.isNon .non = true := by
  have e : ∀ (st : Store) (a b : Option Pl), cmpD st .Eq (optD a) (optD b) = some (decide (a = b)) := fun st a b => by
    show deq st (optD a) (optD b) = _
    unfold deq
    rw [optD_pure, optD_pure, optD_ok 19, optD_ok 19, optD_eq]; rfl
  refine ⟨e, fun st a b => ?_, fun st a q => e st a (some q), optD_non, fun _ _ _ => mem_taken_d, fun _ => rfl, rfl, rfl⟩
  have q := e st a b
  show (deq st (optD a) (optD b)).map not = _
  rw [show deq st (optD a) (optD b) = some (decide (a = b)) from q]; rfl
theorem IcE : (∀ (i : Ic) (st : Store), subD st (iconD i) (.int 0) = some (.str i.n)) ∧ (∀ (i : Ic) (st : Store), subD st (iconD i) (.int 1) = some (optD i.p)) ∧ (∀ (s : Sta) (st : Store), subD st (staD s) (.int 0) = some (sizeD s.R s.C)) ∧ (∀ (s : Sta) (st : Store), subD st (staD s) (.int 1) = some (iconsD s.is)) ∧
    (∀ (is : Ics) (st : Store), srcOf (iconsD is) st = some (none, is.map iconD, st)) ∧ (∀ (is : Ics) (st : Store), kEnum (iconsD is) st = some (none, enumD 0 (is.map iconD), st)) ∧ (∀ (is : Ics) (st : Store), lenD st (iconsD is) = some (is.length : Int)) := by
  refine ⟨fun _ _ => rfl, fun _ _ => rfl, fun _ _ => rfl, fun _ _ => rfl, fun _ _ => rfl, fun _ _ => rfl, fun is _ => ?_⟩
  show some (((is.map iconD).length : Nat) : Int) = _
  rw [List.length_map]
end QL

/-! QRun: what the functions of laying.py do. -/
namespace QL
open PySem PySem.Spec L2 Q
def d_is_on : Q.Def := { name := "is_on", arity := 2, names := ["size", "place"], body := [.ret (.and [.notN (.var 1), .chain .LtE .Lt (.int 0) (.sub (.var 1) (.int 0)) (.sub (.var 0) (.int 0)), .chain .LtE .Lt (.int 0) (.sub (.var 1) (.int 1)) (.sub (.var 0) (.int 1))])] }
def d_first_free : Q.Def := { name := "first_free", arity := 4, names := ["rule", "size", "taken", "start", "index", "many", "place"], body := [.par [4, 5] [.var 3, .bin .Mult (.sub (.var 1) (.int 0)) (.sub (.var 1) (.int 1))], .while_ (.cmp .Lt (.var 4) (.var 5)) [.set (.name 6) (.call "cell_at" [.var 0, .var 1, .var 4]), .ite (.notIn (.var 6) (.var 2)) [.ret (.var 6)] [], .aug 4 .Add (.int 1)], .ret (.non)] }
def d_taken : Q.Def := { name := "taken", arity := 1, names := ["icons", "name", "place", "wish"], body := [.ret (.comp [("name", 1), ("place", 2), ("wish", 3)] (.tup [.name 1, .name 2, .name 3]) (.seq (.var 0)) (.notN (.var 2)) (.var 2))] }
def d_called_back : Q.Def := { name := "called_back", arity := 2, names := ["size", "icons", "places", "at", "name", "place", "wish"], body := [.set (.name 2) (.call "taken" [.var 1]), .for_ (.tup [.name 3, .tup [.name 4, .name 5, .name 6]]) (.enum (.var 1)) [.ite (.and [.cmp .NotEq (.var 5) (.var 6), .call "is_on" [.var 0, .var 6], .notIn (.var 6) (.var 2)]) [.ret (.tup [.star (.slice (.var 1) (.none_) (.var 3)), .tup [.var 4, .var 6, .var 6], .star (.slice (.var 1) (.bin .Add (.var 3) (.int 1)) (.none_))])] []], .ret (.var 1)] }
def d_filled : Q.Def := { name := "filled", arity := 3, names := ["rule", "size", "icons", "found", "at", "name", "place", "wish"], body := [.set (.name 3) (.bi .list true [.var 2]), .for_ (.tup [.name 4, .tup [.name 5, .name 6, .name 7]]) (.enum (.var 2)) [.ite (.isN (.var 6)) [.set (.sub (.var 3) (.var 4)) (.tup [.var 5, .call "first_free" [.var 0, .var 1, .call "taken" [.var 3], .int 0], .var 7])] []], .ret (.bi .tuple false [.var 3])] }
def d_resized : Q.Def := { name := "resized", arity := 3, names := ["rule", "state", "more", "size", "one", "other", "icons", "name", "place", "wish", "turn"], body := [.set (.name 3) (.bi .tuple false [.comp [("one", 4), ("other", 5)] (.tup [.name 4, .name 5]) (.zip (.sub (.var 1) (.int 0)) (.var 2)) (.bl true) (.bi .max false [.int 1, .bin .Add (.var 4) (.var 5)])]), .set (.name 6) (.bi .tuple false [.comp [("name", 7), ("place", 8), ("wish", 9)] (.tup [.name 7, .name 8, .name 9]) (.seq (.sub (.var 1) (.int 1))) (.bl true) (.tup [.var 7, .ite (.call "is_on" [.var 3, .var 8]) (.var 8) (.non), .var 9])]), .ite (.sub (.var 0) (.int 3)) [.for_ (.name 10) (.rng1 (.bin .Add (.bin .Mult (.int 2) (.bi .len false [.var 6])) (.int 1))) [.set (.name 6) (.call "called_back" [.var 3, .var 6])]] [], .ret (.tup [.var 3, .call "filled" [.var 0, .var 3, .var 6]])] }
def d_added : Q.Def := { name := "added", arity := 3, names := ["rule", "state", "name", "size", "icons", "icon", "place"], body := [.set (.tup [.name 3, .name 4]) (.var 1), .ite (.mem (.var 2) (.comp [("icon", 5)] (.name 5) (.seq (.var 4)) (.bl true) (.sub (.var 5) (.int 0)))) [.ret (.var 1)] [], .set (.name 6) (.call "first_free" [.var 0, .var 3, .call "taken" [.var 4], .int 0]), .ret (.tup [.var 3, .tup [.star (.var 4), .tup [.var 2, .var 6, .var 6]]])] }
def d_dropped : Q.Def := { name := "dropped", arity := 3, names := ["rule", "state", "name", "size", "icons", "icon"], body := [.set (.tup [.name 3, .name 4]) (.var 1), .ret (.tup [.var 3, .call "filled" [.var 0, .var 3, .bi .tuple false [.comp [("icon", 5)] (.name 5) (.seq (.var 4)) (.cmp .NotEq (.sub (.var 5) (.int 0)) (.var 2)) (.var 5)]]])] }
def d_with_places : Q.Def := { name := "with_places", arity := 2, names := ["icons", "places", "icon"], body := [.ret (.bi .tuple false [.comp [("icon", 2)] (.name 2) (.seq (.var 0)) (.bl true) (.ite (.memK (.sub (.var 2) (.int 0)) (.var 1)) (.tup [.sub (.var 2) (.int 0), .subK (.var 1) (.sub (.var 2) (.int 0)), .subK (.var 1) (.sub (.var 2) (.int 0))]) (.var 2))])] }
def d_put : Q.Def := { name := "put", arity := 4, names := ["rule", "state", "name", "place", "size", "icons", "own", "icon", "there", "free"], body := [.set (.tup [.name 4, .name 5]) (.var 1), .set (.name 6) (.comp [("icon", 7)] (.name 7) (.seq (.var 5)) (.and [.cmp .Eq (.sub (.var 7) (.int 0)) (.var 2), .notN (.sub (.var 7) (.int 1))]) (.var 7)), .ite (.or [.cmp .Eq (.var 6) (.lst false []), .not (.call "is_on" [.var 4, .var 3])]) [.ret (.var 1)] [], .set (.name 8) (.comp [("icon", 7)] (.name 7) (.seq (.var 5)) (.and [.cmp .Eq (.sub (.var 7) (.int 1)) (.var 3), .cmp .NotEq (.sub (.var 7) (.int 0)) (.var 2)]) (.var 7)), .ite (.cmp .Eq (.var 8) (.lst false [])) [.ret (.tup [.var 4, .call "filled" [.var 0, .var 4, .call "with_places" [.var 5, .dct [.var 2, .var 3] []]]])] [], .ite (.cmp .Eq (.sub (.var 0) (.int 2)) (.str "swap")) [.ret (.tup [.var 4, .call "with_places" [.var 5, .dct [.var 2, .var 3, .sub (.sub (.var 8) (.int 0)) (.int 0), .sub (.sub (.var 6) (.int 0)) (.int 1)] []]])] [], .ite (.cmp .Eq (.sub (.var 0) (.int 2)) (.str "next")) [.set (.name 9) (.call "first_free" [.var 0, .var 4, .call "taken" [.var 5], .bin .Add (.call "index_of" [.var 0, .var 4, .var 3]) (.int 1)]), .ite (.notN (.var 9)) [.ret (.tup [.var 4, .call "filled" [.var 0, .var 4, .call "with_places" [.var 5, .dct [.var 2, .var 9] []]]])] []] [], .ret (.var 1)] }
def d_sorted_by_name : Q.Def := { name := "sorted_by_name", arity := 2, names := ["rule", "state", "size", "icons", "places", "many", "index", "name", "icon"], body := [.set (.tup [.name 2, .name 3]) (.var 1), .par [4, 5] [.dct [] [], .bin .Mult (.sub (.var 2) (.int 0)) (.sub (.var 2) (.int 1))], .for_ (.tup [.name 6, .name 7]) (.enum (.bi .sorted false [.comp [("icon", 8)] (.name 8) (.seq (.var 3)) (.bl true) (.sub (.var 8) (.int 0))])) [.set (.subK (.var 4) (.var 7)) (.ite (.cmp .Lt (.var 6) (.var 5)) (.call "cell_at" [.var 0, .var 2, .var 6]) (.non))], .ret (.tup [.var 2, .call "with_places" [.var 3, .var 4]])] }
def d_after : Q.Def := { name := "after", arity := 3, names := ["rule", "state", "deed"], body := [.ite (.cmp .Eq (.sub (.var 2) (.int 0)) (.str "add")) [.ret (.call "added" [.var 0, .var 1, .sub (.var 2) (.int 1)])] [], .ite (.cmp .Eq (.sub (.var 2) (.int 0)) (.str "drop")) [.ret (.call "dropped" [.var 0, .var 1, .sub (.var 2) (.int 1)])] [], .ite (.cmp .Eq (.sub (.var 2) (.int 0)) (.str "put")) [.ret (.call "put" [.var 0, .var 1, .sub (.var 2) (.int 1), .tup [.sub (.var 2) (.int 2), .sub (.var 2) (.int 3)]])] [], .ite (.cmp .Eq (.sub (.var 2) (.int 0)) (.str "size")) [.ret (.call "resized" [.var 0, .var 1, .tup [.sub (.var 2) (.int 1), .sub (.var 2) (.int 2)]])] [], .ret (.call "sorted_by_name" [.var 0, .var 1])] }
def d_last_state : Q.Def := { name := "last_state", arity := 3, names := ["rule", "size", "row", "state", "deed"], body := [.set (.name 3) (.tup [.var 1, .tup []]), .for_ (.name 4) (.seq (.var 2)) [.set (.name 3) (.call "after" [.var 0, .var 3, .var 4])], .ret (.var 3)] }
def d_shown : Q.Def := { name := "shown", arity := 1, names := ["state", "name", "place", "wish"], body := [.ret (.tup [.sub (.var 0) (.int 0), .bi .tuple false [.comp [("name", 1), ("place", 2), ("wish", 3)] (.tup [.name 1, .name 2, .name 3]) (.seq (.sortK (.sub (.var 0) (.int 1)) (.int 0))) (.bl true) (.tup [.var 1, .var 2])]])] }
def d_laid : Q.Def := { name := "laid", arity := 3, names := ["rule", "size", "row"], body := [.ret (.call "shown" [.call "last_state" [.var 0, .var 1, .var 2]])] }
def d_law_name : Q.Def := { name := "_law_name", arity := 1, names := ["tape"], body := [.ret (.sub (.lst false [.str "a", .str "b", .str "c", .str "d", .str "b", .str "icon"]) (.call "_law_draw" [.var 0, .int 6]))] }
def d_law_deed : Q.Def := { name := "_law_deed", arity := 1, names := ["tape", "way"], body := [.set (.name 1) (.call "_law_draw" [.var 0, .int 12]), .ite (.cmp .Lt (.var 1) (.int 5)) [.ret (.tup [.str "add", .call "_law_name" [.var 0]])] [], .ite (.cmp .Lt (.var 1) (.int 6)) [.ret (.tup [.str "drop", .call "_law_name" [.var 0]])] [], .ite (.cmp .Lt (.var 1) (.int 9)) [.ret (.tup [.str "put", .call "_law_name" [.var 0], .call "_law_draw" [.var 0, .int 3], .call "_law_draw" [.var 0, .int 3]])] [], .ret (.ite (.cmp .Lt (.var 1) (.int 10)) (.tup [.str "sort"]) (.tup [.str "size", .bin .Sub (.call "_law_draw" [.var 0, .int 5]) (.int 2), .bin .Sub (.call "_law_draw" [.var 0, .int 5]) (.int 2)]))] }
def d_law_row : Q.Def := { name := "_law_row", arity := 2, names := ["tape", "most", "found", "turn"], body := [.set (.name 2) (.tup []), .for_ (.name 3) (.rng1 (.call "_law_draw" [.var 0, .bin .Add (.var 1) (.int 1)])) [.set (.name 2) (.bin .Add (.var 2) (.tup [.call "_law_deed" [.var 0]]))], .ret (.var 2)] }
def d_law_free : Q.Def := { name := "_law_free", arity := 4, names := ["rule", "size", "places", "start", "used", "name", "index", "spot"], body := [.set (.name 4) (.compK [("name", 5)] (.name 5) 2 (.bl true) (.subK (.var 2) (.var 5))), .for_ (.name 6) (.rng2 (.var 3) (.bi .min false [.bin .Mult (.sub (.var 1) (.int 0)) (.sub (.var 1) (.int 1)), .bin .Add (.bin .Add (.var 3) (.bi .len false [.var 4])) (.int 1)])) [.set (.name 7) (.call "_law_spot" [.var 0, .var 1, .var 6]), .ite (.notIn (.var 7) (.var 4)) [.ret (.var 7)] []], .ret (.non)] }
def d_law_come : Q.Def := { name := "_law_come", arity := 3, names := ["rule", "size", "places", "name"], body := [.for_ (.name 3) (.seq (.bi .list false [.var 2])) [.ite (.isN (.subK (.var 2) (.var 3))) [.set (.subK (.var 2) (.var 3)) (.call "_law_free" [.var 0, .var 1, .var 2, .int 0])] []]] }
def d_law_on : Q.Def := { name := "_law_on", arity := 2, names := ["size", "place"], body := [.ret (.and [.notN (.var 1), .cmp .Lt (.sub (.var 1) (.int 0)) (.sub (.var 0) (.int 0)), .cmp .Lt (.sub (.var 1) (.int 1)) (.sub (.var 0) (.int 1))])] }
def d_law_back : Q.Def := { name := "_law_back", arity := 3, names := ["size", "places", "wishes", "more", "name", "wish", "used", "other"], body := [.set (.name 3) (.bl true), .while_ (.var 3) [.set (.name 3) (.bl false), .for_ (.name 4) (.seq (.bi .list false [.var 1])) [.set (.name 5) (.subK (.var 2) (.var 4)), .set (.name 6) (.compK [("other", 7)] (.name 7) 1 (.bl true) (.subK (.var 1) (.var 7))), .ite (.and [.not (.var 3), .cmp .NotEq (.subK (.var 1) (.var 4)) (.var 5), .call "_law_on" [.var 0, .var 5], .notIn (.var 5) (.var 6)]) [.set (.subK (.var 1) (.var 4)) (.var 5), .set (.name 3) (.bl true)] []]]] }
def d_law_put : Q.Def := { name := "_law_put", arity := 6, names := ["rule", "size", "places", "wishes", "name", "place", "other", "own", "spot", "there", "free"], body := [.ite (.or [.isN (.meth .get (.var 2) [.var 4]), .not (.call "_law_on" [.var 1, .var 5])]) [.ret (.non)] [], .set (.name 6) (.compK [("own", 7)] (.name 7) 2 (.and [.cmp .Eq (.subK (.var 2) (.var 7)) (.var 5), .cmp .NotEq (.var 7) (.var 4)]) (.var 7)), .ite (.cmp .Eq (.var 6) (.lst false [])) [.set (.tup [.subK (.var 2) (.var 4), .subK (.var 3) (.var 4)]) (.tup [.var 5, .var 5])] [.ite (.cmp .Eq (.sub (.var 0) (.int 2)) (.str "swap")) [.par [8, 9] [.subK (.var 2) (.var 4), .sub (.var 6) (.int 0)], .set (.tup [.subK (.var 2) (.var 9), .subK (.var 3) (.var 9)]) (.tup [.var 8, .var 8]), .set (.tup [.subK (.var 2) (.var 4), .subK (.var 3) (.var 4)]) (.tup [.var 5, .var 5])] [.ite (.cmp .Eq (.sub (.var 0) (.int 2)) (.str "next")) [.set (.name 10) (.call "_law_free" [.var 0, .var 1, .var 2, .bin .Add (.call "_law_number" [.var 0, .var 1, .var 5]) (.int 1)]), .ite (.notN (.var 10)) [.set (.tup [.subK (.var 2) (.var 4), .subK (.var 3) (.var 4)]) (.tup [.var 10, .var 10])] []] []]], .expr (.call "_law_come" [.var 0, .var 1, .var 2]), .ret (.non)] }
def d_law_done : Q.Def := { name := "_law_done", arity := 5, names := ["rule", "size", "places", "wishes", "deed", "spot", "at", "name"], body := [.ite (.and [.cmp .Eq (.sub (.var 4) (.int 0)) (.str "add"), .notInK (.sub (.var 4) (.int 1)) (.var 2)]) [.set (.name 5) (.call "_law_free" [.var 0, .var 1, .var 2, .int 0]), .set (.tup [.subK (.var 2) (.sub (.var 4) (.int 1)), .subK (.var 3) (.sub (.var 4) (.int 1))]) (.tup [.var 5, .var 5])] [], .ite (.and [.cmp .Eq (.sub (.var 4) (.int 0)) (.str "drop"), .memK (.sub (.var 4) (.int 1)) (.var 2)]) [.expr (.meth .popK (.var 2) [.sub (.var 4) (.int 1)]), .expr (.call "_law_come" [.var 0, .var 1, .var 2])] [], .ite (.cmp .Eq (.sub (.var 4) (.int 0)) (.str "put")) [.expr (.call "_law_put" [.var 0, .var 1, .var 2, .var 3, .sub (.var 4) (.int 1), .tup [.sub (.var 4) (.int 2), .sub (.var 4) (.int 3)]])] [], .ite (.cmp .Eq (.sub (.var 4) (.int 0)) (.str "sort")) [.for_ (.tup [.name 6, .name 7]) (.enum (.bi .sorted false [.bi .list false [.var 2]])) [.set (.name 5) (.ite (.cmp .Lt (.var 6) (.bin .Mult (.sub (.var 1) (.int 0)) (.sub (.var 1) (.int 1)))) (.call "_law_spot" [.var 0, .var 1, .var 6]) (.non)), .set (.tup [.subK (.var 2) (.var 7), .subK (.var 3) (.var 7)]) (.tup [.var 5, .var 5])]] [], .ite (.cmp .Eq (.sub (.var 4) (.int 0)) (.str "size")) [.set (.name 1) (.tup [.bi .max false [.int 1, .bin .Add (.sub (.var 1) (.int 0)) (.sub (.var 4) (.int 1))], .bi .max false [.int 1, .bin .Add (.sub (.var 1) (.int 1)) (.sub (.var 4) (.int 2))]]), .for_ (.name 7) (.seq (.bi .list false [.var 2])) [.ite (.not (.call "_law_on" [.var 1, .subK (.var 2) (.var 7)])) [.set (.subK (.var 2) (.var 7)) (.non)] []], .ite (.sub (.var 0) (.int 3)) [.expr (.call "_law_back" [.var 1, .var 2, .var 3])] [], .expr (.call "_law_come" [.var 0, .var 1, .var 2])] [], .ret (.var 1)] }
def d_law_laid : Q.Def := { name := "_law_laid", arity := 3, names := ["rule", "size", "row", "places", "wishes", "deed", "name"], body := [.set (.tup [.name 3, .name 4]) (.tup [.dct [] [], .dct [] []]), .for_ (.name 5) (.seq (.var 2)) [.set (.name 1) (.call "_law_done" [.var 0, .var 1, .var 3, .var 4, .var 5])], .ret (.tup [.var 1, .bi .tuple false [.comp [("name", 6)] (.name 6) (.seq (.bi .sorted false [.bi .list false [.var 3]])) (.bl true) (.tup [.var 6, .subK (.var 3) (.var 6)])]])] }
section
variable {cst : Str → Option D} {turns : Nat} {tab : Str → Option Def} {k : Nat} {st : Store}
theorem is_on (ht : tab "is_on" = some d_is_on) {R C : Int} {p : Option Pl} : callN cst turns tab (k + 1) "is_on" [sizeD R C, optD p] st = some (.bl (onV R C p), st) := by
  rw [call_eq ht rfl]
  cases p with
  | none => simp only [d_is_on, List.map_cons, List.map_nil, List.length_cons, List.length_nil, Nat.reduceAdd, Nat.reduceSub, Nat.reduceLT, List.replicate, List.cons_append, List.nil_append, Go, Ev1, Ev2, Ev3, Ex1, Ex2, Q.Pl, Val1, set_name, kSet_name, kSet_tup, stTs_name, stTs_nil, setAll_cons, evl_cons, Sx, List.getElem?_cons_zero, List.getElem?_cons_succ, List.set_cons_zero, List.set_cons_succ, Option.map_some, Option.bind_some, decide_eq_true_eq, if_true, if_false, Bool.false_eq_true, asO_some, asO_no, noneX_t, noneX_i, noneX_v, noneX_n, kAug_add, kAug_sub, Isa, MkT, comp_eq, for_eq, lst_eq_nil, BEq.rfl, Nw, fStar_tup, fStar2_eq, OptE, IcE, RuleE, PlaceE, Bool.not_true]; rfl
  | some p =>
    have h0 : optD (some p) = placeD p := rfl
    rw [h0]
    unfold onV
    simp only [d_is_on, List.map_cons, List.map_nil, List.length_cons, List.length_nil, Nat.reduceAdd, Nat.reduceSub, Nat.reduceLT, List.replicate, List.cons_append, List.nil_append, Go, Ev1, Ev2, Ev3, Ex1, Ex2, Q.Pl, Val1, set_name, kSet_name, kSet_tup, stTs_name, stTs_nil, setAll_cons, evl_cons, Sx, List.getElem?_cons_zero, List.getElem?_cons_succ, List.set_cons_zero, List.set_cons_succ, Option.map_some, Option.bind_some, decide_eq_true_eq, if_true, if_false, Bool.false_eq_true, asO_some, asO_no, noneX_t, noneX_i, noneX_v, noneX_n, kAug_add, kAug_sub, Isa, MkT, comp_eq, for_eq, lst_eq_nil, BEq.rfl, Nw, fStar_tup, fStar2_eq, OptE, IcE, RuleE, PlaceE, Bool.not_false]
    by_cases h1 : 0 ≤ p.1
    · by_cases h2 : p.1 < R
      · by_cases h3 : 0 ≤ p.2
        · simp [h1, h2, h3, List.map_cons, List.map_nil, List.length_cons, List.length_nil, Nat.reduceAdd, Nat.reduceSub, Nat.reduceLT, List.replicate, List.cons_append, List.nil_append, Go, Ev1, Ev2, Ev3, Ex1, Ex2, Q.Pl, Val1, set_name, kSet_name, kSet_tup, stTs_name, stTs_nil, setAll_cons, evl_cons, Sx, List.getElem?_cons_zero, List.getElem?_cons_succ, List.set_cons_zero, List.set_cons_succ, Option.map_some, Option.bind_some, decide_eq_true_eq, if_true, if_false, Bool.false_eq_true, asO_some, asO_no, noneX_t, noneX_i, noneX_v, noneX_n, kAug_add, kAug_sub, Isa, MkT, comp_eq, for_eq, lst_eq_nil, BEq.rfl, Nw, fStar_tup, fStar2_eq, OptE, IcE, RuleE, PlaceE, chB]
        · simp [h1, h2, h3, List.map_cons, List.map_nil, List.length_cons, List.length_nil, Nat.reduceAdd, Nat.reduceSub, Nat.reduceLT, List.replicate, List.cons_append, List.nil_append, Go, Ev1, Ev2, Ev3, Ex1, Ex2, Q.Pl, Val1, set_name, kSet_name, kSet_tup, stTs_name, stTs_nil, setAll_cons, evl_cons, Sx, List.getElem?_cons_zero, List.getElem?_cons_succ, List.set_cons_zero, List.set_cons_succ, Option.map_some, Option.bind_some, decide_eq_true_eq, if_true, if_false, Bool.false_eq_true, asO_some, asO_no, noneX_t, noneX_i, noneX_v, noneX_n, kAug_add, kAug_sub, Isa, MkT, comp_eq, for_eq, lst_eq_nil, BEq.rfl, Nw, fStar_tup, fStar2_eq, OptE, IcE, RuleE, PlaceE, chB]
      · simp [h1, h2, List.map_cons, List.map_nil, List.length_cons, List.length_nil, Nat.reduceAdd, Nat.reduceSub, Nat.reduceLT, List.replicate, List.cons_append, List.nil_append, Go, Ev1, Ev2, Ev3, Ex1, Ex2, Q.Pl, Val1, set_name, kSet_name, kSet_tup, stTs_name, stTs_nil, setAll_cons, evl_cons, Sx, List.getElem?_cons_zero, List.getElem?_cons_succ, List.set_cons_zero, List.set_cons_succ, Option.map_some, Option.bind_some, decide_eq_true_eq, if_true, if_false, Bool.false_eq_true, asO_some, asO_no, noneX_t, noneX_i, noneX_v, noneX_n, kAug_add, kAug_sub, Isa, MkT, comp_eq, for_eq, lst_eq_nil, BEq.rfl, Nw, fStar_tup, fStar2_eq, OptE, IcE, RuleE, PlaceE, chB]
    · simp [h1, List.map_cons, List.map_nil, List.length_cons, List.length_nil, Nat.reduceAdd, Nat.reduceSub, Nat.reduceLT, List.replicate, List.cons_append, List.nil_append, Go, Ev1, Ev2, Ev3, Ex1, Ex2, Q.Pl, Val1, set_name, kSet_name, kSet_tup, stTs_name, stTs_nil, setAll_cons, evl_cons, Sx, List.getElem?_cons_zero, List.getElem?_cons_succ, List.set_cons_zero, List.set_cons_succ, Option.map_some, Option.bind_some, decide_eq_true_eq, if_true, if_false, Bool.false_eq_true, asO_some, asO_no, noneX_t, noneX_i, noneX_v, noneX_n, kAug_add, kAug_sub, Isa, MkT, comp_eq, for_eq, lst_eq_nil, BEq.rfl, Nw, fStar_tup, fStar2_eq, OptE, IcE, RuleE, PlaceE, chB]
theorem taken_ok (ht : tab "taken" = some d_taken) {is : Ics} (hl : is.length ≤ 1000) : callN cst turns tab (k + 1) "taken" [iconsD is] st = some (.lst ((takenV is).map placeD), st) := by
  rw [call_eq ht rfl]
  simp only [d_taken, List.map_cons, List.map_nil, List.length_cons, List.length_nil, Nat.reduceAdd, Nat.reduceSub, Nat.reduceLT, List.replicate, List.cons_append, List.nil_append, Go, Ev1, Ev2, Ev3, Ex1, Ex2, Q.Pl, Val1, set_name, kSet_name, kSet_tup, stTs_name, stTs_nil, setAll_cons, evl_cons, Sx, List.getElem?_cons_zero, List.getElem?_cons_succ, List.set_cons_zero, List.set_cons_succ, Option.map_some, Option.bind_some, decide_eq_true_eq, if_true, if_false, Bool.false_eq_true, asO_some, asO_no, noneX_t, noneX_i, noneX_v, noneX_n, kAug_add, kAug_sub, Isa, MkT, comp_eq, for_eq, lst_eq_nil, BEq.rfl, Nw, fStar_tup, fStar2_eq, OptE, IcE, RuleE, PlaceE]
  rw [loop_flat (F := iconD) (G := fun i => match i.p with | none => [] | some p => [placeD p]) fun i _ => by
    rw [one1_bind (env1 := [some (iconsD is), some (.str i.n), some (optD i.p), some (optD i.w)]) rfl]
    cases e : i.p <;> simp only [List.map_cons, List.map_nil, List.length_cons, List.length_nil, Nat.reduceAdd, Nat.reduceSub, Nat.reduceLT, List.replicate, List.cons_append, List.nil_append, Go, Ev1, Ev2, Ev3, Ex1, Ex2, Q.Pl, Val1, set_name, kSet_name, kSet_tup, stTs_name, stTs_nil, setAll_cons, evl_cons, Sx, List.getElem?_cons_zero, List.getElem?_cons_succ, List.set_cons_zero, List.set_cons_succ, Option.map_some, Option.bind_some, decide_eq_true_eq, if_true, if_false, Bool.false_eq_true, asO_some, asO_no, noneX_t, noneX_i, noneX_v, noneX_n, kAug_add, kAug_sub, Isa, MkT, comp_eq, for_eq, lst_eq_nil, BEq.rfl, Nw, fStar_tup, fStar2_eq, OptE, IcE, RuleE, PlaceE, Bool.not_true, Bool.not_false, Option.isSome_none, Option.isSome_some, kBl_bl] <;> rfl]
  have e : (is.flatMap fun i => match i.p with | none => [] | some p => [placeD p]) = (takenV is).map placeD := by
    clear hl
    induction is with
    | nil => rfl
    | cons i is ih =>
      rw [List.flatMap_cons, ih]
      cases e : i.p with
      | none => rw [taken_none e]; rfl
      | some p => rw [taken_some e]; rfl
  rw [e, endC_ok (size_le (by rw [List.length_map]; exact Nat.le_trans (List.length_filterMap_le _ _) (by omega)))]
  simp only [List.map_cons, List.map_nil, List.length_cons, List.length_nil, Nat.reduceAdd, Nat.reduceSub, Nat.reduceLT, List.replicate, List.cons_append, List.nil_append, Go, Ev1, Ev2, Ev3, Ex1, Ex2, Q.Pl, Val1, set_name, kSet_name, kSet_tup, stTs_name, stTs_nil, setAll_cons, evl_cons, Sx, List.getElem?_cons_zero, List.getElem?_cons_succ, List.set_cons_zero, List.set_cons_succ, Option.map_some, Option.bind_some, decide_eq_true_eq, if_true, if_false, Bool.false_eq_true, asO_some, asO_no, noneX_t, noneX_i, noneX_v, noneX_n, kAug_add, kAug_sub, Isa, MkT, comp_eq, for_eq, lst_eq_nil, BEq.rfl, Nw, fStar_tup, fStar2_eq, OptE, IcE, RuleE, PlaceE]
/-! ### the first free place -/
theorem while_end {c : Q.Env → Store → Option (Bool × Store)} {body : Q.Env → Store → RS} {n : Nat} {env : Q.Env} {st st1 st2 : Store} {d : D} (h : c env st = some (true, st1)) (h2 : ∃ env2, body env st1 = some (.ret d, env2, st2)) : ∃ env2, whileLoop c body (n + 1) env st = some (.ret d, env2, st2) := by
  obtain ⟨env2, h2⟩ := h2
  exact ⟨env2, while_ret h h2⟩
def wBodyOf : S → List S
  | .while_ _ b => b
  | _ => []
abbrev ffB : List S := wBodyOf (d_first_free.body.getD 1 .pass)
def resF (o : Option Pl) : Fl := match o with
  | some p => .ret (placeD p)
  | none => .next
theorem ff_loop (t_cell : tab "cell_at" = some d_cell_at) {r : Rule} {R C : Int} {tk : List Pl} {a3 : Option D} (hR : 0 < R ∧ R ≤ 1000000000000000000000000000000) (hC : 0 < C ∧ C ≤ 1000000000000000000000000000000) : ∀ (j : Nat) {i : Int} {m : Nat} {a6 : Option D}, (¬ i + j < R * C ∨ spotV r R C (i + j) ∉ tk) → j < m →
    ∃ env', whileLoop (cndW (cx cst turns tab (k + 1)) (.cmp .Lt (.var 4) (.var 5))) (exL (cx cst turns tab (k + 1)) ffB) m [some (ruleD r), some (sizeD R C), some (.lst (tk.map placeD)), a3, some (.int i), some (.int (R * C)), a6] st = some (resF (freeN r R C tk (j + 1) i), env', st) := by
  have bR := big_of hR.1 hR.2
  have bC := big_of hC.1 hC.2
  have cell : ∀ {i : Int} {st : Store}, callN cst turns tab (k + 1) "cell_at" [ruleD r, sizeD R C, .int i] st = some (placeD (spotV r R C i), st) := fun {i st} => cell_at t_cell bR bC
  have cond : ∀ (i : Int) (a6 : Option D), cndW (cx cst turns tab (k + 1)) (.cmp .Lt (.var 4) (.var 5)) [some (ruleD r), some (sizeD R C), some (.lst (tk.map placeD)), a3, some (.int i), some (.int (R * C)), a6] st = some (decide (i < R * C), st) := fun i a6 => by
    unfold cndW
    simp only [List.map_cons, List.map_nil, List.length_cons, List.length_nil, Nat.reduceAdd, Nat.reduceSub, Nat.reduceLT, List.replicate, List.cons_append, List.nil_append, Go, Ev1, Ev2, Ev3, Ex1, Ex2, Q.Pl, Val1, set_name, kSet_name, kSet_tup, stTs_name, stTs_nil, setAll_cons, evl_cons, Sx, List.getElem?_cons_zero, List.getElem?_cons_succ, List.set_cons_zero, List.set_cons_succ, Option.map_some, Option.bind_some, decide_eq_true_eq, if_true, if_false, Bool.false_eq_true, asO_some, asO_no, noneX_t, noneX_i, noneX_v, noneX_n, kAug_add, kAug_sub, Isa, MkT, comp_eq, for_eq, lst_eq_nil, BEq.rfl, Nw, fStar_tup, fStar2_eq, OptE, IcE, RuleE, PlaceE]
    rfl
  intro j
  induction j with
  | zero =>
    intro i m a6 hs hm
    obtain ⟨m, rfl⟩ : ∃ m', m = m' + 1 := ⟨m - 1, by omega⟩
    have e0 : i + ((0 : Nat) : Int) = i := by omega
    rw [e0] at hs
    by_cases h1 : i < R * C
    · have h2 : spotV r R C i ∉ tk := hs.resolve_left fun z => z h1
      have f : freeN r R C tk (0 + 1) i = some (spotV r R C i) := by simp only [freeN, if_pos h1, if_neg h2]
      rw [f]
      refine while_end (st1 := st) (by rw [cond]; simp [h1]) ?_
      simp only [ffB, wBodyOf, d_first_free, List.getD_cons_succ, List.getD_cons_zero, List.map_cons, List.map_nil, List.length_cons, List.length_nil, Nat.reduceAdd, Nat.reduceSub, Nat.reduceLT, List.replicate, List.cons_append, List.nil_append, Go, Ev1, Ev2, Ev3, Ex1, Ex2, Q.Pl, Val1, set_name, kSet_name, kSet_tup, stTs_name, stTs_nil, setAll_cons, evl_cons, Sx, List.getElem?_cons_zero, List.getElem?_cons_succ, List.set_cons_zero, List.set_cons_succ, Option.map_some, Option.bind_some, decide_eq_true_eq, if_true, if_false, Bool.false_eq_true, asO_some, asO_no, noneX_t, noneX_i, noneX_v, noneX_n, kAug_add, kAug_sub, Isa, MkT, comp_eq, for_eq, lst_eq_nil, BEq.rfl, Nw, fStar_tup, fStar2_eq, OptE, IcE, RuleE, PlaceE, cell, h2, decide_false, Bool.not_false]
      exact ⟨_, rfl⟩
    · have f : freeN r R C tk (0 + 1) i = none := by simp only [freeN, if_neg h1]
      rw [f]
      exact ⟨_, while_stop (by rw [cond]; simp [h1])⟩
  | succ j ih =>
    intro i m a6 hs hm
    obtain ⟨m, rfl⟩ : ∃ m', m = m' + 1 := ⟨m - 1, by omega⟩
    by_cases h1 : i < R * C
    · by_cases h2 : spotV r R C i ∈ tk
      · have e : i + ((j + 1 : Nat) : Int) = i + 1 + (j : Nat) := by omega
        rw [e] at hs
        obtain ⟨env', g⟩ := ih (i := i + 1) (m := m) (a6 := some (placeD (spotV r R C i))) hs (by omega)
        have f : freeN r R C tk (j + 1 + 1) i = freeN r R C tk (j + 1) (i + 1) := by
          rw [freeN, if_pos h1, if_pos h2]
        rw [f]
        refine ⟨env', ?_⟩
        rw [← g]
        refine while_step (st1 := st) (by rw [cond]; simp [h1]) ?_
        simp only [ffB, wBodyOf, d_first_free, List.getD_cons_succ, List.getD_cons_zero, List.map_cons, List.map_nil, List.length_cons, List.length_nil, Nat.reduceAdd, Nat.reduceSub, Nat.reduceLT, List.replicate, List.cons_append, List.nil_append, Go, Ev1, Ev2, Ev3, Ex1, Ex2, Q.Pl, Val1, set_name, kSet_name, kSet_tup, stTs_name, stTs_nil, setAll_cons, evl_cons, Sx, List.getElem?_cons_zero, List.getElem?_cons_succ, List.set_cons_zero, List.set_cons_succ, Option.map_some, Option.bind_some, decide_eq_true_eq, if_true, if_false, Bool.false_eq_true, asO_some, asO_no, noneX_t, noneX_i, noneX_v, noneX_n, kAug_add, kAug_sub, Isa, MkT, comp_eq, for_eq, lst_eq_nil, BEq.rfl, Nw, fStar_tup, fStar2_eq, OptE, IcE, RuleE, PlaceE, cell, h2, decide_true, Bool.not_true]
      · have f : freeN r R C tk (j + 1 + 1) i = some (spotV r R C i) := by rw [freeN, if_pos h1, if_neg h2]
        rw [f]
        refine while_end (st1 := st) (by rw [cond]; simp [h1]) ?_
        simp only [ffB, wBodyOf, d_first_free, List.getD_cons_succ, List.getD_cons_zero, List.map_cons, List.map_nil, List.length_cons, List.length_nil, Nat.reduceAdd, Nat.reduceSub, Nat.reduceLT, List.replicate, List.cons_append, List.nil_append, Go, Ev1, Ev2, Ev3, Ex1, Ex2, Q.Pl, Val1, set_name, kSet_name, kSet_tup, stTs_name, stTs_nil, setAll_cons, evl_cons, Sx, List.getElem?_cons_zero, List.getElem?_cons_succ, List.set_cons_zero, List.set_cons_succ, Option.map_some, Option.bind_some, decide_eq_true_eq, if_true, if_false, Bool.false_eq_true, asO_some, asO_no, noneX_t, noneX_i, noneX_v, noneX_n, kAug_add, kAug_sub, Isa, MkT, comp_eq, for_eq, lst_eq_nil, BEq.rfl, Nw, fStar_tup, fStar2_eq, OptE, IcE, RuleE, PlaceE, cell, h2, decide_false, Bool.not_false]
        exact ⟨_, rfl⟩
    · have f : freeN r R C tk (j + 1 + 1) i = none := by rw [freeN, if_neg h1]
      rw [f]
      exact ⟨_, while_stop (by rw [cond]; simp [h1])⟩
theorem first_free (ht : tab "first_free" = some d_first_free) (t_cell : tab "cell_at" = some d_cell_at) {r : Rule} {R C i : Int} {tk : List Pl} (hR : 0 < R ∧ R ≤ 1000000000000000000000000000000) (hC : 0 < C ∧ C ≤ 1000000000000000000000000000000) (hi : 0 ≤ i) (hT : tk.length + 2 ≤ turns) :
    callN cst turns tab (k + 2) "first_free" [ruleD r, sizeD R C, .lst (tk.map placeD), .int i] st = some (optD (freeV r R C tk i), st) := by
  have bR := big_of hR.1 hR.2
  have bC := big_of hC.1 hC.2
  have hmul : ∀ st, binD .Mult (.int R) (.int C) st = some (.int (R * C), st) := fun st => mult_ok (lt900 (Int.le_of_lt bR.1) bR.2) (lt900 (Int.le_of_lt bC.1) bC.2)
  obtain ⟨j, h1, h2⟩ := stop_near (r := r) (tk := tk) hR.1 hC.1 hi
  have hf : freeN r R C tk (j + 1) i = freeV r R C tk i := freeN_stop h2 (by omega) (by omega)
  obtain ⟨env', g⟩ := ff_loop (cst := cst) (turns := turns) (k := k) (st := st) (a3 := some (.int i)) (a6 := none) t_cell hR hC j h2 (show j < turns by omega)
  rw [hf] at g
  rw [call_eq (k := k + 1) ht rfl]
  simp only [ffB, wBodyOf, d_first_free, List.getD_cons_succ, List.getD_cons_zero] at g
  simp only [d_first_free, List.map_cons, List.map_nil, List.length_cons, List.length_nil, Nat.reduceAdd, Nat.reduceSub, Nat.reduceLT, List.replicate, List.cons_append, List.nil_append, Go, Ev1, Ev2, Ev3, Ex1, Ex2, Q.Pl, Val1, set_name, kSet_name, kSet_tup, stTs_name, stTs_nil, setAll_cons, evl_cons, Sx, List.getElem?_cons_zero, List.getElem?_cons_succ, List.set_cons_zero, List.set_cons_succ, Option.map_some, Option.bind_some, decide_eq_true_eq, if_true, if_false, Bool.false_eq_true, asO_some, asO_no, noneX_t, noneX_i, noneX_v, noneX_n, kAug_add, kAug_sub, Isa, MkT, comp_eq, for_eq, lst_eq_nil, BEq.rfl, Nw, fStar_tup, fStar2_eq, OptE, IcE, RuleE, PlaceE, hmul, ex_whileC, g]
  cases freeV r R C tk i with
  | none => simp only [resF, List.map_cons, List.map_nil, List.length_cons, List.length_nil, Nat.reduceAdd, Nat.reduceSub, Nat.reduceLT, List.replicate, List.cons_append, List.nil_append, Go, Ev1, Ev2, Ev3, Ex1, Ex2, Q.Pl, Val1, set_name, kSet_name, kSet_tup, stTs_name, stTs_nil, setAll_cons, evl_cons, Sx, List.getElem?_cons_zero, List.getElem?_cons_succ, List.set_cons_zero, List.set_cons_succ, Option.map_some, Option.bind_some, decide_eq_true_eq, if_true, if_false, Bool.false_eq_true, asO_some, asO_no, noneX_t, noneX_i, noneX_v, noneX_n, kAug_add, kAug_sub, Isa, MkT, comp_eq, for_eq, lst_eq_nil, BEq.rfl, Nw, fStar_tup, fStar2_eq, OptE, IcE, RuleE, PlaceE]
  | some p => simp only [resF, List.map_cons, List.map_nil, List.length_cons, List.length_nil, Nat.reduceAdd, Nat.reduceSub, Nat.reduceLT, List.replicate, List.cons_append, List.nil_append, Go, Ev1, Ev2, Ev3, Ex1, Ex2, Q.Pl, Val1, set_name, kSet_name, kSet_tup, stTs_name, stTs_nil, setAll_cons, evl_cons, Sx, List.getElem?_cons_zero, List.getElem?_cons_succ, List.set_cons_zero, List.set_cons_succ, Option.map_some, Option.bind_some, decide_eq_true_eq, if_true, if_false, Bool.false_eq_true, asO_some, asO_no, noneX_t, noneX_i, noneX_v, noneX_n, kAug_add, kAug_sub, Isa, MkT, comp_eq, for_eq, lst_eq_nil, BEq.rfl, Nw, fStar_tup, fStar2_eq, OptE, IcE, RuleE, PlaceE]; rfl
/-! ### the first one goes back -/
def fBodyOf : S → List S
  | .for_ _ _ b => b
  | _ => []
def fTgtOf : S → Tt
  | .for_ t _ _ => t
  | _ => .name 0
theorem noneX_b {o : Operator} {a b : X} : noneX (.bin o a b) = false := rfl
theorem sl_to {is : Ics} {j : Nat} {st : Store} (h : j ≤ is.length) : sliceD (iconsD is) none (some (j : Int)) st = some (iconsD (is.take j), st) := by
  show some (D.tup (cutD (is.map iconD) none (some (j : Int))), st) = _
  rw [cut_to (by rw [List.length_map]; exact h), ← List.map_take]; try rfl
theorem sl_from {is : Ics} {j : Nat} {st : Store} (h : j ≤ is.length) : sliceD (iconsD is) (some (j : Int)) none st = some (iconsD (is.drop j), st) := by
  show some (D.tup (cutD (is.map iconD) (some (j : Int)) none), st) = _
  rw [cut_from (by rw [List.length_map]; exact h), ← List.map_drop]; try rfl
theorem star_ics {C : Q.Ctx} {es : List X} {env : Q.Env} {is : Ics} {st : Store} : fStar C es env (iconsD is) st = th (fStar2 (is.map iconD)) (evL C es env st) := rfl
theorem tup_ics {is : Ics} {st : Store} (h : is.length ≤ 1000000) : mkT (is.map iconD) st = some (iconsD is, st) := mkT_ok (size_le (by rw [List.length_map]; exact h))
abbrev cbB : List S := fBodyOf (d_called_back.body.getD 1 .pass)
abbrev cbT : Tt := fTgtOf (d_called_back.body.getD 1 .pass)
theorem cb_loop (t_on : tab "is_on" = some d_is_on) {R C : Int} {tk : List Pl} {is : Ics} (hl : is.length ≤ 1000) : ∀ {rest a : Ics}, is = a ++ rest → ∀ {x3 x4 x5 x6 : Option D},
    ∃ env', forLoop none (bindT cbT) (exL (cx cst turns tab (k + 1)) cbB) (enumD a.length (rest.map iconD)) [some (sizeD R C), some (iconsD is), some (.lst (tk.map placeD)), x3, x4, x5, x6] st
      = some (if rest.any (callsB R C tk) = true then .ret (iconsD (a ++ back1 R C tk rest)) else .next, env', st) ∧ env'[1]? = some (some (iconsD is))
  | [], a, _, x3, x4, x5, x6 => ⟨_, rfl, rfl⟩
  | i :: rest, a, he, x3, x4, x5, x6 => by
    have on : ∀ {p : Option Pl} {st : Store}, callN cst turns tab (k + 1) "is_on" [sizeD R C, optD p] st = some (.bl (onV R C p), st) := fun {p st} => is_on t_on
    have bd : bindT cbT (.tup [.int ((a.length : Nat) : Int), iconD i]) [some (sizeD R C), some (iconsD is), some (.lst (tk.map placeD)), x3, x4, x5, x6] = some [some (sizeD R C), some (iconsD is), some (.lst (tk.map placeD)), some (.int (a.length : Nat)), some (.str i.n), some (optD i.p), some (optD i.w)] := rfl
    by_cases hc : callsB R C tk i = true
    · have hc' := hc
      unfold callsB at hc'
      rw [Bool.and_eq_true, Bool.and_eq_true, decide_eq_true_eq] at hc'
      obtain ⟨⟨h1, h2⟩, h3⟩ := hc'
      cases ew : i.w with
      | none => rw [ew] at h2; cases h2
      | some q =>
        rw [ew] at h1 h2 h3
        have h3 : q ∉ tk := of_decide_eq_true h3
        have st1 : is.take a.length = a := by rw [he]; exact List.take_left' rfl
        have st2 : is.drop (a.length + 1) = rest := by
          rw [he, show a ++ i :: rest = (a ++ [i]) ++ rest by simp]
          exact List.drop_left' (by simp)
        have le : a.length + 1 ≤ is.length := by rw [he]; simp
        have s1 : ∀ st, sliceD (iconsD is) none (some ((a.length : Nat) : Int)) st = some (iconsD a, st) := fun st => by rw [sl_to (by omega), st1]
        have s2 : ∀ st, sliceD (iconsD is) (some (((a.length : Nat) : Int) + 1)) none st = some (iconsD rest, st) := fun st => by
          rw [show (((a.length : Nat) : Int) + 1) = ((a.length + 1 : Nat) : Int) by omega, sl_from le, st2]
        have fin : (i :: rest).any (callsB R C tk) = true := by simp [hc]
        have b1 : back1 R C tk (i :: rest) = ⟨i.n, some q, some q⟩ :: rest := by rw [back1, if_pos hc, ew]
        rw [if_pos fin, b1]
        have e0 : optD (some q) = placeD q := rfl
        have on2 : ∀ st, callN cst turns tab (k + 1) "is_on" [sizeD R C, placeD q] st = some (.bl true, st) := fun st => by
          rw [← e0, on, h2]
        have lst : mkT (List.map iconD a ++ D.tup [D.str i.n, placeD q, placeD q] :: List.map iconD rest) st = some (iconsD (a ++ ⟨i.n, some q, some q⟩ :: rest), st) := by
          rw [← tup_ics (by have : is.length = a.length + (rest.length + 1) := by rw [he]; simp
                            simp; omega), List.map_append]
          rfl
        have ne : (decide (i.p = some q)) = false := decide_eq_false h1
        have n1 : cmpD st .NotEq (optD i.p) (placeD q) = some true := by rw [← e0, OptE.2.1, ne]; rfl
        have run : exL (cx cst turns tab (k + 1)) cbB [some (sizeD R C), some (iconsD is), some (.lst (tk.map placeD)), some (.int (a.length : Nat)), some (.str i.n), some (optD i.p), some (placeD q)] st = some (.ret (iconsD (a ++ ⟨i.n, some q, some q⟩ :: rest)), [some (sizeD R C), some (iconsD is), some (.lst (tk.map placeD)), some (.int (a.length : Nat)), some (.str i.n), some (optD i.p), some (placeD q)], st) := by
          simp only [cbB, fBodyOf, d_called_back, List.getD_cons_succ, List.getD_cons_zero, List.map_cons, List.map_nil, List.length_cons, List.length_nil, Nat.reduceAdd, Nat.reduceSub, Nat.reduceLT, List.replicate, List.cons_append, List.nil_append, Go, Ev1, Ev2, Ev3, Ex1, Ex2, Q.Pl, Val1, set_name, kSet_name, kSet_tup, stTs_name, stTs_nil, setAll_cons, evl_cons, Sx, List.getElem?_cons_zero, List.getElem?_cons_succ, List.set_cons_zero, List.set_cons_succ, Option.map_some, Option.bind_some, decide_eq_true_eq, if_true, if_false, Bool.false_eq_true, asO_some, asO_no, noneX_t, noneX_i, noneX_v, noneX_n, kAug_add, kAug_sub, Isa, MkT, comp_eq, for_eq, lst_eq_nil, BEq.rfl, Nw, fStar_tup, fStar2_eq, OptE, IcE, RuleE, PlaceE, n1, on2, h3, decide_false, Bool.not_false, noneX_b, s1, s2, star_ics, List.append_nil, lst]
        refine ⟨_, for_ret (env1 := [some (sizeD R C), some (iconsD is), some (.lst (tk.map placeD)), some (.int (a.length : Nat)), some (.str i.n), some (optD i.p), some (placeD q)]) (by rw [bd, ew]; rfl) run, rfl⟩
    · have hb : callsB R C tk i = false := by simpa using hc
      have run : exL (cx cst turns tab (k + 1)) cbB [some (sizeD R C), some (iconsD is), some (.lst (tk.map placeD)), some (.int (a.length : Nat)), some (.str i.n), some (optD i.p), some (optD i.w)] st = some (.next, [some (sizeD R C), some (iconsD is), some (.lst (tk.map placeD)), some (.int (a.length : Nat)), some (.str i.n), some (optD i.p), some (optD i.w)], st) := by
        unfold callsB at hb
        by_cases h1 : i.p = i.w
        · simp only [cbB, fBodyOf, d_called_back, List.getD_cons_succ, List.getD_cons_zero, List.map_cons, List.map_nil, List.length_cons, List.length_nil, Nat.reduceAdd, Nat.reduceSub, Nat.reduceLT, List.replicate, List.cons_append, List.nil_append, Go, Ev1, Ev2, Ev3, Ex1, Ex2, Q.Pl, Val1, set_name, kSet_name, kSet_tup, stTs_name, stTs_nil, setAll_cons, evl_cons, Sx, List.getElem?_cons_zero, List.getElem?_cons_succ, List.set_cons_zero, List.set_cons_succ, Option.map_some, Option.bind_some, decide_eq_true_eq, if_true, if_false, Bool.false_eq_true, asO_some, asO_no, noneX_t, noneX_i, noneX_v, noneX_n, kAug_add, kAug_sub, Isa, MkT, comp_eq, for_eq, lst_eq_nil, BEq.rfl, Nw, fStar_tup, fStar2_eq, OptE, IcE, RuleE, PlaceE, h1, decide_true, Bool.not_true]
        · cases h2 : onV R C i.w with
          | false => simp only [cbB, fBodyOf, d_called_back, List.getD_cons_succ, List.getD_cons_zero, List.map_cons, List.map_nil, List.length_cons, List.length_nil, Nat.reduceAdd, Nat.reduceSub, Nat.reduceLT, List.replicate, List.cons_append, List.nil_append, Go, Ev1, Ev2, Ev3, Ex1, Ex2, Q.Pl, Val1, set_name, kSet_name, kSet_tup, stTs_name, stTs_nil, setAll_cons, evl_cons, Sx, List.getElem?_cons_zero, List.getElem?_cons_succ, List.set_cons_zero, List.set_cons_succ, Option.map_some, Option.bind_some, decide_eq_true_eq, if_true, if_false, Bool.false_eq_true, asO_some, asO_no, noneX_t, noneX_i, noneX_v, noneX_n, kAug_add, kAug_sub, Isa, MkT, comp_eq, for_eq, lst_eq_nil, BEq.rfl, Nw, fStar_tup, fStar2_eq, OptE, IcE, RuleE, PlaceE, h1, decide_false, Bool.not_false, on, h2]
          | true =>
            cases ew : i.w with
            | none => rw [ew] at h2; cases h2
            | some q =>
              rw [ew] at h1 h2 hb
              have e0 : optD (some q) = placeD q := rfl
              have on2 : ∀ st, callN cst turns tab (k + 1) "is_on" [sizeD R C, placeD q] st = some (.bl true, st) := fun st => by
                rw [← e0, on, h2]
              rw [h2] at hb
              have h3 : q ∈ tk := by
                have : freeW tk (some q) = false := by simpa [h1] using hb
                simpa [freeW] using this
              have n1 : cmpD st .NotEq (optD i.p) (placeD q) = some true := by rw [← e0, OptE.2.1, decide_eq_false h1]; rfl
              rw [e0]
              simp only [cbB, fBodyOf, d_called_back, List.getD_cons_succ, List.getD_cons_zero, List.map_cons, List.map_nil, List.length_cons, List.length_nil, Nat.reduceAdd, Nat.reduceSub, Nat.reduceLT, List.replicate, List.cons_append, List.nil_append, Go, Ev1, Ev2, Ev3, Ex1, Ex2, Q.Pl, Val1, set_name, kSet_name, kSet_tup, stTs_name, stTs_nil, setAll_cons, evl_cons, Sx, List.getElem?_cons_zero, List.getElem?_cons_succ, List.set_cons_zero, List.set_cons_succ, Option.map_some, Option.bind_some, decide_eq_true_eq, if_true, if_false, Bool.false_eq_true, asO_some, asO_no, noneX_t, noneX_i, noneX_v, noneX_n, kAug_add, kAug_sub, Isa, MkT, comp_eq, for_eq, lst_eq_nil, BEq.rfl, Nw, fStar_tup, fStar2_eq, OptE, IcE, RuleE, PlaceE, n1, on2, h3, decide_true, Bool.not_true]
      have any : (i :: rest).any (callsB R C tk) = rest.any (callsB R C tk) := by simp [hb]
      have b1 : back1 R C tk (i :: rest) = i :: back1 R C tk rest := by rw [back1, if_neg hc]
      obtain ⟨env', g, g2⟩ := cb_loop t_on (R := R) (C := C) (tk := tk) hl (rest := rest) (a := a ++ [i]) (by rw [he]; simp) (x3 := some (.int (a.length : Nat))) (x4 := some (.str i.n)) (x5 := some (optD i.p)) (x6 := some (optD i.w))
      refine ⟨env', ?_, g2⟩
      rw [any, b1, show a ++ i :: back1 R C tk rest = (a ++ [i]) ++ back1 R C tk rest by simp, ← g]
      show forLoop none _ _ (.tup [.int ((a.length : Nat) : Int), iconD i] :: enumD (a.length + 1) (rest.map iconD)) _ st = _
      rw [for_next bd run, List.length_append]; rfl
theorem back1_none {R C : Int} {tk : List Pl} : ∀ {is : Ics}, is.any (callsB R C tk) = false → back1 R C tk is = is
  | [], _ => rfl
  | i :: is, h => by
    rw [List.any_cons, Bool.or_eq_false_iff] at h
    rw [back1, if_neg (by rw [h.1]; decide), back1_none h.2]
theorem called_back (ht : tab "called_back" = some d_called_back) (t_on : tab "is_on" = some d_is_on) (t_tk : tab "taken" = some d_taken) {R C : Int} {is : Ics} (hl : is.length ≤ 1000) :
    callN cst turns tab (k + 2) "called_back" [sizeD R C, iconsD is] st = some (iconsD (backV R C is), st) := by
  obtain ⟨env', g, g2⟩ := cb_loop (cst := cst) (turns := turns) (k := k) (st := st) t_on (R := R) (C := C) (tk := takenV is) hl (rest := is) (a := []) rfl (x3 := none) (x4 := none) (x5 := none) (x6 := none)
  rw [call_eq (k := k + 1) ht rfl]
  simp only [cbB, cbT, fBodyOf, fTgtOf, d_called_back, List.getD_cons_succ, List.getD_cons_zero, List.length_nil] at g
  simp only [d_called_back, List.map_cons, List.map_nil, List.length_cons, List.length_nil, Nat.reduceAdd, Nat.reduceSub, Nat.reduceLT, List.replicate, List.cons_append, List.nil_append, Go, Ev1, Ev2, Ev3, Ex1, Ex2, Q.Pl, Val1, set_name, kSet_name, kSet_tup, stTs_name, stTs_nil, setAll_cons, evl_cons, Sx, List.getElem?_cons_zero, List.getElem?_cons_succ, List.set_cons_zero, List.set_cons_succ, Option.map_some, Option.bind_some, decide_eq_true_eq, if_true, if_false, Bool.false_eq_true, asO_some, asO_no, noneX_t, noneX_i, noneX_v, noneX_n, kAug_add, kAug_sub, Isa, MkT, comp_eq, for_eq, lst_eq_nil, BEq.rfl, Nw, fStar_tup, fStar2_eq, OptE, IcE, RuleE, PlaceE, taken_ok t_tk hl, g]
  unfold backV
  cases e : is.any (callsB R C (takenV is)) with
  | true => simp only [List.map_cons, List.map_nil, List.length_cons, List.length_nil, Nat.reduceAdd, Nat.reduceSub, Nat.reduceLT, List.replicate, List.cons_append, List.nil_append, Go, Ev1, Ev2, Ev3, Ex1, Ex2, Q.Pl, Val1, set_name, kSet_name, kSet_tup, stTs_name, stTs_nil, setAll_cons, evl_cons, Sx, List.getElem?_cons_zero, List.getElem?_cons_succ, List.set_cons_zero, List.set_cons_succ, Option.map_some, Option.bind_some, decide_eq_true_eq, if_true, if_false, Bool.false_eq_true, asO_some, asO_no, noneX_t, noneX_i, noneX_v, noneX_n, kAug_add, kAug_sub, Isa, MkT, comp_eq, for_eq, lst_eq_nil, BEq.rfl, Nw, fStar_tup, fStar2_eq, OptE, IcE, RuleE, PlaceE]
  | false => simp only [List.map_cons, List.map_nil, List.length_cons, List.length_nil, Nat.reduceAdd, Nat.reduceSub, Nat.reduceLT, List.replicate, List.cons_append, List.nil_append, Go, Ev1, Ev2, Ev3, Ex1, Ex2, Q.Pl, Val1, set_name, kSet_name, kSet_tup, stTs_name, stTs_nil, setAll_cons, evl_cons, Sx, List.getElem?_cons_zero, List.getElem?_cons_succ, List.set_cons_zero, List.set_cons_succ, Option.map_some, Option.bind_some, decide_eq_true_eq, if_true, if_false, Bool.false_eq_true, asO_some, asO_no, noneX_t, noneX_i, noneX_v, noneX_n, kAug_add, kAug_sub, Isa, MkT, comp_eq, for_eq, lst_eq_nil, BEq.rfl, Nw, fStar_tup, fStar2_eq, OptE, IcE, RuleE, PlaceE, g2, back1_none e]
end
end QL

/-! QRun2: filled, resized, added, dropped. -/
namespace QL
open PySem PySem.Spec L2 Q
theorem loop_flatG {α : Type} {st : Store} {gd : Option (Nat × List D)} {one : D → Store → Option (List D × Store)} {F : α → D} {G : α → List D} (hg : guardOk gd st = true) : ∀ {is : List α}, (∀ i ∈ is, one (F i) st = some (G i, st)) → compLoop gd one (is.map F) st = some (is.flatMap G, st)
  | [], _ => by
    show (if guardOk gd st = true then some ([], st) else none) = _
    rw [if_pos hg]; rfl
  | i :: is, h => by
    have ih := loop_flatG hg (fun j hj => h j (List.mem_cons_of_mem i hj))
    show (if guardOk gd st = true then (one (F i) st).bind fun r => (compLoop gd one (is.map F) r.2).bind fun q => some (r.1 ++ q.1, q.2) else none) = _
    rw [if_pos hg, h i List.mem_cons_self]
    show ((compLoop gd one (is.map F) st).bind fun q => some (G i ++ q.1, q.2)) = _
    rw [ih]; rfl
theorem src_loc {n : Nat} {st : Store} {ds : List D} (h : st[n]? = some (.lst ds)) : srcOf (.loc n) st = some (some (n, ds), ds, st) := by simp only [srcOf, h]
theorem set_last {st : Store} {a b : SO} : (st ++ [a]).set st.length b = st ++ [b] := by
  rw [List.set_append_right _ _ (Nat.le_refl _), Nat.sub_self]; rfl
theorem get_last {st : Store} {a : SO} : (st ++ [a])[st.length]? = some a := by
  rw [List.getElem?_append_right (Nat.le_refl _), Nat.sub_self]; rfl
section
variable {cst : Str → Option D} {turns : Nat} {tab : Str → Option Def} {k : Nat} {st : Store}
theorem taken_loc (ht : tab "taken" = some d_taken) {is : Ics} {n : Nat} (hn : st[n]? = some (.lst (is.map iconD))) (hl : is.length ≤ 1000) : callN cst turns tab (k + 1) "taken" [.loc n] st = some (.lst ((takenV is).map placeD), st) := by
  rw [call_eq ht rfl]
  have gd : guardOk (some (n, is.map iconD)) st = true := by
    show (match st[n]? with
      | some (.lst es) => D.beqL es (is.map iconD)
      | _ => false) = true
    rw [hn]; exact D.beqL_self _
  simp only [d_taken, List.map_cons, List.map_nil, List.length_cons, List.length_nil, Nat.reduceAdd, Nat.reduceSub, Nat.reduceLT, List.replicate, List.cons_append, List.nil_append, Go, Ev1, Ev2, Ev3, Ex1, Ex2, Q.Pl, Val1, set_name, kSet_name, kSet_tup, stTs_name, stTs_nil, setAll_cons, evl_cons, Sx, List.getElem?_cons_zero, List.getElem?_cons_succ, List.set_cons_zero, List.set_cons_succ, Option.map_some, Option.bind_some, decide_eq_true_eq, if_true, if_false, Bool.false_eq_true, asO_some, asO_no, noneX_t, noneX_i, noneX_v, noneX_n, kAug_add, kAug_sub, Isa, MkT, comp_eq, for_eq, lst_eq_nil, BEq.rfl, Nw, fStar_tup, fStar2_eq, OptE, IcE, RuleE, PlaceE, src_loc hn]
  rw [loop_flatG (F := iconD) (G := fun i => match i.p with | none => [] | some p => [placeD p]) gd fun i _ => by
    rw [one1_bind (env1 := [some (.loc n), some (.str i.n), some (optD i.p), some (optD i.w)]) rfl]
    cases e : i.p <;> simp only [List.map_cons, List.map_nil, List.length_cons, List.length_nil, Nat.reduceAdd, Nat.reduceSub, Nat.reduceLT, List.replicate, List.cons_append, List.nil_append, Go, Ev1, Ev2, Ev3, Ex1, Ex2, Q.Pl, Val1, set_name, kSet_name, kSet_tup, stTs_name, stTs_nil, setAll_cons, evl_cons, Sx, List.getElem?_cons_zero, List.getElem?_cons_succ, List.set_cons_zero, List.set_cons_succ, Option.map_some, Option.bind_some, decide_eq_true_eq, if_true, if_false, Bool.false_eq_true, asO_some, asO_no, noneX_t, noneX_i, noneX_v, noneX_n, kAug_add, kAug_sub, Isa, MkT, comp_eq, for_eq, lst_eq_nil, BEq.rfl, Nw, fStar_tup, fStar2_eq, OptE, IcE, RuleE, PlaceE, Bool.not_true, Bool.not_false, Option.isSome_none, Option.isSome_some, kBl_bl] <;> rfl]
  have e : (is.flatMap fun i => match i.p with | none => [] | some p => [placeD p]) = (takenV is).map placeD := by
    clear hl hn gd
    induction is with
    | nil => rfl
    | cons i is ih =>
      rw [List.flatMap_cons, ih]
      cases e : i.p with
      | none => rw [taken_none e]; rfl
      | some p => rw [taken_some e]; rfl
  rw [e, endC_ok (size_le (by rw [List.length_map]; exact Nat.le_trans (List.length_filterMap_le _ _) (by omega)))]
  simp only [List.map_cons, List.map_nil, List.length_cons, List.length_nil, Nat.reduceAdd, Nat.reduceSub, Nat.reduceLT, List.replicate, List.cons_append, List.nil_append, Go, Ev1, Ev2, Ev3, Ex1, Ex2, Q.Pl, Val1, set_name, kSet_name, kSet_tup, stTs_name, stTs_nil, setAll_cons, evl_cons, Sx, List.getElem?_cons_zero, List.getElem?_cons_succ, List.set_cons_zero, List.set_cons_succ, Option.map_some, Option.bind_some, decide_eq_true_eq, if_true, if_false, Bool.false_eq_true, asO_some, asO_no, noneX_t, noneX_i, noneX_v, noneX_n, kAug_add, kAug_sub, Isa, MkT, comp_eq, for_eq, lst_eq_nil, BEq.rfl, Nw, fStar_tup, fStar2_eq, OptE, IcE, RuleE, PlaceE]
/-! ### hidden icons come -/
abbrev flB : List S := fBodyOf (d_filled.body.getD 1 .pass)
abbrev flT : Tt := fTgtOf (d_filled.body.getD 1 .pass)
theorem set_mid {xs ys : List D} {x y : D} : setAt (xs ++ x :: ys) ((xs.length : Nat) : Int) y = some (xs ++ y :: ys) := by
  unfold setAt
  rw [show ixN (xs ++ x :: ys).length ((xs.length : Nat) : Int) = some xs.length by
    unfold ixN
    rw [List.length_append, List.length_cons]
    simp [ixN]
    try omega]
  rw [Option.map_some, List.set_append_right _ _ (Nat.le_refl _), Nat.sub_self]; rfl
theorem fl_loop (t_ff : tab "first_free" = some d_first_free) (t_cell : tab "cell_at" = some d_cell_at) (t_tk : tab "taken" = some d_taken) {r : Rule} {R C : Int} (hR : 0 < R ∧ R ≤ 1000000000000000000000000000000) (hC : 0 < C ∧ C ≤ 1000000000000000000000000000000) (hT : 1002 ≤ turns) {z : Option D} : ∀ {rest done : Ics}, (done ++ rest).length ≤ 1000 → ∀ {x4 x5 x6 x7 : Option D},
    ∃ env', forLoop none (bindT flT) (exL (cx cst turns tab (k + 2)) flB) (enumD done.length (rest.map iconD)) [some (ruleD r), some (sizeD R C), z, some (.loc st.length), x4, x5, x6, x7] (st ++ [.lst ((done ++ rest).map iconD)])
      = some (.next, env', st ++ [.lst ((fillV r R C done rest).map iconD)]) ∧ env'[3]? = some (some (.loc st.length))
  | [], done, _, x4, x5, x6, x7 => ⟨_, by rw [List.append_nil]; rfl, rfl⟩
  | i :: rest, done, hl, x4, x5, x6, x7 => by
    have bd : bindT flT (.tup [.int ((done.length : Nat) : Int), iconD i]) [some (ruleD r), some (sizeD R C), z, some (.loc st.length), x4, x5, x6, x7] = some [some (ruleD r), some (sizeD R C), z, some (.loc st.length), some (.int (done.length : Nat)), some (.str i.n), some (optD i.p), some (optD i.w)] := rfl
    have hs : (st ++ [SO.lst ((done ++ i :: rest).map iconD)])[st.length]? = some (.lst ((done ++ i :: rest).map iconD)) := get_last
    have le : ∀ x : Ic, (done ++ x :: rest).length = (done ++ i :: rest).length := fun x => by simp
    show ∃ env', forLoop none _ _ (.tup [.int ((done.length : Nat) : Int), iconD i] :: enumD (done.length + 1) (rest.map iconD)) _ _ = _ ∧ _
    cases e : i.p with
    | some p =>
      have run : exL (cx cst turns tab (k + 2)) flB [some (ruleD r), some (sizeD R C), z, some (.loc st.length), some (.int (done.length : Nat)), some (.str i.n), some (optD i.p), some (optD i.w)] (st ++ [.lst ((done ++ i :: rest).map iconD)]) = some (.next, [some (ruleD r), some (sizeD R C), z, some (.loc st.length), some (.int (done.length : Nat)), some (.str i.n), some (optD i.p), some (optD i.w)], st ++ [.lst ((done ++ i :: rest).map iconD)]) := by
        simp only [flB, fBodyOf, d_filled, List.getD_cons_succ, List.getD_cons_zero, List.map_cons, List.map_nil, List.length_cons, List.length_nil, Nat.reduceAdd, Nat.reduceSub, Nat.reduceLT, List.replicate, List.cons_append, List.nil_append, Go, Ev1, Ev2, Ev3, Ex1, Ex2, Q.Pl, Val1, set_name, kSet_name, kSet_tup, stTs_name, stTs_nil, setAll_cons, evl_cons, Sx, List.getElem?_cons_zero, List.getElem?_cons_succ, List.set_cons_zero, List.set_cons_succ, Option.map_some, Option.bind_some, decide_eq_true_eq, if_true, if_false, Bool.false_eq_true, asO_some, asO_no, noneX_t, noneX_i, noneX_v, noneX_n, kAug_add, kAug_sub, Isa, MkT, comp_eq, for_eq, lst_eq_nil, BEq.rfl, Nw, fStar_tup, fStar2_eq, OptE, IcE, RuleE, PlaceE, e, Option.isSome_some, Bool.not_true]
      rw [for_next bd run]
      have f : fillV r R C done (i :: rest) = fillV r R C (done ++ [i]) rest := by rw [fillV, e]
      obtain ⟨env', g⟩ := fl_loop t_ff t_cell t_tk (r := r) hR hC hT (z := z) (rest := rest) (done := done ++ [i]) (by rw [show done ++ [i] ++ rest = done ++ i :: rest by simp]; exact hl) (x4 := some (.int (done.length : Nat))) (x5 := some (.str i.n)) (x6 := some (optD i.p)) (x7 := some (optD i.w))
      rw [List.length_append, show done ++ [i] ++ rest = done ++ i :: rest by simp] at g
      exact ⟨env', by rw [f]; exact g.1, g.2⟩
    | none =>
      let v := freeV r R C (takenV (done ++ i :: rest)) 0
      have lt : (takenV (done ++ i :: rest)).length ≤ 1000 := Nat.le_trans (List.length_filterMap_le _ _) hl
      have tk := taken_loc (cst := cst) (turns := turns) (k := k + 1) t_tk hs hl
      have ff := first_free (cst := cst) (turns := turns) (k := k) (st := st ++ [.lst ((done ++ i :: rest).map iconD)]) t_ff t_cell (r := r) (tk := takenV (done ++ i :: rest)) hR hC (Int.le_refl 0) (by omega)
      have st2 : putL (.loc st.length) (.int ((done.length : Nat) : Int)) (.tup [.str i.n, optD v, optD i.w]) (st ++ [SO.lst ((done ++ i :: rest).map iconD)]) = some (st ++ [SO.lst ((done ++ ⟨i.n, v, i.w⟩ :: rest).map iconD)]) := by
        rw [putL_loc, hs, putAt_lst, List.map_append, List.map_cons]
        have q := set_mid (xs := done.map iconD) (ys := rest.map iconD) (x := iconD i) (y := .tup [.str i.n, optD v, optD i.w])
        rw [List.length_map] at q
        rw [q, Option.map_some, set_last, List.map_append]; rfl
      have run : exL (cx cst turns tab (k + 2)) flB [some (ruleD r), some (sizeD R C), z, some (.loc st.length), some (.int (done.length : Nat)), some (.str i.n), some (optD i.p), some (optD i.w)] (st ++ [.lst ((done ++ i :: rest).map iconD)]) = some (.next, [some (ruleD r), some (sizeD R C), z, some (.loc st.length), some (.int (done.length : Nat)), some (.str i.n), some (optD i.p), some (optD i.w)], st ++ [.lst ((done ++ ⟨i.n, v, i.w⟩ :: rest).map iconD)]) := by
        simp only [flB, fBodyOf, d_filled, List.getD_cons_succ, List.getD_cons_zero, List.map_cons, List.map_nil, List.length_cons, List.length_nil, Nat.reduceAdd, Nat.reduceSub, Nat.reduceLT, List.replicate, List.cons_append, List.nil_append, Go, Ev1, Ev2, Ev3, Ex1, Ex2, Q.Pl, Val1, set_name, kSet_name, kSet_tup, stTs_name, stTs_nil, setAll_cons, evl_cons, Sx, List.getElem?_cons_zero, List.getElem?_cons_succ, List.set_cons_zero, List.set_cons_succ, Option.map_some, Option.bind_some, decide_eq_true_eq, if_true, if_false, Bool.false_eq_true, asO_some, asO_no, noneX_t, noneX_i, noneX_v, noneX_n, kAug_add, kAug_sub, Isa, MkT, comp_eq, for_eq, lst_eq_nil, BEq.rfl, Nw, fStar_tup, fStar2_eq, OptE, IcE, RuleE, PlaceE, e, Option.isSome_none, Bool.not_false, tk, ff, Ex2]
        rw [show putL (.loc st.length) (.int ((done.length : Nat) : Int)) (.tup [.str i.n, optD (freeV r R C (takenV (done ++ i :: rest)) 0), optD i.w]) (st ++ [SO.lst ((done ++ i :: rest).map iconD)]) = some (st ++ [SO.lst ((done ++ ⟨i.n, v, i.w⟩ :: rest).map iconD)]) from st2]
        rfl
      rw [for_next bd run]
      have f : fillV r R C done (i :: rest) = fillV r R C (done ++ [⟨i.n, v, i.w⟩]) rest := by rw [fillV, e]
      obtain ⟨env', g⟩ := fl_loop t_ff t_cell t_tk (r := r) hR hC hT (z := z) (rest := rest) (done := done ++ [⟨i.n, v, i.w⟩]) (by rw [show done ++ [⟨i.n, v, i.w⟩] ++ rest = done ++ ⟨i.n, v, i.w⟩ :: rest by simp, le]; exact hl) (x4 := some (.int (done.length : Nat))) (x5 := some (.str i.n)) (x6 := some (optD i.p)) (x7 := some (optD i.w))
      rw [List.length_append, show done ++ [⟨i.n, v, i.w⟩] ++ rest = done ++ ⟨i.n, v, i.w⟩ :: rest by simp] at g
      exact ⟨env', by rw [f]; exact g.1, g.2⟩
theorem fill_len {r : Rule} {R C : Int} : ∀ {rest done : Ics}, (fillV r R C done rest).length = done.length + rest.length
  | [], done => rfl
  | i :: rest, done => by
    rw [fillV]
    cases i.p <;> simp only [fill_len, List.length_append, List.length_cons, List.length_nil] <;> omega
theorem filled_len {r : Rule} {R C : Int} {is : Ics} : (filledV r R C is).length = is.length := by
  unfold filledV; rw [fill_len]; simp
theorem list_ics {is : Ics} {st : Store} (h : is.length ≤ 1000) : listD true st (iconsD is) = some (.loc st.length, st ++ [.lst (is.map iconD)]) := mkL_t (size_le (by rw [List.length_map]; omega))
theorem filled (ht : tab "filled" = some d_filled) (t_ff : tab "first_free" = some d_first_free) (t_cell : tab "cell_at" = some d_cell_at) (t_tk : tab "taken" = some d_taken) {r : Rule} {R C : Int} {is : Ics} (hR : 0 < R ∧ R ≤ 1000000000000000000000000000000) (hC : 0 < C ∧ C ≤ 1000000000000000000000000000000) (hT : 1002 ≤ turns) (hl : is.length ≤ 1000) :
    callN cst turns tab (k + 3) "filled" [ruleD r, sizeD R C, iconsD is] st = some (iconsD (filledV r R C is), st ++ [.lst ((filledV r R C is).map iconD)]) := by
  obtain ⟨env', g, g2⟩ := fl_loop (cst := cst) (turns := turns) (k := k) (st := st) t_ff t_cell t_tk (r := r) hR hC hT (z := some (iconsD is)) (rest := is) (done := []) hl (x4 := none) (x5 := none) (x6 := none) (x7 := none)
  rw [call_eq (k := k + 2) ht rfl]
  simp only [flB, flT, fBodyOf, fTgtOf, d_filled, List.getD_cons_succ, List.getD_cons_zero, List.length_nil, List.nil_append] at g
  have l : ∀ st, biD .list true [iconsD is] st = listD true st (iconsD is) := fun _ => rfl
  have t2 : biD .tuple false [.loc st.length] (st ++ [.lst ((filledV r R C is).map iconD)]) = some (iconsD (filledV r R C is), st ++ [.lst ((filledV r R C is).map iconD)]) := by
    show ((seqOf (st ++ [.lst ((filledV r R C is).map iconD)]) (.loc st.length)).bind fun xs => mkT xs (st ++ [.lst ((filledV r R C is).map iconD)])) = _
    simp only [seqOf, get_last, Option.bind_some]
    exact tup_ics (by rw [filled_len]; omega)
  unfold filledV at t2 ⊢
  simp only [d_filled, List.map_cons, List.map_nil, List.length_cons, List.length_nil, Nat.reduceAdd, Nat.reduceSub, Nat.reduceLT, List.replicate, List.cons_append, List.nil_append, Go, Ev1, Ev2, Ev3, Ex1, Ex2, Q.Pl, Val1, set_name, kSet_name, kSet_tup, stTs_name, stTs_nil, setAll_cons, evl_cons, Sx, List.getElem?_cons_zero, List.getElem?_cons_succ, List.set_cons_zero, List.set_cons_succ, Option.map_some, Option.bind_some, decide_eq_true_eq, if_true, if_false, Bool.false_eq_true, asO_some, asO_no, noneX_t, noneX_i, noneX_v, noneX_n, kAug_add, kAug_sub, Isa, MkT, comp_eq, for_eq, lst_eq_nil, BEq.rfl, Nw, fStar_tup, fStar2_eq, OptE, IcE, RuleE, PlaceE, l, list_ics hl, g, g2, t2]
end
end QL

/-! QRun3: resized, added, dropped, with_places, put. -/
namespace QL
open PySem PySem.Spec L2 Q
def Big (x : Int) : Prop := 0 < x ∧ x ≤ 1000000000000000000000000000000
theorem kSet_sta {C : Q.Ctx} {ts : List Tt} {env : Q.Env} {s : Sta} {st : Store} : kSet C (.tup ts) env (staD s) st = kSet C (.tup ts) env (.tup [sizeD s.R s.C, iconsD s.is]) st := rfl
theorem max_eq {m : Bool} {i j : Int} {st : Store} : biD .max m [.int i, .int j] st = some (.int (if j > i then j else i), st) := rfl
theorem min_eq {m : Bool} {i j : Int} {st : Store} : biD .min m [.int i, .int j] st = some (.int (if j < i then j else i), st) := rfl
theorem tup_of {xs : List D} {st : Store} (h : xs.length ≤ 1000000) : biD .tuple false [.lst xs] st = some (.tup xs, st) := mkT_ok (size_le h)
theorem len_d {is : Ics} {m : Bool} {st : Store} : biD .len m [iconsD is] st = some (.int (is.length : Nat), st) := by
  show some (D.int (((is.map iconD).length : Nat) : Int), st) = _
  rw [List.length_map]
theorem flat_one {α β : Type} {f : α → β} {l : List α} : (l.flatMap fun a => [f a]) = l.map f := by
  induction l with
  | nil => rfl
  | cons a l ih => rw [List.flatMap_cons, ih]; rfl
theorem flat_if {α β : Type} {f : α → β} {c : α → Bool} {l : List α} : (l.flatMap fun a => if c a = true then [f a] else []) = (l.filter c).map f := by
  induction l with
  | nil => rfl
  | cons a l ih =>
    rw [List.flatMap_cons, ih]
    cases h : c a with
    | true => rw [List.filter_cons_of_pos h]; rfl
    | false => rw [List.filter_cons_of_neg (by rw [h]; decide)]; rfl
theorem iterB_len {R C : Int} : ∀ {n : Nat} {is : Ics}, (iterB R C n is).length = is.length
  | 0, _ => rfl
  | n + 1, is => by
    show (iterB R C n (backV R C is)).length = _
    rw [iterB_len]
    have q := congrArg List.length (back1_names (R := R) (C := C) (tk := takenV is) is)
    rw [namesV, namesV, List.length_map, List.length_map] at q
    exact q
theorem cut_len {R C : Int} {is : Ics} : (cutV R C is).length = is.length := by unfold cutV; rw [List.length_map]
section
variable {cst : Str → Option D} {turns : Nat} {tab : Str → Option Def} {k : Nat} {st : Store}
abbrev rsF : S := match d_resized.body.getD 2 .pass with
  | .ite _ a _ => a.getD 0 .pass
  | _ => .pass
abbrev rsB : List S := fBodyOf rsF
abbrev rsT : Tt := fTgtOf rsF
theorem rs_loop (t_cb : tab "called_back" = some d_called_back) (t_on : tab "is_on" = some d_is_on) (t_tk : tab "taken" = some d_taken) {R C : Int} {x0 x1 x2 x4 x5 x7 x8 x9 : Option D} : ∀ {ds : List D} {is : Ics} {x10 : Option D}, is.length ≤ 1000 →
    ∃ x10', forLoop none (bindT rsT) (exL (cx cst turns tab (k + 2)) rsB) ds [x0, x1, x2, some (sizeD R C), x4, x5, some (iconsD is), x7, x8, x9, x10] st = some (.next, [x0, x1, x2, some (sizeD R C), x4, x5, some (iconsD (iterB R C ds.length is)), x7, x8, x9, x10'], st)
  | [], is, x10, _ => ⟨x10, rfl⟩
  | d :: ds, is, x10, hl => by
    have run : exL (cx cst turns tab (k + 2)) rsB [x0, x1, x2, some (sizeD R C), x4, x5, some (iconsD is), x7, x8, x9, some d] st = some (.next, [x0, x1, x2, some (sizeD R C), x4, x5, some (iconsD (backV R C is)), x7, x8, x9, some d], st) := by
      simp only [rsB, rsF, fBodyOf, d_resized, List.getD_cons_succ, List.getD_cons_zero, List.map_cons, List.map_nil, List.length_cons, List.length_nil, Nat.reduceAdd, Nat.reduceSub, Nat.reduceLT, List.replicate, List.cons_append, List.nil_append, Go, Ev1, Ev2, Ev3, Ex1, Ex2, Q.Pl, Val1, set_name, kSet_name, kSet_tup, stTs_name, stTs_nil, setAll_cons, evl_cons, Sx, List.getElem?_cons_zero, List.getElem?_cons_succ, List.set_cons_zero, List.set_cons_succ, Option.map_some, Option.bind_some, decide_eq_true_eq, if_true, if_false, Bool.false_eq_true, asO_some, asO_no, noneX_t, noneX_i, noneX_v, noneX_n, kAug_add, kAug_sub, Isa, MkT, comp_eq, for_eq, lst_eq_nil, BEq.rfl, Nw, fStar_tup, fStar2_eq, OptE, IcE, RuleE, PlaceE, called_back (k := k) t_cb t_on t_tk hl]
    obtain ⟨x, g⟩ := rs_loop t_cb t_on t_tk (R := R) (C := C) (x0 := x0) (x1 := x1) (x2 := x2) (x4 := x4) (x5 := x5) (x7 := x7) (x8 := x8) (x9 := x9) (ds := ds) (is := backV R C is) (x10 := some d) (by
      have q := iterB_len (R := R) (C := C) (n := 1) (is := is)
      show (iterB R C 1 is).length ≤ 1000
      omega)
    refine ⟨x, ?_⟩
    rw [for_next (env1 := [x0, x1, x2, some (sizeD R C), x4, x5, some (iconsD is), x7, x8, x9, some d]) rfl run]
    exact g
theorem range_len {n : Nat} : (rangeD 0 (n : Int)).length = n := by
  unfold rangeD
  rw [List.length_map, List.length_range]; omega
theorem zip_size {a b R C : Int} {st : Store} : kZip (sizeD R C) (sizeD a b) st = some (none, [.tup [.int R, .int a], .tup [.int C, .int b]], st) := rfl
theorem resized (ht : tab "resized" = some d_resized) (t_cb : tab "called_back" = some d_called_back) (t_on : tab "is_on" = some d_is_on) (t_fl : tab "filled" = some d_filled) (t_ff : tab "first_free" = some d_first_free) (t_cell : tab "cell_at" = some d_cell_at) (t_tk : tab "taken" = some d_taken) {r : Rule} {s : Sta} {a b : Int} (hR : Big (moreV s.R a)) (hC : Big (moreV s.C b)) (hT : 1002 ≤ turns) (hl : s.is.length ≤ 1000) :
    callN cst turns tab (k + 4) "resized" [ruleD r, staD s, sizeD a b] st = some (staD (resizedV r s a b), st ++ [.lst ((resizedV r s a b).is.map iconD)]) := by
  have on : ∀ {p : Option Pl} {st : Store}, callN cst turns tab (k + 3) "is_on" [sizeD (moreV s.R a) (moreV s.C b), optD p] st = some (.bl (onV (moreV s.R a) (moreV s.C b) p), st) := fun {p st} => is_on t_on
  rw [call_eq (k := k + 3) ht rfl]
  simp only [d_resized, List.map_cons, List.map_nil, List.length_cons, List.length_nil, Nat.reduceAdd, Nat.reduceSub, Nat.reduceLT, List.replicate, List.cons_append, List.nil_append, Go, Ev1, Ev2, Ev3, Ex1, Ex2, Q.Pl, Val1, set_name, kSet_name, kSet_tup, stTs_name, stTs_nil, setAll_cons, evl_cons, Sx, List.getElem?_cons_zero, List.getElem?_cons_succ, List.set_cons_zero, List.set_cons_succ, Option.map_some, Option.bind_some, decide_eq_true_eq, if_true, if_false, Bool.false_eq_true, asO_some, asO_no, noneX_t, noneX_i, noneX_v, noneX_n, kAug_add, kAug_sub, Isa, MkT, comp_eq, for_eq, lst_eq_nil, BEq.rfl, Nw, fStar_tup, fStar2_eq, OptE, IcE, RuleE, PlaceE, zip_size]
  have one : ∀ d ∈ [D.tup [.int s.R, .int a], .tup [.int s.C, .int b]], one1 (cx cst turns tab (k + 3)) [(("one" : Str), 4), (("other" : Str), 5)] (.tup [.name 4, .name 5]) (.bl true) (.bi .max false [.int 1, .bin .Add (.var 4) (.var 5)]) [some (ruleD r), some (staD s), some (sizeD a b), none, none, none, none, none, none, none, none] d st = some ((match d with | .tup [.int x, .int y] => [D.int (moreV x y)] | _ => []), st) := by
    intro d hd
    rcases List.mem_cons.mp hd with rfl | hd
    · rw [one1_bind (env1 := [some (ruleD r), some (staD s), some (sizeD a b), none, some (.int s.R), some (.int a), none, none, none, none, none]) rfl]
      simp only [List.map_cons, List.map_nil, List.length_cons, List.length_nil, Nat.reduceAdd, Nat.reduceSub, Nat.reduceLT, List.replicate, List.cons_append, List.nil_append, Go, Ev1, Ev2, Ev3, Ex1, Ex2, Q.Pl, Val1, set_name, kSet_name, kSet_tup, stTs_name, stTs_nil, setAll_cons, evl_cons, Sx, List.getElem?_cons_zero, List.getElem?_cons_succ, List.set_cons_zero, List.set_cons_succ, Option.map_some, Option.bind_some, decide_eq_true_eq, if_true, if_false, Bool.false_eq_true, asO_some, asO_no, noneX_t, noneX_i, noneX_v, noneX_n, kAug_add, kAug_sub, Isa, MkT, comp_eq, for_eq, lst_eq_nil, BEq.rfl, Nw, fStar_tup, fStar2_eq, OptE, IcE, RuleE, PlaceE, kBl_bl, max_eq]; rfl
    · rcases List.mem_cons.mp hd with rfl | hd
      · rw [one1_bind (env1 := [some (ruleD r), some (staD s), some (sizeD a b), none, some (.int s.C), some (.int b), none, none, none, none, none]) rfl]
        simp only [List.map_cons, List.map_nil, List.length_cons, List.length_nil, Nat.reduceAdd, Nat.reduceSub, Nat.reduceLT, List.replicate, List.cons_append, List.nil_append, Go, Ev1, Ev2, Ev3, Ex1, Ex2, Q.Pl, Val1, set_name, kSet_name, kSet_tup, stTs_name, stTs_nil, setAll_cons, evl_cons, Sx, List.getElem?_cons_zero, List.getElem?_cons_succ, List.set_cons_zero, List.set_cons_succ, Option.map_some, Option.bind_some, decide_eq_true_eq, if_true, if_false, Bool.false_eq_true, asO_some, asO_no, noneX_t, noneX_i, noneX_v, noneX_n, kAug_add, kAug_sub, Isa, MkT, comp_eq, for_eq, lst_eq_nil, BEq.rfl, Nw, fStar_tup, fStar2_eq, OptE, IcE, RuleE, PlaceE, kBl_bl, max_eq]; rfl
      · cases hd
  rw [compLoop_all one]
  have e1 : endC (some (List.flatMap (fun d => match d with | .tup [.int x, .int y] => [D.int (moreV x y)] | _ => []) [D.tup [.int s.R, .int a], .tup [.int s.C, .int b]], st)) = some (.lst [.int (moreV s.R a), .int (moreV s.C b)], st) := endC_ok (by simp [sizeLine])
  have e2 : biD .tuple false [.lst [.int (moreV s.R a), .int (moreV s.C b)]] st = some (sizeD (moreV s.R a) (moreV s.C b), st) := tup_of (by simp)
  simp only [e1, e2, List.map_cons, List.map_nil, List.length_cons, List.length_nil, Nat.reduceAdd, Nat.reduceSub, Nat.reduceLT, List.replicate, List.cons_append, List.nil_append, Go, Ev1, Ev2, Ev3, Ex1, Ex2, Q.Pl, Val1, set_name, kSet_name, kSet_tup, stTs_name, stTs_nil, setAll_cons, evl_cons, Sx, List.getElem?_cons_zero, List.getElem?_cons_succ, List.set_cons_zero, List.set_cons_succ, Option.map_some, Option.bind_some, decide_eq_true_eq, if_true, if_false, Bool.false_eq_true, asO_some, asO_no, noneX_t, noneX_i, noneX_v, noneX_n, kAug_add, kAug_sub, Isa, MkT, comp_eq, for_eq, lst_eq_nil, BEq.rfl, Nw, fStar_tup, fStar2_eq, OptE, IcE, RuleE, PlaceE]
  rw [loop_flat (F := iconD) (G := fun i => [iconD ⟨i.n, if onV (moreV s.R a) (moreV s.C b) i.p = true then i.p else none, i.w⟩]) fun i _ => by
    rw [one1_bind (env1 := [some (ruleD r), some (staD s), some (sizeD a b), some (sizeD (moreV s.R a) (moreV s.C b)), none, none, none, some (.str i.n), some (optD i.p), some (optD i.w), none]) rfl]
    cases e : onV (moreV s.R a) (moreV s.C b) i.p <;> simp only [List.map_cons, List.map_nil, List.length_cons, List.length_nil, Nat.reduceAdd, Nat.reduceSub, Nat.reduceLT, List.replicate, List.cons_append, List.nil_append, Go, Ev1, Ev2, Ev3, Ex1, Ex2, Q.Pl, Val1, set_name, kSet_name, kSet_tup, stTs_name, stTs_nil, setAll_cons, evl_cons, Sx, List.getElem?_cons_zero, List.getElem?_cons_succ, List.set_cons_zero, List.set_cons_succ, Option.map_some, Option.bind_some, decide_eq_true_eq, if_true, if_false, Bool.false_eq_true, asO_some, asO_no, noneX_t, noneX_i, noneX_v, noneX_n, kAug_add, kAug_sub, Isa, MkT, comp_eq, for_eq, lst_eq_nil, BEq.rfl, Nw, fStar_tup, fStar2_eq, OptE, IcE, RuleE, PlaceE, kBl_bl, on, e] <;> rfl]
  rw [flat_one (f := fun i : Ic => iconD ⟨i.n, if onV (moreV s.R a) (moreV s.C b) i.p = true then i.p else none, i.w⟩), show (s.is.map fun i : Ic => iconD ⟨i.n, if onV (moreV s.R a) (moreV s.C b) i.p = true then i.p else none, i.w⟩) = (cutV (moreV s.R a) (moreV s.C b) s.is).map iconD by unfold cutV; rw [List.map_map]; rfl]
  have lc : (cutV (moreV s.R a) (moreV s.C b) s.is).length = s.is.length := cut_len
  rw [endC_ok (size_le (by rw [List.length_map]; omega))]
  have e3 : biD .tuple false [.lst ((cutV (moreV s.R a) (moreV s.C b) s.is).map iconD)] st = some (iconsD (cutV (moreV s.R a) (moreV s.C b) s.is), st) := tup_of (by rw [List.length_map]; omega)
  have hmul : ∀ st, binD .Mult (.int 2) (.int ((s.is.length : Nat) : Int)) st = some (.int (2 * (s.is.length : Nat)), st) := fun st => mult_ok (by decide +kernel) (by
    have : 1000 < (2 : Nat) ^ 1000 := by decide +kernel
    omega)
  simp only [List.map_cons, List.map_nil, List.length_cons, List.length_nil, Nat.reduceAdd, Nat.reduceSub, Nat.reduceLT, List.replicate, List.cons_append, List.nil_append, Go, Ev1, Ev2, Ev3, Ex1, Ex2, Q.Pl, Val1, set_name, kSet_name, kSet_tup, stTs_name, stTs_nil, setAll_cons, evl_cons, Sx, List.getElem?_cons_zero, List.getElem?_cons_succ, List.set_cons_zero, List.set_cons_succ, Option.map_some, Option.bind_some, decide_eq_true_eq, if_true, if_false, Bool.false_eq_true, asO_some, asO_no, noneX_t, noneX_i, noneX_v, noneX_n, kAug_add, kAug_sub, Isa, MkT, comp_eq, for_eq, lst_eq_nil, BEq.rfl, Nw, fStar_tup, fStar2_eq, OptE, IcE, RuleE, PlaceE, e3]
  cases er : r.b with
  | false =>
    have ev : resizedV r s a b = ⟨moreV s.R a, moreV s.C b, filledV r (moreV s.R a) (moreV s.C b) (cutV (moreV s.R a) (moreV s.C b) s.is)⟩ := by unfold resizedV; rw [er]; rfl
    simp only [List.map_cons, List.map_nil, List.length_cons, List.length_nil, Nat.reduceAdd, Nat.reduceSub, Nat.reduceLT, List.replicate, List.cons_append, List.nil_append, Go, Ev1, Ev2, Ev3, Ex1, Ex2, Q.Pl, Val1, set_name, kSet_name, kSet_tup, stTs_name, stTs_nil, setAll_cons, evl_cons, Sx, List.getElem?_cons_zero, List.getElem?_cons_succ, List.set_cons_zero, List.set_cons_succ, Option.map_some, Option.bind_some, decide_eq_true_eq, if_true, if_false, Bool.false_eq_true, asO_some, asO_no, noneX_t, noneX_i, noneX_v, noneX_n, kAug_add, kAug_sub, Isa, MkT, comp_eq, for_eq, lst_eq_nil, BEq.rfl, Nw, fStar_tup, fStar2_eq, OptE, IcE, RuleE, PlaceE, filled (k := k) t_fl t_ff t_cell t_tk hR hC hT (show _ ≤ 1000 by rw [lc]; exact hl)]
    rw [ev]; rfl
  | true =>
    have ev : resizedV r s a b = ⟨moreV s.R a, moreV s.C b, filledV r (moreV s.R a) (moreV s.C b) (iterB (moreV s.R a) (moreV s.C b) (2 * s.is.length + 1) (cutV (moreV s.R a) (moreV s.C b) s.is))⟩ := by unfold resizedV; rw [er]; rfl
    have l62 : lim62 (2 * ((s.is.length : Nat) : Int) + 1) = true := by unfold lim62; simp; omega
    obtain ⟨x, g⟩ := rs_loop (cst := cst) (turns := turns) (k := k + 1) (st := st) t_cb t_on t_tk (R := moreV s.R a) (C := moreV s.C b) (x0 := some (ruleD r)) (x1 := some (staD s)) (x2 := some (sizeD a b)) (x4 := none) (x5 := none) (x7 := none) (x8 := none) (x9 := none) (x10 := none) (ds := rangeD 0 (2 * ((s.is.length : Nat) : Int) + 1)) (is := cutV (moreV s.R a) (moreV s.C b) s.is) (by omega)
    rw [show (2 * ((s.is.length : Nat) : Int) + 1) = ((2 * s.is.length + 1 : Nat) : Int) by omega, range_len] at g
    simp only [rsB, rsT, rsF, fBodyOf, fTgtOf, d_resized, List.getD_cons_succ, List.getD_cons_zero] at g
    have lc2 : (iterB (moreV s.R a) (moreV s.C b) (2 * s.is.length + 1) (cutV (moreV s.R a) (moreV s.C b) s.is)).length ≤ 1000 := by rw [iterB_len, lc]; exact hl
    simp only [List.map_cons, List.map_nil, List.length_cons, List.length_nil, Nat.reduceAdd, Nat.reduceSub, Nat.reduceLT, List.replicate, List.cons_append, List.nil_append, Go, Ev1, Ev2, Ev3, Ex1, Ex2, Q.Pl, Val1, set_name, kSet_name, kSet_tup, stTs_name, stTs_nil, setAll_cons, evl_cons, Sx, List.getElem?_cons_zero, List.getElem?_cons_succ, List.set_cons_zero, List.set_cons_succ, Option.map_some, Option.bind_some, decide_eq_true_eq, if_true, if_false, Bool.false_eq_true, asO_some, asO_no, noneX_t, noneX_i, noneX_v, noneX_n, kAug_add, kAug_sub, Isa, MkT, comp_eq, for_eq, lst_eq_nil, BEq.rfl, Nw, fStar_tup, fStar2_eq, OptE, IcE, RuleE, PlaceE, len_d, lc, hmul, l62]
    rw [show (2 * ((s.is.length : Nat) : Int) + 1) = ((2 * s.is.length + 1 : Nat) : Int) by omega, g]
    simp only [List.map_cons, List.map_nil, List.length_cons, List.length_nil, Nat.reduceAdd, Nat.reduceSub, Nat.reduceLT, List.replicate, List.cons_append, List.nil_append, Go, Ev1, Ev2, Ev3, Ex1, Ex2, Q.Pl, Val1, set_name, kSet_name, kSet_tup, stTs_name, stTs_nil, setAll_cons, evl_cons, Sx, List.getElem?_cons_zero, List.getElem?_cons_succ, List.set_cons_zero, List.set_cons_succ, Option.map_some, Option.bind_some, decide_eq_true_eq, if_true, if_false, Bool.false_eq_true, asO_some, asO_no, noneX_t, noneX_i, noneX_v, noneX_n, kAug_add, kAug_sub, Isa, MkT, comp_eq, for_eq, lst_eq_nil, BEq.rfl, Nw, fStar_tup, fStar2_eq, OptE, IcE, RuleE, PlaceE, filled (k := k) t_fl t_ff t_cell t_tk hR hC hT lc2]
    rw [ev]; rfl
/-! ### added and dropped -/
theorem str_any {n : Str} : ∀ {xs : List Str}, ((xs.map D.str).any fun y => y.eq (.str n)) = decide (n ∈ xs)
  | [] => rfl
  | x :: xs => by
    rw [List.map_cons, List.any_cons, str_any]
    have e : D.eq (.str x) (.str n) = (x == n) := by simp only [D.eq]
    rw [e]
    by_cases h : x = n
    · subst h; simp
    · have : (x == n) = false := by simpa using h
      rw [this, Bool.false_or]
      have h' : ¬ n = x := fun z => h z.symm
      simp [h']
theorem ok_strs : ∀ {xs : List Str}, D.okL 20 (xs.map D.str) = true
  | [] => by simp [D.okL]
  | x :: xs => by
    rw [List.map_cons]
    have e : D.ok 20 (.str x) = true := by simp [D.ok]
    simp only [D.okL, e, Bool.true_and]
    exact ok_strs
theorem mem_names {st : Store} {n : Str} {xs : List Str} : memD st (.str n) (.lst (xs.map .str)) = some (decide (n ∈ xs)) := by
  have e : D.ok 20 (.str n) = true := by simp [D.ok]
  show (if (D.ok 20 (.str n) && D.okL 20 (xs.map D.str)) = true then some ((xs.map D.str).any fun y => y.eq (.str n)) else none) = _
  rw [e, ok_strs, str_any]; rfl
theorem names_of {is : Ics} : is.map (fun i : Ic => D.str i.n) = (namesV is).map D.str := by unfold namesV; rw [List.map_map]; rfl
theorem added (ht : tab "added" = some d_added) (t_ff : tab "first_free" = some d_first_free) (t_cell : tab "cell_at" = some d_cell_at) (t_tk : tab "taken" = some d_taken) {r : Rule} {s : Sta} {n : Str} (hR : Big s.R) (hC : Big s.C) (hT : 1002 ≤ turns) (hl : s.is.length < 1000) :
    callN cst turns tab (k + 3) "added" [ruleD r, staD s, .str n] st = some (staD (addedV r s n), st) := by
  rw [call_eq (k := k + 2) ht rfl]
  simp only [d_added, List.map_cons, List.map_nil, List.length_cons, List.length_nil, Nat.reduceAdd, Nat.reduceSub, Nat.reduceLT, List.replicate, List.cons_append, List.nil_append, Go, Ev1, Ev2, Ev3, Ex1, Ex2, Q.Pl, Val1, set_name, kSet_name, kSet_tup, stTs_name, stTs_nil, setAll_cons, evl_cons, Sx, List.getElem?_cons_zero, List.getElem?_cons_succ, List.set_cons_zero, List.set_cons_succ, Option.map_some, Option.bind_some, decide_eq_true_eq, if_true, if_false, Bool.false_eq_true, asO_some, asO_no, noneX_t, noneX_i, noneX_v, noneX_n, kAug_add, kAug_sub, Isa, MkT, comp_eq, for_eq, lst_eq_nil, BEq.rfl, Nw, fStar_tup, fStar2_eq, OptE, IcE, RuleE, PlaceE, kSet_sta]
  rw [loop_flat (F := iconD) (G := fun i => [D.str i.n]) fun i _ => by
    rw [one1_bind (env1 := [some (ruleD r), some (staD s), some (.str n), some (sizeD s.R s.C), some (iconsD s.is), some (iconD i), none]) rfl]
    simp only [List.map_cons, List.map_nil, List.length_cons, List.length_nil, Nat.reduceAdd, Nat.reduceSub, Nat.reduceLT, List.replicate, List.cons_append, List.nil_append, Go, Ev1, Ev2, Ev3, Ex1, Ex2, Q.Pl, Val1, set_name, kSet_name, kSet_tup, stTs_name, stTs_nil, setAll_cons, evl_cons, Sx, List.getElem?_cons_zero, List.getElem?_cons_succ, List.set_cons_zero, List.set_cons_succ, Option.map_some, Option.bind_some, decide_eq_true_eq, if_true, if_false, Bool.false_eq_true, asO_some, asO_no, noneX_t, noneX_i, noneX_v, noneX_n, kAug_add, kAug_sub, Isa, MkT, comp_eq, for_eq, lst_eq_nil, BEq.rfl, Nw, fStar_tup, fStar2_eq, OptE, IcE, RuleE, PlaceE, kBl_bl]]
  rw [flat_one (f := fun i : Ic => D.str i.n), names_of, endC_ok (size_le (by rw [List.length_map, namesV, List.length_map]; omega))]
  have lt : (takenV s.is).length ≤ s.is.length := List.length_filterMap_le _ _
  simp only [List.map_cons, List.map_nil, List.length_cons, List.length_nil, Nat.reduceAdd, Nat.reduceSub, Nat.reduceLT, List.replicate, List.cons_append, List.nil_append, Go, Ev1, Ev2, Ev3, Ex1, Ex2, Q.Pl, Val1, set_name, kSet_name, kSet_tup, stTs_name, stTs_nil, setAll_cons, evl_cons, Sx, List.getElem?_cons_zero, List.getElem?_cons_succ, List.set_cons_zero, List.set_cons_succ, Option.map_some, Option.bind_some, decide_eq_true_eq, if_true, if_false, Bool.false_eq_true, asO_some, asO_no, noneX_t, noneX_i, noneX_v, noneX_n, kAug_add, kAug_sub, Isa, MkT, comp_eq, for_eq, lst_eq_nil, BEq.rfl, Nw, fStar_tup, fStar2_eq, OptE, IcE, RuleE, PlaceE, mem_names]
  unfold addedV
  by_cases h : n ∈ namesV s.is
  · rw [if_pos h]
    simp only [List.map_cons, List.map_nil, List.length_cons, List.length_nil, Nat.reduceAdd, Nat.reduceSub, Nat.reduceLT, List.replicate, List.cons_append, List.nil_append, Go, Ev1, Ev2, Ev3, Ex1, Ex2, Q.Pl, Val1, set_name, kSet_name, kSet_tup, stTs_name, stTs_nil, setAll_cons, evl_cons, Sx, List.getElem?_cons_zero, List.getElem?_cons_succ, List.set_cons_zero, List.set_cons_succ, Option.map_some, Option.bind_some, decide_eq_true_eq, if_true, if_false, Bool.false_eq_true, asO_some, asO_no, noneX_t, noneX_i, noneX_v, noneX_n, kAug_add, kAug_sub, Isa, MkT, comp_eq, for_eq, lst_eq_nil, BEq.rfl, Nw, fStar_tup, fStar2_eq, OptE, IcE, RuleE, PlaceE, h, decide_true]
  · rw [if_neg h]
    have t : mkT (s.is.map iconD ++ [D.tup [.str n, optD (freeV r s.R s.C (takenV s.is) 0), optD (freeV r s.R s.C (takenV s.is) 0)]]) st = some (iconsD (s.is ++ [⟨n, freeV r s.R s.C (takenV s.is) 0, freeV r s.R s.C (takenV s.is) 0⟩]), st) := by
      rw [← tup_ics (by simp; omega), List.map_append]; rfl
    simp only [List.map_cons, List.map_nil, List.length_cons, List.length_nil, Nat.reduceAdd, Nat.reduceSub, Nat.reduceLT, List.replicate, List.cons_append, List.nil_append, Go, Ev1, Ev2, Ev3, Ex1, Ex2, Q.Pl, Val1, set_name, kSet_name, kSet_tup, stTs_name, stTs_nil, setAll_cons, evl_cons, Sx, List.getElem?_cons_zero, List.getElem?_cons_succ, List.set_cons_zero, List.set_cons_succ, Option.map_some, Option.bind_some, decide_eq_true_eq, if_true, if_false, Bool.false_eq_true, asO_some, asO_no, noneX_t, noneX_i, noneX_v, noneX_n, kAug_add, kAug_sub, Isa, MkT, comp_eq, for_eq, lst_eq_nil, BEq.rfl, Nw, fStar_tup, fStar2_eq, OptE, IcE, RuleE, PlaceE, h, decide_false, taken_ok (k := k + 1) t_tk (Nat.le_of_lt hl), first_free (k := k) t_ff t_cell hR hC (Int.le_refl 0) (show (takenV s.is).length + 2 ≤ turns by omega), star_ics, t]
    rfl
theorem drop_len {n : Str} {is : Ics} : (dropN n is).length ≤ is.length := List.length_filter_le _ _
theorem dropped (ht : tab "dropped" = some d_dropped) (t_fl : tab "filled" = some d_filled) (t_ff : tab "first_free" = some d_first_free) (t_cell : tab "cell_at" = some d_cell_at) (t_tk : tab "taken" = some d_taken) {r : Rule} {s : Sta} {n : Str} (hR : Big s.R) (hC : Big s.C) (hT : 1002 ≤ turns) (hl : s.is.length ≤ 1000) :
    callN cst turns tab (k + 4) "dropped" [ruleD r, staD s, .str n] st = some (staD (droppedV r s n), st ++ [.lst ((droppedV r s n).is.map iconD)]) := by
  rw [call_eq (k := k + 3) ht rfl]
  simp only [d_dropped, List.map_cons, List.map_nil, List.length_cons, List.length_nil, Nat.reduceAdd, Nat.reduceSub, Nat.reduceLT, List.replicate, List.cons_append, List.nil_append, Go, Ev1, Ev2, Ev3, Ex1, Ex2, Q.Pl, Val1, set_name, kSet_name, kSet_tup, stTs_name, stTs_nil, setAll_cons, evl_cons, Sx, List.getElem?_cons_zero, List.getElem?_cons_succ, List.set_cons_zero, List.set_cons_succ, Option.map_some, Option.bind_some, decide_eq_true_eq, if_true, if_false, Bool.false_eq_true, asO_some, asO_no, noneX_t, noneX_i, noneX_v, noneX_n, kAug_add, kAug_sub, Isa, MkT, comp_eq, for_eq, lst_eq_nil, BEq.rfl, Nw, fStar_tup, fStar2_eq, OptE, IcE, RuleE, PlaceE, kSet_sta]
  rw [loop_flat (F := iconD) (G := fun i => if (!decide (i.n = n)) = true then [iconD i] else []) fun i _ => by
    rw [one1_bind (env1 := [some (ruleD r), some (staD s), some (.str n), some (sizeD s.R s.C), some (iconsD s.is), some (iconD i)]) rfl]
    by_cases h : i.n = n
    · simp [List.map_cons, List.map_nil, List.length_cons, List.length_nil, Nat.reduceAdd, Nat.reduceSub, Nat.reduceLT, List.replicate, List.cons_append, List.nil_append, Go, Ev1, Ev2, Ev3, Ex1, Ex2, Q.Pl, Val1, set_name, kSet_name, kSet_tup, stTs_name, stTs_nil, setAll_cons, evl_cons, Sx, List.getElem?_cons_zero, List.getElem?_cons_succ, List.set_cons_zero, List.set_cons_succ, Option.map_some, Option.bind_some, decide_eq_true_eq, if_true, if_false, Bool.false_eq_true, asO_some, asO_no, noneX_t, noneX_i, noneX_v, noneX_n, kAug_add, kAug_sub, Isa, MkT, comp_eq, for_eq, lst_eq_nil, BEq.rfl, Nw, fStar_tup, fStar2_eq, OptE, IcE, RuleE, PlaceE, kBl_bl, h]
    · simp [List.map_cons, List.map_nil, List.length_cons, List.length_nil, Nat.reduceAdd, Nat.reduceSub, Nat.reduceLT, List.replicate, List.cons_append, List.nil_append, Go, Ev1, Ev2, Ev3, Ex1, Ex2, Q.Pl, Val1, set_name, kSet_name, kSet_tup, stTs_name, stTs_nil, setAll_cons, evl_cons, Sx, List.getElem?_cons_zero, List.getElem?_cons_succ, List.set_cons_zero, List.set_cons_succ, Option.map_some, Option.bind_some, decide_eq_true_eq, if_true, if_false, Bool.false_eq_true, asO_some, asO_no, noneX_t, noneX_i, noneX_v, noneX_n, kAug_add, kAug_sub, Isa, MkT, comp_eq, for_eq, lst_eq_nil, BEq.rfl, Nw, fStar_tup, fStar2_eq, OptE, IcE, RuleE, PlaceE, kBl_bl, h]]
  rw [flat_if (f := iconD) (c := fun i : Ic => !decide (i.n = n)), show (s.is.filter fun i => !decide (i.n = n)) = dropN n s.is from rfl]
  have l := drop_len (n := n) (is := s.is)
  rw [endC_ok (size_le (by rw [List.length_map]; omega))]
  have e3 : biD .tuple false [.lst ((dropN n s.is).map iconD)] st = some (iconsD (dropN n s.is), st) := tup_of (by rw [List.length_map]; omega)
  simp only [List.map_cons, List.map_nil, List.length_cons, List.length_nil, Nat.reduceAdd, Nat.reduceSub, Nat.reduceLT, List.replicate, List.cons_append, List.nil_append, Go, Ev1, Ev2, Ev3, Ex1, Ex2, Q.Pl, Val1, set_name, kSet_name, kSet_tup, stTs_name, stTs_nil, setAll_cons, evl_cons, Sx, List.getElem?_cons_zero, List.getElem?_cons_succ, List.set_cons_zero, List.set_cons_succ, Option.map_some, Option.bind_some, decide_eq_true_eq, if_true, if_false, Bool.false_eq_true, asO_some, asO_no, noneX_t, noneX_i, noneX_v, noneX_n, kAug_add, kAug_sub, Isa, MkT, comp_eq, for_eq, lst_eq_nil, BEq.rfl, Nw, fStar_tup, fStar2_eq, OptE, IcE, RuleE, PlaceE, e3, filled (k := k) t_fl t_ff t_cell t_tk hR hC hT (show (dropN n s.is).length ≤ 1000 by omega)]
  rfl
/-! ### put -/
theorem with_places (ht : tab "with_places" = some d_with_places) {is : Ics} {n : Nat} {kvs : List (Key × D)} {f : Str → Option (Option Pl)} (hn : st[n]? = some (.dct kvs)) (hf : ∀ x, dget kvs (.inr x) = (f x).map optD) (hl : is.length ≤ 1000) :
    callN cst turns tab (k + 1) "with_places" [iconsD is, .loc n] st = some (iconsD (withV f is), st) := by
  rw [call_eq ht rfl]
  simp only [d_with_places, List.map_cons, List.map_nil, List.length_cons, List.length_nil, Nat.reduceAdd, Nat.reduceSub, Nat.reduceLT, List.replicate, List.cons_append, List.nil_append, Go, Ev1, Ev2, Ev3, Ex1, Ex2, Q.Pl, Val1, set_name, kSet_name, kSet_tup, stTs_name, stTs_nil, setAll_cons, evl_cons, Sx, List.getElem?_cons_zero, List.getElem?_cons_succ, List.set_cons_zero, List.set_cons_succ, Option.map_some, Option.bind_some, decide_eq_true_eq, if_true, if_false, Bool.false_eq_true, asO_some, asO_no, noneX_t, noneX_i, noneX_v, noneX_n, kAug_add, kAug_sub, Isa, MkT, comp_eq, for_eq, lst_eq_nil, BEq.rfl, Nw, fStar_tup, fStar2_eq, OptE, IcE, RuleE, PlaceE]
  have dk : dctOf st (.loc n) = some kvs := by simp only [dctOf, hn]
  have mk : ∀ x : Str, kMemK (.str x) (.loc n) st = some (.bl (f x).isSome, st) := fun x => by
    show ((dctOf st (.loc n)).bind fun kvs => (keyOf (.str x)).map fun k => ((.bl (dget kvs k).isSome : D), st)) = _
    rw [dk]
    show some (D.bl (dget kvs (.inr x)).isSome, st) = _
    rw [hf]; cases f x <;> rfl
  have sk : ∀ x p, f x = some p → kSubK (.loc n) (.str x) st = some (optD p, st) := fun x p h => by
    show ((dctOf st (.loc n)).bind fun kvs => (keyOf (.str x)).bind fun k => (dget kvs k).map fun d => (d, st)) = _
    rw [dk]
    show (dget kvs (.inr x)).map _ = _
    rw [hf, h]; rfl
  rw [loop_flat (F := iconD) (G := fun i => [iconD (wI f i)]) fun i _ => by
    rw [one1_bind (env1 := [some (iconsD is), some (.loc n), some (iconD i)]) rfl]
    cases e : f i.n with
    | none => rw [wI_none e]; simp only [List.map_cons, List.map_nil, List.length_cons, List.length_nil, Nat.reduceAdd, Nat.reduceSub, Nat.reduceLT, List.replicate, List.cons_append, List.nil_append, Go, Ev1, Ev2, Ev3, Ex1, Ex2, Q.Pl, Val1, set_name, kSet_name, kSet_tup, stTs_name, stTs_nil, setAll_cons, evl_cons, Sx, List.getElem?_cons_zero, List.getElem?_cons_succ, List.set_cons_zero, List.set_cons_succ, Option.map_some, Option.bind_some, decide_eq_true_eq, if_true, if_false, Bool.false_eq_true, asO_some, asO_no, noneX_t, noneX_i, noneX_v, noneX_n, kAug_add, kAug_sub, Isa, MkT, comp_eq, for_eq, lst_eq_nil, BEq.rfl, Nw, fStar_tup, fStar2_eq, OptE, IcE, RuleE, PlaceE, kBl_bl, mk, e, Option.isSome_none]
    | some p => rw [wI_some e]; simp only [List.map_cons, List.map_nil, List.length_cons, List.length_nil, Nat.reduceAdd, Nat.reduceSub, Nat.reduceLT, List.replicate, List.cons_append, List.nil_append, Go, Ev1, Ev2, Ev3, Ex1, Ex2, Q.Pl, Val1, set_name, kSet_name, kSet_tup, stTs_name, stTs_nil, setAll_cons, evl_cons, Sx, List.getElem?_cons_zero, List.getElem?_cons_succ, List.set_cons_zero, List.set_cons_succ, Option.map_some, Option.bind_some, decide_eq_true_eq, if_true, if_false, Bool.false_eq_true, asO_some, asO_no, noneX_t, noneX_i, noneX_v, noneX_n, kAug_add, kAug_sub, Isa, MkT, comp_eq, for_eq, lst_eq_nil, BEq.rfl, Nw, fStar_tup, fStar2_eq, OptE, IcE, RuleE, PlaceE, kBl_bl, mk, e, Option.isSome_some, sk i.n p e]; rfl]
  rw [flat_one (f := fun i : Ic => iconD (wI f i)), show (is.map fun i : Ic => iconD (wI f i)) = (withV f is).map iconD by unfold withV; rw [List.map_map]; rfl]
  have lw : (withV f is).length = is.length := by unfold withV; rw [List.length_map]
  rw [endC_ok (size_le (by rw [List.length_map]; omega))]
  have e3 : biD .tuple false [.lst ((withV f is).map iconD)] st = some (iconsD (withV f is), st) := tup_of (by rw [List.length_map]; omega)
  simp only [List.map_cons, List.map_nil, List.length_cons, List.length_nil, Nat.reduceAdd, Nat.reduceSub, Nat.reduceLT, List.replicate, List.cons_append, List.nil_append, Go, Ev1, Ev2, Ev3, Ex1, Ex2, Q.Pl, Val1, set_name, kSet_name, kSet_tup, stTs_name, stTs_nil, setAll_cons, evl_cons, Sx, List.getElem?_cons_zero, List.getElem?_cons_succ, List.set_cons_zero, List.set_cons_succ, Option.map_some, Option.bind_some, decide_eq_true_eq, if_true, if_false, Bool.false_eq_true, asO_some, asO_no, noneX_t, noneX_i, noneX_v, noneX_n, kAug_add, kAug_sub, Isa, MkT, comp_eq, for_eq, lst_eq_nil, BEq.rfl, Nw, fStar_tup, fStar2_eq, OptE, IcE, RuleE, PlaceE, e3]
end
end QL

/-! QRun4: put. -/
namespace QL
open PySem PySem.Spec L2 Q
theorem ics_nil {is : Ics} {st : Store} : cmpD st .Eq (.lst (is.map iconD)) (.lst []) = some (decide (is = [])) := by
  show deq st (.lst (is.map iconD)) (.lst []) = _
  unfold deq
  show (if (D.ok 20 (.lst (is.map iconD)) && D.ok 20 (.lst [])) = true then some (D.eq (.lst (is.map iconD)) (.lst [])) else none) = _
  have e1 : D.ok 20 (.lst (is.map iconD)) = true := by
    simp only [D.ok]
    exact okL_of fun d hd => by
      obtain ⟨i, _, rfl⟩ := List.mem_map.mp hd
      simp only [iconD, D.ok, D.okL, optD_ok, Bool.and_true]
  have e2 : D.ok 20 (.lst []) = true := by simp [D.ok, D.okL]
  rw [e1, e2]
  cases is with
  | nil => simp [D.eq, D.eqL]
  | cons i is => simp [D.eq, D.eqL]
theorem dct1 {n : Str} {d : D} {st : Store} : kDct [.str n, d] st = some (.loc st.length, st ++ [.dct [(.inr n, d)]]) := rfl
theorem dct2 {n t : Str} {d e : D} {st : Store} (h : t ≠ n) : kDct [.str n, d, .str t, e] st = some (.loc st.length, st ++ [.dct [(.inr n, d), (.inr t, e)]]) := by
  show mkD (dput (dput [] (.inr n) d) (.inr t) e) st = _
  have e1 : dput [] (.inr n) d = [(.inr n, d)] := rfl
  have e2 : dput [((.inr n : Key), d)] (.inr t) e = [(.inr n, d), (.inr t, e)] := by
    unfold dput
    have : ¬ (Sum.inr n : Key) = .inr t := fun z => h (Sum.inr.inj z).symm
    simp [this]
  rw [e1, e2]; rfl
theorem get1 {n x : Str} {p : Option Pl} : dget [((.inr n : Key), optD p)] (.inr x) = (one1V n p x).map optD := by
  unfold dget one1V
  by_cases h : x = n
  · subst h; simp
  · have : ¬ (Sum.inr n : Key) = .inr x := fun z => h (Sum.inr.inj z).symm
    simp [this, h]
theorem get2 {n m x : Str} {p q : Option Pl} : dget [((.inr n : Key), optD p), (.inr m, optD q)] (.inr x) = (two2V n p m q x).map optD := by
  unfold dget two2V
  by_cases h : x = n
  · subst h; simp
  · have h1 : ¬ (Sum.inr n : Key) = .inr x := fun z => h (Sum.inr.inj z).symm
    by_cases g : x = m
    · subst g; simp [h1, h]
    · have h2 : ¬ (Sum.inr m : Key) = .inr x := fun z => g (Sum.inr.inj z).symm
      simp [h1, h2, h, g]
theorem mem_next {m : Nat} : (memS m == ("next" : Str)) = decide (m = 0) := by
  match m with
  | 0 => decide +kernel
  | 1 => decide +kernel
  | m + 2 => 
    show (("swap" : Str) == ("next" : Str)) = _
    rw [show (("swap" : Str) == ("next" : Str)) = false by decide +kernel]
    simp
theorem mem_swap {m : Nat} (h : m < 3) : (memS m == ("swap" : Str)) = decide (m = 2) := by
  match m, h with
  | 0, _ => decide +kernel
  | 1, _ => decide +kernel
  | 2, _ => decide +kernel
theorem swapN {m : Nat} (h : m < 3) (e : m ≠ 2) : (memS m == ("swap" : Str)) = false := by rw [mem_swap h]; exact decide_eq_false e
section
variable {cst : Str → Option D} {turns : Nat} {tab : Str → Option Def} {k : Nat} {st : Store}
theorem with_len {f : Str → Option (Option Pl)} {is : Ics} : (withV f is).length = is.length := by unfold withV; rw [List.length_map]
theorem get_app {st : Store} {a b : SO} : (st ++ [a])[st.length]? = some a := get_last
theorem put (ht : tab "put" = some d_put) (t_ix : tab "index_of" = some d_index_of) (t_on : tab "is_on" = some d_is_on) (t_wp : tab "with_places" = some d_with_places) (t_fl : tab "filled" = some d_filled) (t_ff : tab "first_free" = some d_first_free) (t_cell : tab "cell_at" = some d_cell_at) (t_tk : tab "taken" = some d_taken)
    {r : Rule} {s : Sta} {n : Str} {q : Pl} (hm : r.m < 3) (hR : Big s.R) (hC : Big s.C) (hT : 1002 ≤ turns) (hl : s.is.length ≤ 1000) :
    ∃ ex, callN cst turns tab (k + 4) "put" [ruleD r, staD s, .str n, placeD q] st = some (staD (putV r s n q), st ++ ex) := by
  have e0 : optD (some q) = placeD q := rfl
  have on : ∀ {st : Store}, callN cst turns tab (k + 3) "is_on" [sizeD s.R s.C, placeD q] st = some (.bl (onV s.R s.C (some q)), st) := fun {st} => is_on (p := some q) t_on
  rw [call_eq (k := k + 3) ht rfl]
  simp only [d_put, List.map_cons, List.map_nil, List.length_cons, List.length_nil, Nat.reduceAdd, Nat.reduceSub, Nat.reduceLT, List.replicate, List.cons_append, List.nil_append, Go, Ev1, Ev2, Ev3, Ex1, Ex2, Q.Pl, Val1, set_name, kSet_name, kSet_tup, stTs_name, stTs_nil, setAll_cons, evl_cons, Sx, List.getElem?_cons_zero, List.getElem?_cons_succ, List.set_cons_zero, List.set_cons_succ, Option.map_some, Option.bind_some, decide_eq_true_eq, if_true, if_false, Bool.false_eq_true, asO_some, asO_no, noneX_t, noneX_i, noneX_v, noneX_n, kAug_add, kAug_sub, Isa, MkT, comp_eq, for_eq, lst_eq_nil, BEq.rfl, Nw, fStar_tup, fStar2_eq, OptE, IcE, RuleE, PlaceE, kSet_sta]
  rw [loop_flat (F := iconD) (G := fun i => if (decide (i.n = n) && i.p.isSome) = true then [iconD i] else []) fun i _ => by
    rw [one1_bind (env1 := [some (ruleD r), some (staD s), some (.str n), some (placeD q), some (sizeD s.R s.C), some (iconsD s.is), none, some (iconD i), none, none]) rfl]
    by_cases h : i.n = n
    · cases e : i.p <;> simp [List.map_cons, List.map_nil, List.length_cons, List.length_nil, Nat.reduceAdd, Nat.reduceSub, Nat.reduceLT, List.replicate, List.cons_append, List.nil_append, Go, Ev1, Ev2, Ev3, Ex1, Ex2, Q.Pl, Val1, set_name, kSet_name, kSet_tup, stTs_name, stTs_nil, setAll_cons, evl_cons, Sx, List.getElem?_cons_zero, List.getElem?_cons_succ, List.set_cons_zero, List.set_cons_succ, Option.map_some, Option.bind_some, decide_eq_true_eq, if_true, if_false, Bool.false_eq_true, asO_some, asO_no, noneX_t, noneX_i, noneX_v, noneX_n, kAug_add, kAug_sub, Isa, MkT, comp_eq, for_eq, lst_eq_nil, BEq.rfl, Nw, fStar_tup, fStar2_eq, OptE, IcE, RuleE, PlaceE, kBl_bl, h, e]
    · simp [List.map_cons, List.map_nil, List.length_cons, List.length_nil, Nat.reduceAdd, Nat.reduceSub, Nat.reduceLT, List.replicate, List.cons_append, List.nil_append, Go, Ev1, Ev2, Ev3, Ex1, Ex2, Q.Pl, Val1, set_name, kSet_name, kSet_tup, stTs_name, stTs_nil, setAll_cons, evl_cons, Sx, List.getElem?_cons_zero, List.getElem?_cons_succ, List.set_cons_zero, List.set_cons_succ, Option.map_some, Option.bind_some, decide_eq_true_eq, if_true, if_false, Bool.false_eq_true, asO_some, asO_no, noneX_t, noneX_i, noneX_v, noneX_n, kAug_add, kAug_sub, Isa, MkT, comp_eq, for_eq, lst_eq_nil, BEq.rfl, Nw, fStar_tup, fStar2_eq, OptE, IcE, RuleE, PlaceE, kBl_bl, h]]
  rw [flat_if (f := iconD) (c := fun i : Ic => decide (i.n = n) && i.p.isSome), show (s.is.filter fun i : Ic => decide (i.n = n) && i.p.isSome) = ownV n s.is from rfl]
  have l1 : (ownV n s.is).length ≤ s.is.length := List.length_filter_le _ _
  rw [endC_ok (size_le (by rw [List.length_map]; omega))]
  simp only [List.map_cons, List.map_nil, List.length_cons, List.length_nil, Nat.reduceAdd, Nat.reduceSub, Nat.reduceLT, List.replicate, List.cons_append, List.nil_append, Go, Ev1, Ev2, Ev3, Ex1, Ex2, Q.Pl, Val1, set_name, kSet_name, kSet_tup, stTs_name, stTs_nil, setAll_cons, evl_cons, Sx, List.getElem?_cons_zero, List.getElem?_cons_succ, List.set_cons_zero, List.set_cons_succ, Option.map_some, Option.bind_some, decide_eq_true_eq, if_true, if_false, Bool.false_eq_true, asO_some, asO_no, noneX_t, noneX_i, noneX_v, noneX_n, kAug_add, kAug_sub, Isa, MkT, comp_eq, for_eq, lst_eq_nil, BEq.rfl, Nw, fStar_tup, fStar2_eq, OptE, IcE, RuleE, PlaceE, mkL_nil, ics_nil, on]
  unfold putV
  cases eo : ownV n s.is with
  | nil => 
    simp only [List.map_cons, List.map_nil, List.length_cons, List.length_nil, Nat.reduceAdd, Nat.reduceSub, Nat.reduceLT, List.replicate, List.cons_append, List.nil_append, Go, Ev1, Ev2, Ev3, Ex1, Ex2, Q.Pl, Val1, set_name, kSet_name, kSet_tup, stTs_name, stTs_nil, setAll_cons, evl_cons, Sx, List.getElem?_cons_zero, List.getElem?_cons_succ, List.set_cons_zero, List.set_cons_succ, Option.map_some, Option.bind_some, decide_eq_true_eq, if_true, if_false, Bool.false_eq_true, asO_some, asO_no, noneX_t, noneX_i, noneX_v, noneX_n, kAug_add, kAug_sub, Isa, MkT, comp_eq, for_eq, lst_eq_nil, BEq.rfl, Nw, fStar_tup, fStar2_eq, OptE, IcE, RuleE, PlaceE, decide_true]
    exact ⟨[], by rw [List.append_nil]⟩
  | cons own lo =>
    have lon := own_mem eo
    obtain ⟨ho1, ho2, p0, ho3⟩ := lon
    cases hon : onV s.R s.C (some q) with
    | false =>
      simp only [List.map_cons, List.map_nil, List.length_cons, List.length_nil, Nat.reduceAdd, Nat.reduceSub, Nat.reduceLT, List.replicate, List.cons_append, List.nil_append, Go, Ev1, Ev2, Ev3, Ex1, Ex2, Q.Pl, Val1, set_name, kSet_name, kSet_tup, stTs_name, stTs_nil, setAll_cons, evl_cons, Sx, List.getElem?_cons_zero, List.getElem?_cons_succ, List.set_cons_zero, List.set_cons_succ, Option.map_some, Option.bind_some, decide_eq_true_eq, if_true, if_false, Bool.false_eq_true, asO_some, asO_no, noneX_t, noneX_i, noneX_v, noneX_n, kAug_add, kAug_sub, Isa, MkT, comp_eq, for_eq, lst_eq_nil, BEq.rfl, Nw, fStar_tup, fStar2_eq, OptE, IcE, RuleE, PlaceE, reduceCtorEq, decide_false, Bool.not_false]
      exact ⟨[], by rw [List.append_nil]⟩
    | true =>
      simp only [List.map_cons, List.map_nil, List.length_cons, List.length_nil, Nat.reduceAdd, Nat.reduceSub, Nat.reduceLT, List.replicate, List.cons_append, List.nil_append, Go, Ev1, Ev2, Ev3, Ex1, Ex2, Q.Pl, Val1, set_name, kSet_name, kSet_tup, stTs_name, stTs_nil, setAll_cons, evl_cons, Sx, List.getElem?_cons_zero, List.getElem?_cons_succ, List.set_cons_zero, List.set_cons_succ, Option.map_some, Option.bind_some, decide_eq_true_eq, if_true, if_false, Bool.false_eq_true, asO_some, asO_no, noneX_t, noneX_i, noneX_v, noneX_n, kAug_add, kAug_sub, Isa, MkT, comp_eq, for_eq, lst_eq_nil, BEq.rfl, Nw, fStar_tup, fStar2_eq, OptE, IcE, RuleE, PlaceE, reduceCtorEq, decide_false, Bool.not_true]
      rw [loop_flat (F := iconD) (G := fun i => if (decide (i.p = some q) && !decide (i.n = n)) = true then [iconD i] else []) fun i _ => by
        rw [one1_bind (env1 := [some (ruleD r), some (staD s), some (.str n), some (placeD q), some (sizeD s.R s.C), some (iconsD s.is), some (.lst (iconD own :: lo.map iconD)), some (iconD i), none, none]) rfl]
        by_cases h : i.p = some q
        · by_cases h2 : i.n = n
          · simp [List.map_cons, List.map_nil, List.length_cons, List.length_nil, Nat.reduceAdd, Nat.reduceSub, Nat.reduceLT, List.replicate, List.cons_append, List.nil_append, Go, Ev1, Ev2, Ev3, Ex1, Ex2, Q.Pl, Val1, set_name, kSet_name, kSet_tup, stTs_name, stTs_nil, setAll_cons, evl_cons, Sx, List.getElem?_cons_zero, List.getElem?_cons_succ, List.set_cons_zero, List.set_cons_succ, Option.map_some, Option.bind_some, decide_eq_true_eq, if_true, if_false, Bool.false_eq_true, asO_some, asO_no, noneX_t, noneX_i, noneX_v, noneX_n, kAug_add, kAug_sub, Isa, MkT, comp_eq, for_eq, lst_eq_nil, BEq.rfl, Nw, fStar_tup, fStar2_eq, OptE, IcE, RuleE, PlaceE, kBl_bl, h, h2]
          · simp [List.map_cons, List.map_nil, List.length_cons, List.length_nil, Nat.reduceAdd, Nat.reduceSub, Nat.reduceLT, List.replicate, List.cons_append, List.nil_append, Go, Ev1, Ev2, Ev3, Ex1, Ex2, Q.Pl, Val1, set_name, kSet_name, kSet_tup, stTs_name, stTs_nil, setAll_cons, evl_cons, Sx, List.getElem?_cons_zero, List.getElem?_cons_succ, List.set_cons_zero, List.set_cons_succ, Option.map_some, Option.bind_some, decide_eq_true_eq, if_true, if_false, Bool.false_eq_true, asO_some, asO_no, noneX_t, noneX_i, noneX_v, noneX_n, kAug_add, kAug_sub, Isa, MkT, comp_eq, for_eq, lst_eq_nil, BEq.rfl, Nw, fStar_tup, fStar2_eq, OptE, IcE, RuleE, PlaceE, kBl_bl, h, h2]
        · simp [List.map_cons, List.map_nil, List.length_cons, List.length_nil, Nat.reduceAdd, Nat.reduceSub, Nat.reduceLT, List.replicate, List.cons_append, List.nil_append, Go, Ev1, Ev2, Ev3, Ex1, Ex2, Q.Pl, Val1, set_name, kSet_name, kSet_tup, stTs_name, stTs_nil, setAll_cons, evl_cons, Sx, List.getElem?_cons_zero, List.getElem?_cons_succ, List.set_cons_zero, List.set_cons_succ, Option.map_some, Option.bind_some, decide_eq_true_eq, if_true, if_false, Bool.false_eq_true, asO_some, asO_no, noneX_t, noneX_i, noneX_v, noneX_n, kAug_add, kAug_sub, Isa, MkT, comp_eq, for_eq, lst_eq_nil, BEq.rfl, Nw, fStar_tup, fStar2_eq, OptE, IcE, RuleE, PlaceE, kBl_bl, h]]
      rw [flat_if (f := iconD) (c := fun i : Ic => decide (i.p = some q) && !decide (i.n = n)), show (s.is.filter fun i : Ic => decide (i.p = some q) && !decide (i.n = n)) = thereV n q s.is from rfl]
      have l2 : (thereV n q s.is).length ≤ s.is.length := List.length_filter_le _ _
      rw [endC_ok (size_le (by rw [List.length_map]; omega))]
      simp only [List.map_cons, List.map_nil, List.length_cons, List.length_nil, Nat.reduceAdd, Nat.reduceSub, Nat.reduceLT, List.replicate, List.cons_append, List.nil_append, Go, Ev1, Ev2, Ev3, Ex1, Ex2, Q.Pl, Val1, set_name, kSet_name, kSet_tup, stTs_name, stTs_nil, setAll_cons, evl_cons, Sx, List.getElem?_cons_zero, List.getElem?_cons_succ, List.set_cons_zero, List.set_cons_succ, Option.map_some, Option.bind_some, decide_eq_true_eq, if_true, if_false, Bool.false_eq_true, asO_some, asO_no, noneX_t, noneX_i, noneX_v, noneX_n, kAug_add, kAug_sub, Isa, MkT, comp_eq, for_eq, lst_eq_nil, BEq.rfl, Nw, fStar_tup, fStar2_eq, OptE, IcE, RuleE, PlaceE, mkL_nil, ics_nil]
      have wp1 : ∀ p : Option Pl, ∀ st : Store, callN cst turns tab (k + 3) "with_places" [iconsD s.is, .loc st.length] (st ++ [.dct [(.inr n, optD p)]]) = some (iconsD (withV (one1V n p) s.is), st ++ [.dct [(.inr n, optD p)]]) := fun p st => with_places (k := k + 2) t_wp get_last (fun x => get1) hl
      cases et : thereV n q s.is with
      | nil =>
        simp only [List.map_cons, List.map_nil, List.length_cons, List.length_nil, Nat.reduceAdd, Nat.reduceSub, Nat.reduceLT, List.replicate, List.cons_append, List.nil_append, Go, Ev1, Ev2, Ev3, Ex1, Ex2, Q.Pl, Val1, set_name, kSet_name, kSet_tup, stTs_name, stTs_nil, setAll_cons, evl_cons, Sx, List.getElem?_cons_zero, List.getElem?_cons_succ, List.set_cons_zero, List.set_cons_succ, Option.map_some, Option.bind_some, decide_eq_true_eq, if_true, if_false, Bool.false_eq_true, asO_some, asO_no, noneX_t, noneX_i, noneX_v, noneX_n, kAug_add, kAug_sub, Isa, MkT, comp_eq, for_eq, lst_eq_nil, BEq.rfl, Nw, fStar_tup, fStar2_eq, OptE, IcE, RuleE, PlaceE, decide_true, dct1]
        rw [show callN cst turns tab (k + 3) "with_places" [iconsD s.is, .loc st.length] (st ++ [.dct [(.inr n, placeD q)]]) = _ from wp1 (some q) st]
        simp only [List.map_cons, List.map_nil, List.length_cons, List.length_nil, Nat.reduceAdd, Nat.reduceSub, Nat.reduceLT, List.replicate, List.cons_append, List.nil_append, Go, Ev1, Ev2, Ev3, Ex1, Ex2, Q.Pl, Val1, set_name, kSet_name, kSet_tup, stTs_name, stTs_nil, setAll_cons, evl_cons, Sx, List.getElem?_cons_zero, List.getElem?_cons_succ, List.set_cons_zero, List.set_cons_succ, Option.map_some, Option.bind_some, decide_eq_true_eq, if_true, if_false, Bool.false_eq_true, asO_some, asO_no, noneX_t, noneX_i, noneX_v, noneX_n, kAug_add, kAug_sub, Isa, MkT, comp_eq, for_eq, lst_eq_nil, BEq.rfl, Nw, fStar_tup, fStar2_eq, OptE, IcE, RuleE, PlaceE, filled (k := k) t_fl t_ff t_cell t_tk hR hC hT (show (withV (one1V n (some q)) s.is).length ≤ 1000 by rw [with_len]; exact hl), List.append_assoc]
        exact ⟨_, rfl⟩
      | cons t lt =>
        obtain ⟨ht1, ht2, ht3⟩ := there_mem et
        simp only [List.map_cons, List.map_nil, List.length_cons, List.length_nil, Nat.reduceAdd, Nat.reduceSub, Nat.reduceLT, List.replicate, List.cons_append, List.nil_append, Go, Ev1, Ev2, Ev3, Ex1, Ex2, Q.Pl, Val1, set_name, kSet_name, kSet_tup, stTs_name, stTs_nil, setAll_cons, evl_cons, Sx, List.getElem?_cons_zero, List.getElem?_cons_succ, List.set_cons_zero, List.set_cons_succ, Option.map_some, Option.bind_some, decide_eq_true_eq, if_true, if_false, Bool.false_eq_true, asO_some, asO_no, noneX_t, noneX_i, noneX_v, noneX_n, kAug_add, kAug_sub, Isa, MkT, comp_eq, for_eq, lst_eq_nil, BEq.rfl, Nw, fStar_tup, fStar2_eq, OptE, IcE, RuleE, PlaceE, reduceCtorEq, decide_false]
        by_cases em : r.m = 2
        · have sw : (memS r.m == ("swap" : Str)) = true := by rw [em]; decide +kernel
          have wp2 : callN cst turns tab (k + 3) "with_places" [iconsD s.is, .loc st.length] (st ++ [.dct [(.inr n, placeD q), (.inr t.n, optD own.p)]]) = some (iconsD (withV (two2V n (some q) t.n own.p) s.is), st ++ [.dct [(.inr n, placeD q), (.inr t.n, optD own.p)]]) := with_places (k := k + 2) t_wp get_last (fun x => get2 (p := some q)) hl
          simp only [List.map_cons, List.map_nil, List.length_cons, List.length_nil, Nat.reduceAdd, Nat.reduceSub, Nat.reduceLT, List.replicate, List.cons_append, List.nil_append, Go, Ev1, Ev2, Ev3, Ex1, Ex2, Q.Pl, Val1, set_name, kSet_name, kSet_tup, stTs_name, stTs_nil, setAll_cons, evl_cons, Sx, List.getElem?_cons_zero, List.getElem?_cons_succ, List.set_cons_zero, List.set_cons_succ, Option.map_some, Option.bind_some, decide_eq_true_eq, if_true, if_false, Bool.false_eq_true, asO_some, asO_no, noneX_t, noneX_i, noneX_v, noneX_n, kAug_add, kAug_sub, Isa, MkT, comp_eq, for_eq, lst_eq_nil, BEq.rfl, Nw, fStar_tup, fStar2_eq, OptE, IcE, RuleE, PlaceE, sw, dct2 ht3, wp2, if_pos em]
          exact ⟨_, rfl⟩
        · simp only [List.map_cons, List.map_nil, List.length_cons, List.length_nil, Nat.reduceAdd, Nat.reduceSub, Nat.reduceLT, List.replicate, List.cons_append, List.nil_append, Go, Ev1, Ev2, Ev3, Ex1, Ex2, Q.Pl, Val1, set_name, kSet_name, kSet_tup, stTs_name, stTs_nil, setAll_cons, evl_cons, Sx, List.getElem?_cons_zero, List.getElem?_cons_succ, List.set_cons_zero, List.set_cons_succ, Option.map_some, Option.bind_some, decide_eq_true_eq, if_true, if_false, Bool.false_eq_true, asO_some, asO_no, noneX_t, noneX_i, noneX_v, noneX_n, kAug_add, kAug_sub, Isa, MkT, comp_eq, for_eq, lst_eq_nil, BEq.rfl, Nw, fStar_tup, fStar2_eq, OptE, IcE, RuleE, PlaceE, swapN hm em, if_neg em]
          by_cases ez : r.m = 0
          · have nx : (memS r.m == ("next" : Str)) = true := by rw [ez]; decide +kernel
            have qon : OnD s.R s.C q := onV_iff.mp hon
            have bR := big_of hR.1 hR.2
            have bC := big_of hC.1 hC.2
            have nr := num_rng (r := r) hR.1 hC.1 qon.1 qon.2
            have l3 : (takenV s.is).length ≤ s.is.length := List.length_filterMap_le _ _
            have q1 := qon.1
            have q2 := qon.2
            have hR2 := hR.2
            have hC2 := hC.2
            have ixo : ∀ st, callN cst turns tab (k + 3) "index_of" [ruleD r, sizeD s.R s.C, placeD q] st = some (.int (numV r s.R s.C q), st) := fun st => index_of (k := k + 2) t_ix bR bC (big_in (by omega) (by omega)) (big_in (by omega) (by omega))
            simp only [List.map_cons, List.map_nil, List.length_cons, List.length_nil, Nat.reduceAdd, Nat.reduceSub, Nat.reduceLT, List.replicate, List.cons_append, List.nil_append, Go, Ev1, Ev2, Ev3, Ex1, Ex2, Q.Pl, Val1, set_name, kSet_name, kSet_tup, stTs_name, stTs_nil, setAll_cons, evl_cons, Sx, List.getElem?_cons_zero, List.getElem?_cons_succ, List.set_cons_zero, List.set_cons_succ, Option.map_some, Option.bind_some, decide_eq_true_eq, if_true, if_false, Bool.false_eq_true, asO_some, asO_no, noneX_t, noneX_i, noneX_v, noneX_n, kAug_add, kAug_sub, Isa, MkT, comp_eq, for_eq, lst_eq_nil, BEq.rfl, Nw, fStar_tup, fStar2_eq, OptE, IcE, RuleE, PlaceE, nx, taken_ok (k := k + 2) t_tk hl, ixo, first_free (k := k + 1) t_ff t_cell hR hC (show 0 ≤ numV r s.R s.C q + 1 by omega) (show (takenV s.is).length + 2 ≤ turns by omega), if_pos ez]
            cases ef : freeV r s.R s.C (takenV s.is) (numV r s.R s.C q + 1) with
            | none =>
              simp only [List.map_cons, List.map_nil, List.length_cons, List.length_nil, Nat.reduceAdd, Nat.reduceSub, Nat.reduceLT, List.replicate, List.cons_append, List.nil_append, Go, Ev1, Ev2, Ev3, Ex1, Ex2, Q.Pl, Val1, set_name, kSet_name, kSet_tup, stTs_name, stTs_nil, setAll_cons, evl_cons, Sx, List.getElem?_cons_zero, List.getElem?_cons_succ, List.set_cons_zero, List.set_cons_succ, Option.map_some, Option.bind_some, decide_eq_true_eq, if_true, if_false, Bool.false_eq_true, asO_some, asO_no, noneX_t, noneX_i, noneX_v, noneX_n, kAug_add, kAug_sub, Isa, MkT, comp_eq, for_eq, lst_eq_nil, BEq.rfl, Nw, fStar_tup, fStar2_eq, OptE, IcE, RuleE, PlaceE, Option.isSome_none, Bool.not_false]
              exact ⟨[], by rw [List.append_nil]; rfl⟩
            | some f =>
              simp only [List.map_cons, List.map_nil, List.length_cons, List.length_nil, Nat.reduceAdd, Nat.reduceSub, Nat.reduceLT, List.replicate, List.cons_append, List.nil_append, Go, Ev1, Ev2, Ev3, Ex1, Ex2, Q.Pl, Val1, set_name, kSet_name, kSet_tup, stTs_name, stTs_nil, setAll_cons, evl_cons, Sx, List.getElem?_cons_zero, List.getElem?_cons_succ, List.set_cons_zero, List.set_cons_succ, Option.map_some, Option.bind_some, decide_eq_true_eq, if_true, if_false, Bool.false_eq_true, asO_some, asO_no, noneX_t, noneX_i, noneX_v, noneX_n, kAug_add, kAug_sub, Isa, MkT, comp_eq, for_eq, lst_eq_nil, BEq.rfl, Nw, fStar_tup, fStar2_eq, OptE, IcE, RuleE, PlaceE, Option.isSome_some, Bool.not_true, dct1, wp1 (some f) st]
              simp only [List.map_cons, List.map_nil, List.length_cons, List.length_nil, Nat.reduceAdd, Nat.reduceSub, Nat.reduceLT, List.replicate, List.cons_append, List.nil_append, Go, Ev1, Ev2, Ev3, Ex1, Ex2, Q.Pl, Val1, set_name, kSet_name, kSet_tup, stTs_name, stTs_nil, setAll_cons, evl_cons, Sx, List.getElem?_cons_zero, List.getElem?_cons_succ, List.set_cons_zero, List.set_cons_succ, Option.map_some, Option.bind_some, decide_eq_true_eq, if_true, if_false, Bool.false_eq_true, asO_some, asO_no, noneX_t, noneX_i, noneX_v, noneX_n, kAug_add, kAug_sub, Isa, MkT, comp_eq, for_eq, lst_eq_nil, BEq.rfl, Nw, fStar_tup, fStar2_eq, OptE, IcE, RuleE, PlaceE, filled (k := k) t_fl t_ff t_cell t_tk hR hC hT (show (withV (one1V n (some f)) s.is).length ≤ 1000 by rw [with_len]; exact hl), List.append_assoc]
              exact ⟨_, rfl⟩
          · have nx : (memS r.m == ("next" : Str)) = false := by rw [mem_next]; exact decide_eq_false ez
            simp only [List.map_cons, List.map_nil, List.length_cons, List.length_nil, Nat.reduceAdd, Nat.reduceSub, Nat.reduceLT, List.replicate, List.cons_append, List.nil_append, Go, Ev1, Ev2, Ev3, Ex1, Ex2, Q.Pl, Val1, set_name, kSet_name, kSet_tup, stTs_name, stTs_nil, setAll_cons, evl_cons, Sx, List.getElem?_cons_zero, List.getElem?_cons_succ, List.set_cons_zero, List.set_cons_succ, Option.map_some, Option.bind_some, decide_eq_true_eq, if_true, if_false, Bool.false_eq_true, asO_some, asO_no, noneX_t, noneX_i, noneX_v, noneX_n, kAug_add, kAug_sub, Isa, MkT, comp_eq, for_eq, lst_eq_nil, BEq.rfl, Nw, fStar_tup, fStar2_eq, OptE, IcE, RuleE, PlaceE, nx, if_neg ez]
            exact ⟨[], by rw [List.append_nil]⟩
end
end QL

/-! QRun5: sorted_by_name, after, last_state, laid. -/
namespace QL
open PySem PySem.Spec L2 Q
def srtD (r : Rule) (R C : Int) : Nat → List Str → List (Key × D)
  | _, [] => []
  | k, x :: xs => (.inr x, optD (placeV r R C k)) :: srtD r R C (k + 1) xs
theorem srt_get {r : Rule} {R C : Int} {x : Str} : ∀ {ns : List Str} {k : Nat}, dget (srtD r R C k ns) (.inr x) = ((ixS x ns k).map (placeV r R C)).map optD
  | [], _ => rfl
  | y :: ys, k => by
    show dget ((.inr y, optD (placeV r R C k)) :: srtD r R C (k + 1) ys) (.inr x) = _
    have ih := srt_get (r := r) (R := R) (C := C) (x := x) (ns := ys) (k := k + 1)
    unfold dget at ih ⊢
    rw [ixS]
    by_cases h : y = x
    · subst h; rw [if_pos rfl, List.find?_cons_of_pos (by simp)]; rfl
    · have : ¬ (Sum.inr y : Key) = .inr x := fun z => h (Sum.inr.inj z)
      rw [if_neg h, List.find?_cons_of_neg (by simpa using this), ih]
theorem dput_new {kvs : List (Key × D)} {k : Key} {v : D} (h : ∀ kv ∈ kvs, kv.1 ≠ k) : dput kvs k v = kvs ++ [(k, v)] := by
  unfold dput
  have : (kvs.any fun kv => decide (kv.1 = k)) = false := by
    rw [List.any_eq_false]
    intro kv hkv
    simpa using h kv hkv
  rw [this]; rfl
theorem strs_of : ∀ {xs : List Str}, strsOf (xs.map .str) = some xs
  | [] => rfl
  | x :: xs => by
    show (strsOf (xs.map .str)).map _ = _
    rw [strs_of]; rfl
theorem sortS_len {xs : List Str} : (sortS xs).length = xs.length := (sortS_perm xs).length_eq
theorem sorted_d {xs : List Str} {st : Store} (h : xs.length < 64) : biD .sorted false [.lst (xs.map .str)] st = some (.lst ((sortS xs).map .str), st) := by
  show ((strsOf (xs.map .str)).bind fun ss => if ss.length < 64 then mkL false ((sortS ss).map D.str) st else none) = _
  rw [strs_of, Option.bind_some, if_pos h]
  exact mkL_f (size_le (by rw [List.length_map, sortS_len]; omega))
theorem enum_lst {xs : List Str} {st : Store} : kEnum (.lst (xs.map .str)) st = some (none, enumD 0 (xs.map .str), st) := rfl
section
variable {cst : Str → Option D} {turns : Nat} {tab : Str → Option Def} {k : Nat} {st : Store}
abbrev sbB : List S := fBodyOf (d_sorted_by_name.body.getD 2 .pass)
abbrev sbT : Tt := fTgtOf (d_sorted_by_name.body.getD 2 .pass)
theorem sb_loop (t_cell : tab "cell_at" = some d_cell_at) {r : Rule} {R C : Int} (hR : Big R) (hC : Big C) {z x3 x8 : Option D} : ∀ {ns : List Str} {j : Nat} {acc : List (Key × D)}, ns.Nodup → (∀ kv ∈ acc, ∀ x ∈ ns, kv.1 ≠ .inr x) → acc.length + ns.length ≤ 1000 → ∀ {x6 x7 : Option D},
    ∃ env', forLoop none (bindT sbT) (exL (cx cst turns tab (k + 1)) sbB) (enumD j (ns.map .str)) [some (ruleD r), z, some (sizeD R C), x3, some (.loc st.length), some (.int (R * C)), x6, x7, x8] (st ++ [.dct acc])
      = some (.next, env', st ++ [.dct (acc ++ srtD r R C j ns)]) ∧ env'[2]? = some (some (sizeD R C)) ∧ env'[3]? = some x3 ∧ env'[4]? = some (some (.loc st.length))
  | [], j, acc, _, _, _, x6, x7 => ⟨_, by rw [show srtD r R C j [] = [] from rfl, List.append_nil]; rfl, rfl, rfl, rfl⟩
  | n :: ns, j, acc, nd, ha, hl, x6, x7 => by
    rw [List.nodup_cons] at nd
    have bR := big_of hR.1 hR.2
    have bC := big_of hC.1 hC.2
    have hs : (st ++ [SO.dct acc])[st.length]? = some (.dct acc) := get_last
    rw [List.length_cons] at hl
    have pk : putK (.loc st.length) (.str n) (optD (placeV r R C j)) (st ++ [SO.dct acc]) = some (st ++ [SO.dct (acc ++ [(.inr n, optD (placeV r R C j))])]) := by
      show (match (st ++ [SO.dct acc])[st.length]? with
        | some (.dct kvs) => (keyOf (.str n)).bind fun k => if kvs.length < sizeLine then some ((st ++ [SO.dct acc]).set st.length (.dct (dput kvs k (optD (placeV r R C j))))) else none
        | _ => none) = _
      rw [hs]
      show (if acc.length < sizeLine then some ((st ++ [SO.dct acc]).set st.length (.dct (dput acc (.inr n) (optD (placeV r R C j))))) else none) = _
      rw [if_pos (Nat.lt_of_lt_of_le (show acc.length < 1001 by omega) (by decide)), set_last, dput_new fun kv hkv => ha kv hkv n List.mem_cons_self]
    have run : exL (cx cst turns tab (k + 1)) sbB [some (ruleD r), z, some (sizeD R C), x3, some (.loc st.length), some (.int (R * C)), some (.int ((j : Nat) : Int)), some (.str n), x8] (st ++ [.dct acc]) = some (.next, [some (ruleD r), z, some (sizeD R C), x3, some (.loc st.length), some (.int (R * C)), some (.int ((j : Nat) : Int)), some (.str n), x8], st ++ [.dct (acc ++ [(.inr n, optD (placeV r R C j))])]) := by
      by_cases h : ((j : Nat) : Int) < R * C
      · have e : optD (placeV r R C j) = placeD (spotV r R C j) := by unfold placeV; rw [if_pos h]; rfl
        rw [e] at pk ⊢
        simp only [sbB, fBodyOf, d_sorted_by_name, List.getD_cons_succ, List.getD_cons_zero, List.map_cons, List.map_nil, List.length_cons, List.length_nil, Nat.reduceAdd, Nat.reduceSub, Nat.reduceLT, List.replicate, List.cons_append, List.nil_append, Go, Ev1, Ev2, Ev3, Ex1, Ex2, Q.Pl, Val1, set_name, kSet_name, kSet_tup, stTs_name, stTs_nil, setAll_cons, evl_cons, Sx, List.getElem?_cons_zero, List.getElem?_cons_succ, List.set_cons_zero, List.set_cons_succ, Option.map_some, Option.bind_some, decide_eq_true_eq, if_true, if_false, Bool.false_eq_true, asO_some, asO_no, noneX_t, noneX_i, noneX_v, noneX_n, kAug_add, kAug_sub, Isa, MkT, comp_eq, for_eq, lst_eq_nil, BEq.rfl, Nw, fStar_tup, fStar2_eq, OptE, IcE, RuleE, PlaceE, h, decide_true, cell_at (k := k) t_cell bR bC, ex_putK, Ex2, pk]
      · have e : optD (placeV r R C j) = .non := by unfold placeV; rw [if_neg h]; rfl
        rw [e] at pk ⊢
        simp only [sbB, fBodyOf, d_sorted_by_name, List.getD_cons_succ, List.getD_cons_zero, List.map_cons, List.map_nil, List.length_cons, List.length_nil, Nat.reduceAdd, Nat.reduceSub, Nat.reduceLT, List.replicate, List.cons_append, List.nil_append, Go, Ev1, Ev2, Ev3, Ex1, Ex2, Q.Pl, Val1, set_name, kSet_name, kSet_tup, stTs_name, stTs_nil, setAll_cons, evl_cons, Sx, List.getElem?_cons_zero, List.getElem?_cons_succ, List.set_cons_zero, List.set_cons_succ, Option.map_some, Option.bind_some, decide_eq_true_eq, if_true, if_false, Bool.false_eq_true, asO_some, asO_no, noneX_t, noneX_i, noneX_v, noneX_n, kAug_add, kAug_sub, Isa, MkT, comp_eq, for_eq, lst_eq_nil, BEq.rfl, Nw, fStar_tup, fStar2_eq, OptE, IcE, RuleE, PlaceE, h, decide_false, ex_putK, Ex2, pk]
    have b1 : bindT sbT (.tup [.int ((j : Nat) : Int), .str n]) [some (ruleD r), z, some (sizeD R C), x3, some (.loc st.length), some (.int (R * C)), x6, x7, x8] = some [some (ruleD r), z, some (sizeD R C), x3, some (.loc st.length), some (.int (R * C)), some (.int ((j : Nat) : Int)), some (.str n), x8] := rfl
    obtain ⟨env', g, g2⟩ := sb_loop t_cell (r := r) hR hC (z := z) (x3 := x3) (x8 := x8) (ns := ns) (j := j + 1) (acc := acc ++ [(.inr n, optD (placeV r R C j))]) nd.2 (fun kv hkv x hx => by
      rcases List.mem_append.mp hkv with h | h
      · exact ha kv h x (List.mem_cons_of_mem _ hx)
      · rcases List.mem_singleton.mp h with rfl
        intro e
        cases e
        exact nd.1 hx) (by rw [List.length_append]; simp; omega) (x6 := some (.int ((j : Nat) : Int))) (x7 := some (.str n))
    refine ⟨env', ?_, g2⟩
    show forLoop none _ _ (.tup [.int ((j : Nat) : Int), .str n] :: enumD (j + 1) (ns.map .str)) _ _ = _
    rw [for_next b1 run, g, show srtD r R C j (n :: ns) = (.inr n, optD (placeV r R C j)) :: srtD r R C (j + 1) ns from rfl, List.append_assoc]; rfl
theorem dct0 {st : Store} : kDct [] st = some (.loc st.length, st ++ [.dct []]) := rfl
theorem evl_nil {C : Q.Ctx} {env : Q.Env} {st : Store} : evL C [] env st = some ([], st) := by simp only [evL]
theorem sorted_by_name (ht : tab "sorted_by_name" = some d_sorted_by_name) (t_wp : tab "with_places" = some d_with_places) (t_cell : tab "cell_at" = some d_cell_at) {r : Rule} {s : Sta} (hR : Big s.R) (hC : Big s.C) (hl : s.is.length < 64) (nd : (namesV s.is).Nodup) :
    ∃ ex, callN cst turns tab (k + 2) "sorted_by_name" [ruleD r, staD s] st = some (staD (sortedV r s), st ++ ex) := by
  have bR := big_of hR.1 hR.2
  have bC := big_of hC.1 hC.2
  have hmul : ∀ st, binD .Mult (.int s.R) (.int s.C) st = some (.int (s.R * s.C), st) := fun st => mult_ok (lt900 (Int.le_of_lt bR.1) bR.2) (lt900 (Int.le_of_lt bC.1) bC.2)
  have ln : (namesV s.is).length = s.is.length := by unfold namesV; rw [List.length_map]
  obtain ⟨env', g, g2, g3, g4⟩ := sb_loop (cst := cst) (turns := turns) (k := k) (st := st) t_cell (r := r) hR hC (z := some (staD s)) (x3 := some (iconsD s.is)) (x8 := none) (ns := sortS (namesV s.is)) (j := 0) (acc := []) ((sortS_perm _).nodup_iff.mpr nd) (fun kv hkv => absurd hkv (by simp)) (by simp only [List.length_nil]; rw [sortS_len]; omega) (x6 := none) (x7 := none)
  rw [call_eq (k := k + 1) ht rfl]
  simp only [sbB, sbT, fBodyOf, fTgtOf, d_sorted_by_name, List.getD_cons_succ, List.getD_cons_zero, List.nil_append] at g
  simp only [d_sorted_by_name, List.map_cons, List.map_nil, List.length_cons, List.length_nil, Nat.reduceAdd, Nat.reduceSub, Nat.reduceLT, List.replicate, List.cons_append, List.nil_append, Go, Ev1, Ev2, Ev3, Ex1, Ex2, Q.Pl, Val1, set_name, kSet_name, kSet_tup, stTs_name, stTs_nil, setAll_cons, evl_cons, Sx, List.getElem?_cons_zero, List.getElem?_cons_succ, List.set_cons_zero, List.set_cons_succ, Option.map_some, Option.bind_some, decide_eq_true_eq, if_true, if_false, Bool.false_eq_true, asO_some, asO_no, noneX_t, noneX_i, noneX_v, noneX_n, kAug_add, kAug_sub, Isa, MkT, comp_eq, for_eq, lst_eq_nil, BEq.rfl, Nw, fStar_tup, fStar2_eq, OptE, IcE, RuleE, PlaceE, kSet_sta, evl_nil, dct0, hmul]
  rw [loop_flat (F := iconD) (G := fun i => [D.str i.n]) fun i _ => by
    rw [one1_bind (env1 := [some (ruleD r), some (staD s), some (sizeD s.R s.C), some (iconsD s.is), some (.loc st.length), some (.int (s.R * s.C)), none, none, some (iconD i)]) rfl]
    simp only [List.map_cons, List.map_nil, List.length_cons, List.length_nil, Nat.reduceAdd, Nat.reduceSub, Nat.reduceLT, List.replicate, List.cons_append, List.nil_append, Go, Ev1, Ev2, Ev3, Ex1, Ex2, Q.Pl, Val1, set_name, kSet_name, kSet_tup, stTs_name, stTs_nil, setAll_cons, evl_cons, Sx, List.getElem?_cons_zero, List.getElem?_cons_succ, List.set_cons_zero, List.set_cons_succ, Option.map_some, Option.bind_some, decide_eq_true_eq, if_true, if_false, Bool.false_eq_true, asO_some, asO_no, noneX_t, noneX_i, noneX_v, noneX_n, kAug_add, kAug_sub, Isa, MkT, comp_eq, for_eq, lst_eq_nil, BEq.rfl, Nw, fStar_tup, fStar2_eq, OptE, IcE, RuleE, PlaceE, kBl_bl]]
  rw [flat_one (f := fun i : Ic => D.str i.n), names_of, endC_ok (size_le (by rw [List.length_map]; omega))]
  simp only [List.map_cons, List.map_nil, List.length_cons, List.length_nil, Nat.reduceAdd, Nat.reduceSub, Nat.reduceLT, List.replicate, List.cons_append, List.nil_append, Go, Ev1, Ev2, Ev3, Ex1, Ex2, Q.Pl, Val1, set_name, kSet_name, kSet_tup, stTs_name, stTs_nil, setAll_cons, evl_cons, Sx, List.getElem?_cons_zero, List.getElem?_cons_succ, List.set_cons_zero, List.set_cons_succ, Option.map_some, Option.bind_some, decide_eq_true_eq, if_true, if_false, Bool.false_eq_true, asO_some, asO_no, noneX_t, noneX_i, noneX_v, noneX_n, kAug_add, kAug_sub, Isa, MkT, comp_eq, for_eq, lst_eq_nil, BEq.rfl, Nw, fStar_tup, fStar2_eq, OptE, IcE, RuleE, PlaceE, sorted_d (show (namesV s.is).length < 64 by omega), enum_lst, g, g2, g3, g4]
  have wp := with_places (cst := cst) (turns := turns) (k := k) (st := st ++ [.dct (srtD r s.R s.C 0 (sortS (namesV s.is)))]) t_wp get_last (f := sortF r s.R s.C (sortS (namesV s.is))) (fun x => srt_get) (is := s.is) (by omega)
  simp only [List.map_cons, List.map_nil, List.length_cons, List.length_nil, Nat.reduceAdd, Nat.reduceSub, Nat.reduceLT, List.replicate, List.cons_append, List.nil_append, Go, Ev1, Ev2, Ev3, Ex1, Ex2, Q.Pl, Val1, set_name, kSet_name, kSet_tup, stTs_name, stTs_nil, setAll_cons, evl_cons, Sx, List.getElem?_cons_zero, List.getElem?_cons_succ, List.set_cons_zero, List.set_cons_succ, Option.map_some, Option.bind_some, decide_eq_true_eq, if_true, if_false, Bool.false_eq_true, asO_some, asO_no, noneX_t, noneX_i, noneX_v, noneX_n, kAug_add, kAug_sub, Isa, MkT, comp_eq, for_eq, lst_eq_nil, BEq.rfl, Nw, fStar_tup, fStar2_eq, OptE, IcE, RuleE, PlaceE, wp]
  exact ⟨_, rfl⟩
end
end QL

/-! QRun6: after, last_state, shown, laid. -/
namespace QL
open PySem PySem.Spec L2 Q
/-- the functions of laying.py stand in the table -/
structure LayTab (tab : Str → Option Def) : Prop where
  ix : tab "index_of" = some d_index_of
  cell : tab "cell_at" = some d_cell_at
  on : tab "is_on" = some d_is_on
  ff : tab "first_free" = some d_first_free
  tk : tab "taken" = some d_taken
  cb : tab "called_back" = some d_called_back
  fl : tab "filled" = some d_filled
  rs : tab "resized" = some d_resized
  ad : tab "added" = some d_added
  dr : tab "dropped" = some d_dropped
  wp : tab "with_places" = some d_with_places
  put : tab "put" = some d_put
  sb : tab "sorted_by_name" = some d_sorted_by_name
  af : tab "after" = some d_after
  ls : tab "last_state" = some d_last_state
  sh : tab "shown" = some d_shown
  laid : tab "laid" = some d_laid
/-- bounds of a state -/
structure Bd (s : Sta) : Prop where
  R : Big s.R
  C : Big s.C
  nd : (namesV s.is).Nodup
  len : s.is.length < 64
/-- bounds along a row -/
def BdAll (r : Rule) : Sta → List Deed → Prop
  | s, [] => Bd s
  | s, d :: ds => Bd s ∧ BdAll r (afterV r s d) ds
theorem BdAll.head {r : Rule} {s : Sta} {ds : List Deed} (h : BdAll r s ds) : Bd s := by
  cases ds with
  | nil => exact h
  | cons d ds => exact h.1
theorem WordE : (("add" : Str) == ("add" : Str)) = true ∧ (("drop" : Str) == ("add" : Str)) = false ∧ (("put" : Str) == ("add" : Str)) = false ∧ (("size" : Str) == ("add" : Str)) = false ∧ (("sort" : Str) == ("add" : Str)) = false ∧
    (("drop" : Str) == ("drop" : Str)) = true ∧ (("put" : Str) == ("drop" : Str)) = false ∧ (("size" : Str) == ("drop" : Str)) = false ∧ (("sort" : Str) == ("drop" : Str)) = false ∧
    (("put" : Str) == ("put" : Str)) = true ∧ (("size" : Str) == ("put" : Str)) = false ∧ (("sort" : Str) == ("put" : Str)) = false ∧ (("size" : Str) == ("size" : Str)) = true ∧ (("sort" : Str) == ("size" : Str)) = false := by
  refine ⟨?_, ?_, ?_, ?_, ?_, ?_, ?_, ?_, ?_, ?_, ?_, ?_, ?_, ?_⟩ <;> decide +kernel
section
variable {cst : Str → Option D} {turns : Nat} {tab : Str → Option Def} {k : Nat} {st : Store}
theorem after (T : LayTab tab) {r : Rule} {s : Sta} {d : Deed} (hm : r.m < 3) (hs : Bd s) (hs2 : Bd (afterV r s d)) (hT : 1002 ≤ turns) :
    ∃ ex, callN cst turns tab (k + 5) "after" [ruleD r, staD s, deedD d] st = some (staD (afterV r s d), st ++ ex) := by
  have hl : s.is.length ≤ 1000 := by have := hs.len; omega
  have hl2 : s.is.length < 1000 := by have := hs.len; omega
  rw [call_eq (k := k + 4) T.af rfl]
  cases d with
  | add n =>
    simp only [d_after, deedD, List.map_cons, List.map_nil, List.length_cons, List.length_nil, Nat.reduceAdd, Nat.reduceSub, Nat.reduceLT, List.replicate, List.cons_append, List.nil_append, Go, Ev1, Ev2, Ev3, Ex1, Ex2, Q.Pl, Val1, set_name, kSet_name, kSet_tup, stTs_name, stTs_nil, setAll_cons, evl_cons, Sx, List.getElem?_cons_zero, List.getElem?_cons_succ, List.set_cons_zero, List.set_cons_succ, Option.map_some, Option.bind_some, decide_eq_true_eq, if_true, if_false, Bool.false_eq_true, asO_some, asO_no, noneX_t, noneX_i, noneX_v, noneX_n, kAug_add, kAug_sub, Isa, MkT, comp_eq, for_eq, lst_eq_nil, BEq.rfl, Nw, fStar_tup, fStar2_eq, OptE, IcE, RuleE, PlaceE, WordE, added (k := k + 1) T.ad T.ff T.cell T.tk hs.R hs.C hT hl2]
    exact ⟨[], by rw [List.append_nil]; rfl⟩
  | drop n =>
    simp only [d_after, deedD, List.map_cons, List.map_nil, List.length_cons, List.length_nil, Nat.reduceAdd, Nat.reduceSub, Nat.reduceLT, List.replicate, List.cons_append, List.nil_append, Go, Ev1, Ev2, Ev3, Ex1, Ex2, Q.Pl, Val1, set_name, kSet_name, kSet_tup, stTs_name, stTs_nil, setAll_cons, evl_cons, Sx, List.getElem?_cons_zero, List.getElem?_cons_succ, List.set_cons_zero, List.set_cons_succ, Option.map_some, Option.bind_some, decide_eq_true_eq, if_true, if_false, Bool.false_eq_true, asO_some, asO_no, noneX_t, noneX_i, noneX_v, noneX_n, kAug_add, kAug_sub, Isa, MkT, comp_eq, for_eq, lst_eq_nil, BEq.rfl, Nw, fStar_tup, fStar2_eq, OptE, IcE, RuleE, PlaceE, WordE, dropped (k := k) T.dr T.fl T.ff T.cell T.tk hs.R hs.C hT hl]
    exact ⟨_, rfl⟩
  | put n a b =>
    obtain ⟨ex, g⟩ := put (cst := cst) (turns := turns) (k := k) (st := st) T.put T.ix T.on T.wp T.fl T.ff T.cell T.tk (r := r) (s := s) (n := n) (q := (a, b)) hm hs.R hs.C hT hl
    have g' : callN cst turns tab (k + 4) "put" [ruleD r, staD s, .str n, .tup [.int a, .int b]] st = some (staD (putV r s n (a, b)), st ++ ex) := g
    simp only [d_after, deedD, List.map_cons, List.map_nil, List.length_cons, List.length_nil, Nat.reduceAdd, Nat.reduceSub, Nat.reduceLT, List.replicate, List.cons_append, List.nil_append, Go, Ev1, Ev2, Ev3, Ex1, Ex2, Q.Pl, Val1, set_name, kSet_name, kSet_tup, stTs_name, stTs_nil, setAll_cons, evl_cons, Sx, List.getElem?_cons_zero, List.getElem?_cons_succ, List.set_cons_zero, List.set_cons_succ, Option.map_some, Option.bind_some, decide_eq_true_eq, if_true, if_false, Bool.false_eq_true, asO_some, asO_no, noneX_t, noneX_i, noneX_v, noneX_n, kAug_add, kAug_sub, Isa, MkT, comp_eq, for_eq, lst_eq_nil, BEq.rfl, Nw, fStar_tup, fStar2_eq, OptE, IcE, RuleE, PlaceE, WordE, g']
    exact ⟨_, rfl⟩
  | sort =>
    obtain ⟨ex, g⟩ := sorted_by_name (cst := cst) (turns := turns) (k := k + 2) (st := st) T.sb T.wp T.cell (r := r) (s := s) hs.R hs.C hs.len hs.nd
    simp only [d_after, deedD, List.map_cons, List.map_nil, List.length_cons, List.length_nil, Nat.reduceAdd, Nat.reduceSub, Nat.reduceLT, List.replicate, List.cons_append, List.nil_append, Go, Ev1, Ev2, Ev3, Ex1, Ex2, Q.Pl, Val1, set_name, kSet_name, kSet_tup, stTs_name, stTs_nil, setAll_cons, evl_cons, Sx, List.getElem?_cons_zero, List.getElem?_cons_succ, List.set_cons_zero, List.set_cons_succ, Option.map_some, Option.bind_some, decide_eq_true_eq, if_true, if_false, Bool.false_eq_true, asO_some, asO_no, noneX_t, noneX_i, noneX_v, noneX_n, kAug_add, kAug_sub, Isa, MkT, comp_eq, for_eq, lst_eq_nil, BEq.rfl, Nw, fStar_tup, fStar2_eq, OptE, IcE, RuleE, PlaceE, WordE, g]
    exact ⟨_, rfl⟩
  | size a b =>
    have g := resized (cst := cst) (turns := turns) (k := k) (st := st) T.rs T.cb T.on T.fl T.ff T.cell T.tk (r := r) (s := s) (a := a) (b := b) hs2.R hs2.C hT hl
    have g' : callN cst turns tab (k + 4) "resized" [ruleD r, staD s, .tup [.int a, .int b]] st = some (staD (resizedV r s a b), st ++ [.lst ((resizedV r s a b).is.map iconD)]) := g
    simp only [d_after, deedD, List.map_cons, List.map_nil, List.length_cons, List.length_nil, Nat.reduceAdd, Nat.reduceSub, Nat.reduceLT, List.replicate, List.cons_append, List.nil_append, Go, Ev1, Ev2, Ev3, Ex1, Ex2, Q.Pl, Val1, set_name, kSet_name, kSet_tup, stTs_name, stTs_nil, setAll_cons, evl_cons, Sx, List.getElem?_cons_zero, List.getElem?_cons_succ, List.set_cons_zero, List.set_cons_succ, Option.map_some, Option.bind_some, decide_eq_true_eq, if_true, if_false, Bool.false_eq_true, asO_some, asO_no, noneX_t, noneX_i, noneX_v, noneX_n, kAug_add, kAug_sub, Isa, MkT, comp_eq, for_eq, lst_eq_nil, BEq.rfl, Nw, fStar_tup, fStar2_eq, OptE, IcE, RuleE, PlaceE, WordE, g']
    exact ⟨_, rfl⟩
abbrev lsB : List S := fBodyOf (d_last_state.body.getD 1 .pass)
theorem ls_loop (T : LayTab tab) {r : Rule} (hm : r.m < 3) (hT : 1002 ≤ turns) {x1 x2 : Option D} : ∀ {ds : List Deed} {s : Sta} {x4 : Option D} {st : Store}, BdAll r s ds →
    ∃ x4' ex, forLoop none (bindT (.name 4)) (exL (cx cst turns tab (k + 5)) lsB) (ds.map deedD) [some (ruleD r), x1, x2, some (staD s), x4] st = some (.next, [some (ruleD r), x1, x2, some (staD (lastV r s ds)), x4'], st ++ ex)
  | [], s, x4, st, _ => ⟨x4, [], by rw [List.append_nil]; rfl⟩
  | d :: ds, s, x4, st, h => by
    obtain ⟨ex, g⟩ := after (cst := cst) (turns := turns) (k := k) (st := st) T (r := r) (s := s) (d := d) hm h.1 h.2.head hT
    have run : exL (cx cst turns tab (k + 5)) lsB [some (ruleD r), x1, x2, some (staD s), some (deedD d)] st = some (.next, [some (ruleD r), x1, x2, some (staD (afterV r s d)), some (deedD d)], st ++ ex) := by
      simp only [lsB, fBodyOf, d_last_state, List.getD_cons_succ, List.getD_cons_zero, List.map_cons, List.map_nil, List.length_cons, List.length_nil, Nat.reduceAdd, Nat.reduceSub, Nat.reduceLT, List.replicate, List.cons_append, List.nil_append, Go, Ev1, Ev2, Ev3, Ex1, Ex2, Q.Pl, Val1, set_name, kSet_name, kSet_tup, stTs_name, stTs_nil, setAll_cons, evl_cons, Sx, List.getElem?_cons_zero, List.getElem?_cons_succ, List.set_cons_zero, List.set_cons_succ, Option.map_some, Option.bind_some, decide_eq_true_eq, if_true, if_false, Bool.false_eq_true, asO_some, asO_no, noneX_t, noneX_i, noneX_v, noneX_n, kAug_add, kAug_sub, Isa, MkT, comp_eq, for_eq, lst_eq_nil, BEq.rfl, Nw, fStar_tup, fStar2_eq, OptE, IcE, RuleE, PlaceE, g]
    obtain ⟨x4', ex2, g2⟩ := ls_loop T hm hT (x1 := x1) (x2 := x2) (ds := ds) (s := afterV r s d) (x4 := some (deedD d)) (st := st ++ ex) h.2
    refine ⟨x4', ex ++ ex2, ?_⟩
    rw [List.map_cons, for_next (env1 := [some (ruleD r), x1, x2, some (staD s), some (deedD d)]) rfl run, g2, List.append_assoc]; rfl
theorem src_row {ds : List Deed} {st : Store} : srcOf (rowD ds) st = some (none, ds.map deedD, st) := rfl
theorem mkT0 {st : Store} : mkT [] st = some (.tup [], st) := rfl
theorem last_state (T : LayTab tab) {r : Rule} (hm : r.m < 3) (hT : 1002 ≤ turns) {R C : Int} {ds : List Deed} (hb : BdAll r ⟨R, C, []⟩ ds) :
    ∃ ex, callN cst turns tab (k + 6) "last_state" [ruleD r, sizeD R C, rowD ds] st = some (staD (lastV r ⟨R, C, []⟩ ds), st ++ ex) := by
  obtain ⟨x, ex, g⟩ := ls_loop (cst := cst) (turns := turns) (k := k) (st := st) T hm hT (x1 := some (sizeD R C)) (x2 := some (rowD ds)) (x4 := none) hb
  have e : staD ⟨R, C, []⟩ = .tup [sizeD R C, .tup []] := rfl
  simp only [lsB, fBodyOf, d_last_state, List.getD_cons_succ, List.getD_cons_zero, e] at g
  rw [call_eq (k := k + 5) T.ls rfl]
  simp only [d_last_state, List.map_cons, List.map_nil, List.length_cons, List.length_nil, Nat.reduceAdd, Nat.reduceSub, Nat.reduceLT, List.replicate, List.cons_append, List.nil_append, Go, Ev1, Ev2, Ev3, Ex1, Ex2, Q.Pl, Val1, set_name, kSet_name, kSet_tup, stTs_name, stTs_nil, setAll_cons, evl_cons, Sx, List.getElem?_cons_zero, List.getElem?_cons_succ, List.set_cons_zero, List.set_cons_succ, Option.map_some, Option.bind_some, decide_eq_true_eq, if_true, if_false, Bool.false_eq_true, asO_some, asO_no, noneX_t, noneX_i, noneX_v, noneX_n, kAug_add, kAug_sub, Isa, MkT, comp_eq, for_eq, lst_eq_nil, BEq.rfl, Nw, fStar_tup, fStar2_eq, OptE, IcE, RuleE, PlaceE, evl_nil, mkT0, src_row, g]
  exact ⟨_, rfl⟩
/-! ### shown -/
def insI (x : Ic) : Ics → Ics
  | [] => [x]
  | y :: ys => if leS x.n y.n = true then x :: y :: ys else y :: insI x ys
def sortI : Ics → Ics
  | [] => []
  | x :: xs => insI x (sortI xs)
theorem insI_names (x : Ic) : ∀ ys : Ics, namesV (insI x ys) = insS x.n (namesV ys)
  | [] => rfl
  | y :: ys => by
    show namesV (if leS x.n y.n = true then x :: y :: ys else y :: insI x ys) = if leS x.n y.n = true then x.n :: y.n :: namesV ys else y.n :: insS x.n (namesV ys)
    split
    · rfl
    · rw [← insI_names x ys]; rfl
theorem sortI_names : ∀ xs : Ics, namesV (sortI xs) = sortS (namesV xs)
  | [] => rfl
  | x :: xs => by
    show namesV (insI x (sortI xs)) = insS x.n (sortS (namesV xs))
    rw [insI_names, sortI_names xs]
theorem insI_perm (x : Ic) : ∀ ys : Ics, (insI x ys).Perm (x :: ys)
  | [] => .refl _
  | y :: ys => by
    show (if leS x.n y.n = true then x :: y :: ys else y :: insI x ys).Perm (x :: y :: ys)
    split
    · exact .refl _
    · exact ((insI_perm x ys).cons y).trans (.swap x y ys)
theorem sortI_perm : ∀ xs : Ics, (sortI xs).Perm xs
  | [] => .refl _
  | x :: xs => (insI_perm x (sortI xs)).trans ((sortI_perm xs).cons x)
theorem sortS_sorted : ∀ xs : List Str, (sortS xs).Pairwise fun a b => leS a b = true
  | [] => .nil
  | x :: xs => by
    have ih := sortS_sorted xs
    show (insS x (sortS xs)).Pairwise _
    generalize sortS xs = l at ih
    induction l with
    | nil => exact List.pairwise_singleton _ _
    | cons y ys ih2 =>
      show (if leS x y = true then x :: y :: ys else y :: insS x ys).Pairwise _
      have hp := List.pairwise_cons.mp ih
      split
      · rename_i hxy
        refine List.pairwise_cons.mpr ⟨fun z hz => ?_, ih⟩
        rcases List.mem_cons.mp hz with rfl | hz
        · exact hxy
        · exact leS_trans hxy (hp.1 z hz)
      · rename_i hxy
        refine List.pairwise_cons.mpr ⟨fun z hz => ?_, ih2 hp.2⟩
        rcases List.mem_cons.mp ((insS_perm x ys).mem_iff.mp hz) with rfl | hz
        · exact (leS_total z y).resolve_left hxy
        · exact hp.1 z hz
theorem leKS_ic (a b : Ic) : leKS (iconD a) (iconD b) = leS a.n b.n := by
  show decide (a.n.cps.toList ≤ b.n.cps.toList) = !decide (b.n.cps.toList < a.n.cps.toList)
  rw [← decide_not]
  exact decide_eq_decide.mpr (by rw [List.not_lt])
theorem leS_anti {a b : Str} (h : leS a b = true) (h2 : leS b a = true) : a = b := by
  have h : ¬ b.cps.toList < a.cps.toList := by simpa [leS] using h
  have h2 : ¬ a.cps.toList < b.cps.toList := by simpa [leS] using h2
  have q := List.le_antisymm (List.not_lt.mp h) (List.not_lt.mp h2)
  have e : a.cps = b.cps := Array.toList_inj.mp q
  cases a; cases b
  exact congrArg _ e
theorem names_uniq {a b : Ic} : ∀ {is : Ics}, (namesV is).Nodup → a ∈ is → b ∈ is → a.n = b.n → a = b
  | [], _, ha, _, _ => absurd ha (by simp)
  | x :: xs, nd, ha, hb, e => by
    have nd' : x.n ∉ namesV xs ∧ (namesV xs).Nodup := List.nodup_cons.mp nd
    rcases List.mem_cons.mp ha with e1 | h1
    · rcases List.mem_cons.mp hb with e2 | h2
      · rw [e1, e2]
      · exact absurd (List.mem_map.mpr ⟨b, h2, by rw [← e, e1]⟩) nd'.1
    · rcases List.mem_cons.mp hb with e2 | h2
      · exact absurd (List.mem_map.mpr ⟨a, h1, by rw [e, e2]⟩) nd'.1
      · exact names_uniq nd'.2 h1 h2 e
theorem sortI_uniq {is : Ics} (nd : (namesV is).Nodup) : (is.map iconD).mergeSort leKS = (sortI is).map iconD := by
  have e1 : (is.map iconD).mergeSort leKS = (is.mergeSort fun a b => leS a.n b.n).map iconD := by
    rw [List.map_mergeSort]
    intro a _ b _
    exact (leKS_ic a b).symm
  rw [e1]
  congr 1
  refine List.Perm.eq_of_pairwise (le := fun a b : Ic => leS a.n b.n = true) ?_ (List.pairwise_mergeSort (le := fun a b : Ic => leS a.n b.n) (fun a b c h1 h2 => leS_trans h1 h2) (fun a b => ?_) is) ?_ ((List.mergeSort_perm is _).trans (sortI_perm is).symm)
  · intro a b ha hb h1 h2
    have ha := (List.mergeSort_perm is _).mem_iff.mp ha
    have hb := (sortI_perm is).mem_iff.mp hb
    have e := leS_anti h1 h2
    exact names_uniq nd ha hb e
  · rw [Bool.or_eq_true]; exact leS_total _ _
  · have q := sortS_sorted (namesV is)
    rw [← sortI_names] at q
    exact List.pairwise_map.mp q
def pairD (i : Ic) : D := .tup [.str i.n, optD i.p]
/-- what is shown -/
def shownD (s : Sta) : D := .tup [sizeD s.R s.C, .tup ((sortI s.is).map pairD)]
theorem sortI_len {is : Ics} : (sortI is).length = is.length := (sortI_perm is).length_eq
theorem sortK_ics {is : Ics} {st : Store} (nd : (namesV is).Nodup) (hl : is.length ≤ 1000) : kSort 0 (iconsD is) st = some (.lst ((sortI is).map iconD), st) := by
  show ((seqOf st (iconsD is)).bind fun xs => (sortKD 0 xs).bind fun ys => if ys.length ≤ sizeLine then some (D.lst ys, st) else none) = _
  show ((sortKD 0 (is.map iconD)).bind fun ys => if ys.length ≤ sizeLine then some (D.lst ys, st) else none) = _
  have all : ((is.map iconD).all fun d => (keyS d).isSome) = true := List.all_eq_true.mpr fun d hd => by
    obtain ⟨i, _, rfl⟩ := List.mem_map.mp hd
    rfl
  show ((if ((is.map iconD).all fun d => (keyS d).isSome) = true then some ((is.map iconD).mergeSort leKS) else none).bind _) = _
  rw [if_pos all, sortI_uniq nd, Option.bind_some, if_pos (size_le (by rw [List.length_map, sortI_len]; omega))]
theorem keyN0 : keyN (.int 0) = 0 := rfl
theorem shown (T : LayTab tab) {s : Sta} (nd : (namesV s.is).Nodup) (hl : s.is.length ≤ 1000) : callN cst turns tab (k + 1) "shown" [staD s] st = some (shownD s, st) := by
  rw [call_eq T.sh rfl]
  simp only [d_shown, List.map_cons, List.map_nil, List.length_cons, List.length_nil, Nat.reduceAdd, Nat.reduceSub, Nat.reduceLT, List.replicate, List.cons_append, List.nil_append, Go, Ev1, Ev2, Ev3, Ex1, Ex2, Q.Pl, Val1, set_name, kSet_name, kSet_tup, stTs_name, stTs_nil, setAll_cons, evl_cons, Sx, List.getElem?_cons_zero, List.getElem?_cons_succ, List.set_cons_zero, List.set_cons_succ, Option.map_some, Option.bind_some, decide_eq_true_eq, if_true, if_false, Bool.false_eq_true, asO_some, asO_no, noneX_t, noneX_i, noneX_v, noneX_n, kAug_add, kAug_sub, Isa, MkT, comp_eq, for_eq, lst_eq_nil, BEq.rfl, Nw, fStar_tup, fStar2_eq, OptE, IcE, RuleE, PlaceE, keyN0, sortK_ics nd hl]
  rw [loop_flat (F := iconD) (G := fun i => [pairD i]) fun i _ => by
    rw [one1_bind (env1 := [some (staD s), some (.str i.n), some (optD i.p), some (optD i.w)]) rfl]
    simp only [List.map_cons, List.map_nil, List.length_cons, List.length_nil, Nat.reduceAdd, Nat.reduceSub, Nat.reduceLT, List.replicate, List.cons_append, List.nil_append, Go, Ev1, Ev2, Ev3, Ex1, Ex2, Q.Pl, Val1, set_name, kSet_name, kSet_tup, stTs_name, stTs_nil, setAll_cons, evl_cons, Sx, List.getElem?_cons_zero, List.getElem?_cons_succ, List.set_cons_zero, List.set_cons_succ, Option.map_some, Option.bind_some, decide_eq_true_eq, if_true, if_false, Bool.false_eq_true, asO_some, asO_no, noneX_t, noneX_i, noneX_v, noneX_n, kAug_add, kAug_sub, Isa, MkT, comp_eq, for_eq, lst_eq_nil, BEq.rfl, Nw, fStar_tup, fStar2_eq, OptE, IcE, RuleE, PlaceE, kBl_bl]; rfl]
  rw [flat_one (f := pairD), endC_ok (size_le (by rw [List.length_map, sortI_len]; omega))]
  have e3 : biD .tuple false [.lst ((sortI s.is).map pairD)] st = some (.tup ((sortI s.is).map pairD), st) := tup_of (by rw [List.length_map, sortI_len]; omega)
  simp only [List.map_cons, List.map_nil, List.length_cons, List.length_nil, Nat.reduceAdd, Nat.reduceSub, Nat.reduceLT, List.replicate, List.cons_append, List.nil_append, Go, Ev1, Ev2, Ev3, Ex1, Ex2, Q.Pl, Val1, set_name, kSet_name, kSet_tup, stTs_name, stTs_nil, setAll_cons, evl_cons, Sx, List.getElem?_cons_zero, List.getElem?_cons_succ, List.set_cons_zero, List.set_cons_succ, Option.map_some, Option.bind_some, decide_eq_true_eq, if_true, if_false, Bool.false_eq_true, asO_some, asO_no, noneX_t, noneX_i, noneX_v, noneX_n, kAug_add, kAug_sub, Isa, MkT, comp_eq, for_eq, lst_eq_nil, BEq.rfl, Nw, fStar_tup, fStar2_eq, OptE, IcE, RuleE, PlaceE, e3]
  rfl
theorem BdAll.last {r : Rule} : ∀ {ds : List Deed} {s : Sta}, BdAll r s ds → Bd (lastV r s ds)
  | [], _, h => h
  | _ :: ds, _, h => BdAll.last (ds := ds) h.2
theorem laid (T : LayTab tab) {r : Rule} (hm : r.m < 3) (hT : 1002 ≤ turns) {R C : Int} {ds : List Deed} (hb : BdAll r ⟨R, C, []⟩ ds) :
    ∃ ex, callN cst turns tab (k + 7) "laid" [ruleD r, sizeD R C, rowD ds] st = some (shownD (lastV r ⟨R, C, []⟩ ds), st ++ ex) := by
  obtain ⟨ex, g⟩ := last_state (cst := cst) (turns := turns) (k := k) (st := st) T hm hT hb
  have b := hb.last
  rw [call_eq (k := k + 6) T.laid rfl]
  simp only [d_laid, List.map_cons, List.map_nil, List.length_cons, List.length_nil, Nat.reduceAdd, Nat.reduceSub, Nat.reduceLT, List.replicate, List.cons_append, List.nil_append, Go, Ev1, Ev2, Ev3, Ex1, Ex2, Q.Pl, Val1, set_name, kSet_name, kSet_tup, stTs_name, stTs_nil, setAll_cons, evl_cons, Sx, List.getElem?_cons_zero, List.getElem?_cons_succ, List.set_cons_zero, List.set_cons_succ, Option.map_some, Option.bind_some, decide_eq_true_eq, if_true, if_false, Bool.false_eq_true, asO_some, asO_no, noneX_t, noneX_i, noneX_v, noneX_n, kAug_add, kAug_sub, Isa, MkT, comp_eq, for_eq, lst_eq_nil, BEq.rfl, Nw, fStar_tup, fStar2_eq, OptE, IcE, RuleE, PlaceE, g, shown (k := k + 5) T b.nd (show (lastV r ⟨R, C, []⟩ ds).is.length ≤ 1000 by have := b.len; omega)]
  exact ⟨_, rfl⟩
end
end QL

/-! QLaw1: the law's own laying: free places, coming, going back. -/
namespace QL
open PySem PySem.Spec L2 Q
def plD (is : Ics) : List (Key × D) := is.map fun i => (.inr i.n, optD i.p)
/-- the store with the law's two dicts at its end -/
def W (base : Store) (is : Ics) (ws : List (Key × D)) : Store := base ++ [.dct (plD is), .dct ws]
def WOk (ws : List (Key × D)) (is : Ics) : Prop := ∀ i ∈ is, dget ws (.inr i.n) = some (optD i.w)
theorem two_p {base : Store} {a b : SO} : (base ++ [a, b])[base.length]? = some a := by
  rw [List.getElem?_append_right (Nat.le_refl _), Nat.sub_self]; rfl
theorem two_w {base : Store} {a b : SO} : (base ++ [a, b])[base.length + 1]? = some b := by
  rw [List.getElem?_append_right (by omega), show base.length + 1 - base.length = 1 by omega]; rfl
theorem two_sp {base : Store} {a b c : SO} : (base ++ [a, b]).set base.length c = base ++ [c, b] := by
  rw [List.set_append_right _ _ (Nat.le_refl _), Nat.sub_self]; rfl
theorem two_sw {base : Store} {a b c : SO} : (base ++ [a, b]).set (base.length + 1) c = base ++ [a, c] := by
  rw [List.set_append_right _ _ (by omega), show base.length + 1 - base.length = 1 by omega]; rfl
theorem pl_get {i : Ic} : ∀ {is : Ics}, (namesV is).Nodup → i ∈ is → dget (plD is) (.inr i.n) = some (optD i.p)
  | [], _, h => absurd h (by simp)
  | x :: xs, nd, h => by
    have nd' : x.n ∉ namesV xs ∧ (namesV xs).Nodup := List.nodup_cons.mp nd
    show dget ((.inr x.n, optD x.p) :: plD xs) (.inr i.n) = _
    rcases List.mem_cons.mp h with e | h
    · subst e
      unfold dget
      rw [List.find?_cons_of_pos (by simp)]; rfl
    · have ne : ¬ (Sum.inr x.n : Key) = .inr i.n := fun z => nd'.1 (List.mem_map.mpr ⟨i, h, (Sum.inr.inj z).symm⟩)
      have ih := pl_get nd'.2 h
      unfold dget at ih ⊢
      rw [List.find?_cons_of_neg (by simpa using ne)]
      exact ih
theorem pl_none {n : Str} : ∀ {is : Ics}, n ∉ namesV is → dget (plD is) (.inr n) = none
  | [], _ => rfl
  | x :: xs, h => by
    have h' : ¬ n = x.n ∧ n ∉ namesV xs := by
      have q : n ∉ x.n :: namesV xs := h
      rw [List.mem_cons, not_or] at q
      exact q
    show dget ((.inr x.n, optD x.p) :: plD xs) (.inr n) = _
    have ne : ¬ (Sum.inr x.n : Key) = .inr n := fun z => h'.1 (Sum.inr.inj z).symm
    have ih := pl_none h'.2
    unfold dget at ih ⊢
    rw [List.find?_cons_of_neg (by simpa using ne)]
    exact ih
theorem pl_has {n : Str} {is : Ics} : ((plD is).any fun kv => decide (kv.1 = .inr n)) = decide (n ∈ namesV is) := by
  rw [Bool.eq_iff_iff, List.any_eq_true, decide_eq_true_eq]
  constructor
  · rintro ⟨kv, h1, h2⟩
    obtain ⟨i, hi, rfl⟩ := List.mem_map.mp h1
    exact List.mem_map.mpr ⟨i, hi, Sum.inr.inj (of_decide_eq_true h2)⟩
  · intro h
    obtain ⟨i, hi, rfl⟩ := List.mem_map.mp h
    exact ⟨_, List.mem_map.mpr ⟨i, hi, rfl⟩, by simp⟩
/-- a place put into the dict -/
theorem pl_with {n : Str} {p : Option Pl} {is : Ics} (h : n ∈ namesV is) : dput (plD is) (.inr n) (optD p) = plD (withV (one1V n p) is) := by
  unfold dput
  rw [pl_has, if_pos (by simpa using h)]
  unfold plD withV
  rw [List.map_map, List.map_map]
  refine List.map_congr_left fun i _ => ?_
  show (if (Sum.inr i.n : Key) = .inr n then ((Sum.inr i.n : Key), optD p) else (.inr i.n, optD i.p)) = (.inr (wI (one1V n p) i).n, optD (wI (one1V n p) i).p)
  by_cases e : i.n = n
  · have q : one1V n p i.n = some p := by unfold one1V; rw [if_pos e]
    rw [if_pos (by rw [e]), wI_some q]
  · have q : one1V n p i.n = none := by unfold one1V; rw [if_neg e]
    rw [if_neg (fun z => e (Sum.inr.inj z)), wI_none q]
theorem pl_new {n : Str} {p w : Option Pl} {is : Ics} (h : n ∉ namesV is) : dput (plD is) (.inr n) (optD p) = plD (is ++ [⟨n, p, w⟩]) := by
  unfold dput
  rw [pl_has, if_neg (by simpa using h)]
  unfold plD
  rw [List.map_append]; rfl
/-- the same, with the item named -/
theorem pl_mid {a b : Ics} {i : Ic} {p w : Option Pl} (h : ∀ x ∈ a ++ b, x.n ≠ i.n) : dput (plD (a ++ i :: b)) (.inr i.n) (optD p) = plD (a ++ ⟨i.n, p, w⟩ :: b) := by
  rw [pl_with (by unfold namesV; simp), with_one rfl h]
  unfold plD
  rw [List.map_append, List.map_append]; rfl
theorem dget_put {kvs : List (Key × D)} {k k' : Key} {v : D} : dget (dput kvs k v) k' = if k' = k then some v else dget kvs k' := by
  unfold dput
  by_cases h : (kvs.any fun kv => decide (kv.1 = k)) = true
  · rw [if_pos h]
    induction kvs with
    | nil => cases h
    | cons a l ih =>
      rw [List.any_cons] at h
      unfold dget at ih ⊢
      rw [List.map_cons]
      by_cases e : a.1 = k
      · rw [if_pos e]
        by_cases e2 : k' = k
        · rw [if_pos e2, List.find?_cons_of_pos (by simp [e, e2])]; rfl
        · have n1 : ¬ a.1 = k' := fun z => e2 (by rw [← z, e])
          rw [if_neg e2, List.find?_cons_of_neg (by simpa using n1), List.find?_cons_of_neg (by simpa using n1)]
          by_cases q : (l.any fun kv => decide (kv.1 = k)) = true
          · rw [ih q, if_neg e2]
          · congr 2
            refine (List.map_congr_left fun kv hkv => ?_).trans (List.map_id l)
            rw [if_neg fun z => q (List.any_eq_true.mpr ⟨kv, hkv, by simpa using z⟩)]; rfl
      · rw [if_neg e]
        have h2 : (l.any fun kv => decide (kv.1 = k)) = true := by
          rw [show decide (a.1 = k) = false from decide_eq_false e, Bool.false_or] at h; exact h
        by_cases e3 : a.1 = k'
        · have e2 : ¬ k' = k := fun z => e (e3.trans z)
          rw [List.find?_cons_of_pos (by simpa using e3), List.find?_cons_of_pos (by simpa using e3), if_neg e2]
        · rw [List.find?_cons_of_neg (by simpa using e3), List.find?_cons_of_neg (by simpa using e3)]
          exact ih h2
  · rw [if_neg h]
    unfold dget
    rw [List.find?_append]
    have none_k : kvs.find? (fun kv => decide (kv.1 = k)) = none := List.find?_eq_none.mpr fun kv hkv z => h (List.any_eq_true.mpr ⟨kv, hkv, z⟩)
    by_cases e2 : k' = k
    · subst e2
      rw [if_pos rfl, none_k]
      simp
    · rw [if_neg e2]
      have : [(k, v)].find? (fun kv : Key × D => decide (kv.1 = k')) = none := by
        rw [List.find?_cons_of_neg (by simpa using fun z => e2 z.symm)]; rfl
      rw [this, Option.or_none]
theorem dput_len {kvs : List (Key × D)} {k : Key} {v : D} : (dput kvs k v).length ≤ kvs.length + 1 := by
  unfold dput
  split
  · rw [List.length_map]; omega
  · simp
theorem dput_len_has {kvs : List (Key × D)} {k : Key} {v d : D} (h : dget kvs k = some d) : (dput kvs k v).length = kvs.length := by
  unfold dput
  have : (kvs.any fun kv => decide (kv.1 = k)) = true := by
    unfold dget at h
    cases e : kvs.find? fun kv => decide (kv.1 = k) with
    | none => rw [e] at h; cases h
    | some x => exact List.any_eq_true.mpr ⟨x, List.mem_of_find?_eq_some e, by have q := List.find?_some e; exact q⟩
  rw [if_pos this, List.length_map]
theorem pl_len {is : Ics} : (plD is).length = is.length := by unfold plD; rw [List.length_map]
theorem flat_cong {α β : Type} {f g : α → List β} : ∀ {l : List α}, (∀ a ∈ l, f a = g a) → l.flatMap f = l.flatMap g
  | [], _ => rfl
  | a :: l, h => by rw [List.flatMap_cons, List.flatMap_cons, h a List.mem_cons_self, flat_cong fun b hb => h b (List.mem_cons_of_mem _ hb)]
/-! ### the free place -/
def seqI : Int → Nat → List D
  | _, 0 => []
  | i, n + 1 => .int i :: seqI (i + 1) n
theorem range_seq : ∀ {n : Nat} {lo : Int}, ((List.range n).map fun (i : Nat) => D.int (lo + (i : Nat))) = seqI lo n
  | 0, _ => rfl
  | n + 1, lo => by
    rw [List.range_succ_eq_map, List.map_cons, List.map_map]
    show D.int (lo + ((0 : Nat) : Int)) :: _ = D.int lo :: seqI (lo + 1) n
    rw [← range_seq, show lo + ((0 : Nat) : Int) = lo by omega]
    congr 1
    refine List.map_congr_left fun i _ => ?_
    show D.int (lo + ((i + 1 : Nat) : Int)) = D.int (lo + 1 + (i : Nat))
    congr 1; omega
theorem rangeD_seq {lo hi : Int} : rangeD lo hi = seqI lo (hi - lo).toNat := range_seq
theorem freeN_end {r : Rule} {R C : Int} {tk : List Pl} {m : Nat} : ∀ {n : Nat} {i : Int}, R * C ≤ i + n → freeN r R C tk n i = freeN r R C tk (n + m) i
  | 0, i, h => by
    cases m with
    | zero => rfl
    | succ m =>
      rw [show 0 + (m + 1) = m + 1 by omega]
      show none = if i < R * C then _ else none
      rw [if_neg (by omega)]
  | n + 1, i, h => by
    rw [show n + 1 + m = (n + m) + 1 by omega]
    show (if i < R * C then (if spotV r R C i ∈ tk then freeN r R C tk n (i + 1) else some (spotV r R C i)) else none) = (if i < R * C then (if spotV r R C i ∈ tk then freeN r R C tk (n + m) (i + 1) else some (spotV r R C i)) else none)
    rw [freeN_end (n := n) (i := i + 1) (m := m) (by omega)]
theorem any_opt {q : Pl} : ∀ {is : Ics}, ((is.map fun i : Ic => optD i.p).any fun y => y.eq (placeD q)) = decide (q ∈ takenV is)
  | [] => rfl
  | i :: is => by
    have e := optD_eq i.p (some q)
    rw [List.map_cons, List.any_cons, any_opt, show placeD q = optD (some q) from rfl, e]
    cases h : i.p with
    | none => rw [taken_none h]; simp
    | some p =>
      rw [taken_some h, Bool.eq_iff_iff]
      simp only [Bool.or_eq_true, decide_eq_true_eq, List.mem_cons, Option.some.injEq]
      constructor
      · rintro (rfl | h)
        · exact .inl rfl
        · exact .inr h
      · rintro (rfl | h)
        · exact .inl rfl
        · exact .inr h
theorem mem_used {q : Pl} {is : Ics} {st : Store} : memD st (placeD q) (.lst (is.map fun i : Ic => optD i.p)) = some (decide (q ∈ takenV is)) := by
  have ok : D.okL 20 (is.map fun i : Ic => optD i.p) = true := okL_of fun d hd => by
    obtain ⟨x, _, rfl⟩ := List.mem_map.mp hd
    exact optD_ok 19 _
  show (if (D.ok 20 (placeD q) && D.okL 20 (is.map fun i : Ic => optD i.p)) = true then some ((is.map fun i : Ic => optD i.p).any fun y => y.eq (placeD q)) else none) = _
  rw [ok, show D.ok 20 (placeD q) = true from optD_ok 19 (some q), any_opt]; rfl
section
variable {cst : Str → Option D} {turns : Nat} {tab : Str → Option Def} {k : Nat} {base : Store} {ws : List (Key × D)}
theorem get_p {is : Ics} {i : Ic} (nd : (namesV is).Nodup) (h : i ∈ is) {b : SO} : kSubK (.loc base.length) (.str i.n) (base ++ [.dct (plD is), b]) = some (optD i.p, base ++ [.dct (plD is), b]) := by
  show ((dctOf (base ++ [.dct (plD is), b]) (.loc base.length)).bind fun kvs => (keyOf (.str i.n)).bind fun k => (dget kvs k).map fun d => (d, base ++ [.dct (plD is), b])) = _
  have e : dctOf (base ++ [.dct (plD is), b]) (.loc base.length) = some (plD is) := by simp only [dctOf, two_p]
  rw [e]
  show (dget (plD is) (.inr i.n)).map _ = _
  rw [pl_get nd h]; rfl
theorem get_l {is : Ics} {i : Ic} (nd : (namesV is).Nodup) (h : i ∈ is) {b : SO} : kSubK (.loc base.length) (.str i.n) (base ++ [.lck (plD is), b]) = some (optD i.p, base ++ [.lck (plD is), b]) := by
  show ((dctOf (base ++ [.lck (plD is), b]) (.loc base.length)).bind fun kvs => (keyOf (.str i.n)).bind fun k => (dget kvs k).map fun d => (d, base ++ [.lck (plD is), b])) = _
  have e : dctOf (base ++ [.lck (plD is), b]) (.loc base.length) = some (plD is) := by simp only [dctOf, two_p]
  rw [e]
  show (dget (plD is) (.inr i.n)).map _ = _
  rw [pl_get nd h]; rfl
theorem get_w {is : Ics} {i : Ic} (hw : WOk ws is) (h : i ∈ is) {a : SO} : kSubK (.loc (base.length + 1)) (.str i.n) (base ++ [a, .dct ws]) = some (optD i.w, base ++ [a, .dct ws]) := by
  show ((dctOf (base ++ [a, .dct ws]) (.loc (base.length + 1))).bind fun kvs => (keyOf (.str i.n)).bind fun k => (dget kvs k).map fun d => (d, base ++ [a, .dct ws])) = _
  have e : dctOf (base ++ [a, .dct ws]) (.loc (base.length + 1)) = some ws := by simp only [dctOf, two_w]
  rw [e]
  show (dget ws (.inr i.n)).map _ = _
  rw [hw i h]; rfl
theorem put_p {kvs : List (Key × D)} {n : Str} {v : D} {b : SO} (hl : kvs.length < 1000) : _root_.Q.putK (D.loc base.length) (D.str n) v (base ++ [SO.dct kvs, b]) = some (base ++ [SO.dct (dput kvs (.inr n) v), b]) := by
  show (match (base ++ [SO.dct kvs, b])[base.length]? with
    | some (.dct kv2) => (keyOf (D.str n)).bind fun k => if kv2.length < sizeLine then some ((base ++ [SO.dct kvs, b]).set base.length (SO.dct (dput kv2 k v))) else none
    | _ => none) = _
  rw [two_p]
  show (if kvs.length < sizeLine then some ((base ++ [SO.dct kvs, b]).set base.length (SO.dct (dput kvs (.inr n) v))) else none) = _
  rw [if_pos (Nat.lt_of_lt_of_le hl (by decide)), two_sp]
theorem put_w {kvs : List (Key × D)} {n : Str} {v : D} {a : SO} (hl : kvs.length < 1000) : _root_.Q.putK (D.loc (base.length + 1)) (D.str n) v (base ++ [a, SO.dct kvs]) = some (base ++ [a, SO.dct (dput kvs (.inr n) v)]) := by
  show (match (base ++ [a, SO.dct kvs])[base.length + 1]? with
    | some (.dct kv2) => (keyOf (D.str n)).bind fun k => if kv2.length < sizeLine then some ((base ++ [a, SO.dct kvs]).set (base.length + 1) (SO.dct (dput kv2 k v))) else none
    | _ => none) = _
  rw [two_w]
  show (if kvs.length < sizeLine then some ((base ++ [a, SO.dct kvs]).set (base.length + 1) (SO.dct (dput kvs (.inr n) v))) else none) = _
  rw [if_pos (Nat.lt_of_lt_of_le hl (by decide)), two_sw]
theorem keys_of {is : Ics} : ((plD is).map fun (kv : Key × D) => unkey kv.1) = is.map fun i : Ic => D.str i.n := by unfold plD; rw [List.map_map]; rfl
/-- the walked dict's values -/
theorem used_of {C : Q.Ctx} {own : List (Str × Nat)} {i v : Nat} {env : Q.Env} {is : Ics} {b : SO} (nd : (namesV is).Nodup) (hl : is.length ≤ 1000) (h1 : env[i]? = some (some (.loc base.length)))
    (hb : ∀ d, ∃ env1, bindT (.name v) d (wipeE env (own.map (·.2))) = some env1 ∧ env1[i]? = some (some (.loc base.length)) ∧ env1[v]? = some (some d)) :
    ev C (.compK own (.name v) i (.bl true) (.subK (.var i) (.var v))) env (base ++ [.dct (plD is), b]) = some (.lst (is.map fun i : Ic => optD i.p), base ++ [.dct (plD is), b]) := by
  have key := compK_run (C := C) (own := own) (t := .name v) (c := .bl true) (e := .subK (.var i) (.var v)) (env := env) (st := base ++ [.dct (plD is), b]) (kvs := plD is) (f := fun d => match d with | .str n => (dget (plD is) (.inr n)).toList | _ => []) h1 two_p (fun d hd => by
    rw [keys_of] at hd
    obtain ⟨x, hx, rfl⟩ := List.mem_map.mp hd
    obtain ⟨env1, b1, b2, b3⟩ := hb (.str x.n)
    rw [one1_bind b1, two_sp]
    simp only [List.map_cons, List.map_nil, List.length_cons, List.length_nil, Nat.reduceAdd, Nat.reduceSub, Nat.reduceLT, List.replicate, List.cons_append, List.nil_append, Go, Ev1, Ev2, Ev3, Ex1, Ex2, Q.Pl, Val1, set_name, kSet_name, kSet_tup, stTs_name, stTs_nil, setAll_cons, evl_cons, Sx, List.getElem?_cons_zero, List.getElem?_cons_succ, List.set_cons_zero, List.set_cons_succ, Option.map_some, Option.bind_some, decide_eq_true_eq, if_true, if_false, Bool.false_eq_true, asO_some, asO_no, noneX_t, noneX_i, noneX_v, noneX_n, kAug_add, kAug_sub, Isa, MkT, comp_eq, for_eq, lst_eq_nil, BEq.rfl, Nw, fStar_tup, fStar2_eq, OptE, IcE, RuleE, PlaceE, kBl_bl, b2, b3, get_l nd hx, pl_get nd hx]
    rfl)
  rw [keys_of, List.flatMap_map] at key
  have e : (is.flatMap fun a : Ic => (dget (plD is) (.inr a.n)).toList) = is.map fun i : Ic => optD i.p := by
    rw [← flat_one]
    refine flat_cong fun a ha => ?_
    rw [pl_get nd ha]; rfl
  have key2 := key (by
    show (is.flatMap fun a : Ic => (dget (plD is) (.inr a.n)).toList).length ≤ _
    rw [e, List.length_map]; exact size_le (by omega))
  rw [key2]
  show some (D.lst (is.flatMap fun a : Ic => (dget (plD is) (.inr a.n)).toList), _) = _
  rw [e]
end
end QL

/-! QLaw2: free, come, on, back. -/
namespace QL
open PySem PySem.Spec L2 Q
/-- the law's own functions stand in the table -/
structure LawTab (tab : Str → Option Def) : Prop where
  spot : tab "_law_spot" = some d_law_spot
  number : tab "_law_number" = some d_law_number
  free : tab "_law_free" = some d_law_free
  come : tab "_law_come" = some d_law_come
  on : tab "_law_on" = some d_law_on
  back : tab "_law_back" = some d_law_back
  put : tab "_law_put" = some d_law_put
  done : tab "_law_done" = some d_law_done
  laid : tab "_law_laid" = some d_law_laid
/-- sizes whose numbers of places are small -/
def Lim (R C : Int) : Prop := R * C ≤ 1000000000000000000000000000000000000000000000000000000000000
section
variable {cst : Str → Option D} {turns : Nat} {tab : Str → Option Def} {k : Nat} {base st : Store} {ws : List (Key × D)} {b : SO}
abbrev lfB : List S := fBodyOf (d_law_free.body.getD 1 .pass)
theorem lf_loop (T : LawTab tab) {r : Rule} {R C : Int} (hR : Big R) (hC : Big C) {is : Ics} {x2 x3 x5 : Option D} : ∀ {n : Nat} {i : Int} {x6 x7 : Option D}, i + n ≤ R * C →
    ∃ env', forLoop none (bindT (.name 6)) (exL (cx cst turns tab (k + 1)) lfB) (seqI i n) [some (ruleD r), some (sizeD R C), x2, x3, some (.lst (is.map fun i : Ic => optD i.p)), x5, x6, x7] st = some (resF (freeN r R C (takenV is) n i), env', st)
  | 0, i, x6, x7, _ => ⟨_, rfl⟩
  | n + 1, i, x6, x7, h => by
    have bR := big_of hR.1 hR.2
    have bC := big_of hC.1 hC.2
    have hi : i < R * C := by omega
    show ∃ env', forLoop none _ _ (.int i :: seqI (i + 1) n) _ _ = _
    have bd : bindT (.name 6) (.int i) [some (ruleD r), some (sizeD R C), x2, x3, some (.lst (is.map fun i : Ic => optD i.p)), x5, x6, x7] = some [some (ruleD r), some (sizeD R C), x2, x3, some (.lst (is.map fun i : Ic => optD i.p)), x5, some (.int i), x7] := rfl
    by_cases hq : spotV r R C i ∈ takenV is
    · have f : freeN r R C (takenV is) (n + 1) i = freeN r R C (takenV is) n (i + 1) := by rw [freeN, if_pos hi, if_pos hq]
      have run : exL (cx cst turns tab (k + 1)) lfB [some (ruleD r), some (sizeD R C), x2, x3, some (.lst (is.map fun i : Ic => optD i.p)), x5, some (.int i), x7] st = some (.next, [some (ruleD r), some (sizeD R C), x2, x3, some (.lst (is.map fun i : Ic => optD i.p)), x5, some (.int i), some (placeD (spotV r R C i))], st) := by
        simp only [lfB, fBodyOf, d_law_free, List.getD_cons_succ, List.getD_cons_zero, List.map_cons, List.map_nil, List.length_cons, List.length_nil, Nat.reduceAdd, Nat.reduceSub, Nat.reduceLT, List.replicate, List.cons_append, List.nil_append, Go, Ev1, Ev2, Ev3, Ex1, Ex2, Q.Pl, Val1, set_name, kSet_name, kSet_tup, stTs_name, stTs_nil, setAll_cons, evl_cons, Sx, List.getElem?_cons_zero, List.getElem?_cons_succ, List.set_cons_zero, List.set_cons_succ, Option.map_some, Option.bind_some, decide_eq_true_eq, if_true, if_false, Bool.false_eq_true, asO_some, asO_no, noneX_t, noneX_i, noneX_v, noneX_n, kAug_add, kAug_sub, Isa, MkT, comp_eq, for_eq, lst_eq_nil, BEq.rfl, Nw, fStar_tup, fStar2_eq, OptE, IcE, RuleE, PlaceE, spot (k := k) T.spot bR bC, mem_used, hq, decide_true, Bool.not_true]
      obtain ⟨env', g⟩ := lf_loop T (r := r) hR hC (is := is) (x2 := x2) (x3 := x3) (x5 := x5) (n := n) (i := i + 1) (x6 := some (.int i)) (x7 := some (placeD (spotV r R C i))) (by omega)
      exact ⟨env', by rw [for_next bd run, g, f]⟩
    · have f : freeN r R C (takenV is) (n + 1) i = some (spotV r R C i) := by rw [freeN, if_pos hi, if_neg hq]
      have run : exL (cx cst turns tab (k + 1)) lfB [some (ruleD r), some (sizeD R C), x2, x3, some (.lst (is.map fun i : Ic => optD i.p)), x5, some (.int i), x7] st = some (.ret (placeD (spotV r R C i)), [some (ruleD r), some (sizeD R C), x2, x3, some (.lst (is.map fun i : Ic => optD i.p)), x5, some (.int i), some (placeD (spotV r R C i))], st) := by
        simp only [lfB, fBodyOf, d_law_free, List.getD_cons_succ, List.getD_cons_zero, List.map_cons, List.map_nil, List.length_cons, List.length_nil, Nat.reduceAdd, Nat.reduceSub, Nat.reduceLT, List.replicate, List.cons_append, List.nil_append, Go, Ev1, Ev2, Ev3, Ex1, Ex2, Q.Pl, Val1, set_name, kSet_name, kSet_tup, stTs_name, stTs_nil, setAll_cons, evl_cons, Sx, List.getElem?_cons_zero, List.getElem?_cons_succ, List.set_cons_zero, List.set_cons_succ, Option.map_some, Option.bind_some, decide_eq_true_eq, if_true, if_false, Bool.false_eq_true, asO_some, asO_no, noneX_t, noneX_i, noneX_v, noneX_n, kAug_add, kAug_sub, Isa, MkT, comp_eq, for_eq, lst_eq_nil, BEq.rfl, Nw, fStar_tup, fStar2_eq, OptE, IcE, RuleE, PlaceE, spot (k := k) T.spot bR bC, mem_used, hq, decide_false, Bool.not_false]
      exact ⟨_, by rw [f]; exact for_ret bd run⟩
theorem lawFree (T : LawTab tab) {r : Rule} {R C : Int} (hR : Big R) (hC : Big C) {is : Ics} (nd : (namesV is).Nodup) (hl : is.length ≤ 1000) {i : Int} (hi : 0 ≤ i) (hlim : i ≤ 1000000000000000000000000000000000000000000000000000000000000) :
    callN cst turns tab (k + 2) "_law_free" [ruleD r, sizeD R C, .loc base.length, .int i] (base ++ [.dct (plD is), b]) = some (optD (freeV r R C (takenV is) i), base ++ [.dct (plD is), b]) := by
  have bR := big_of hR.1 hR.2
  have bC := big_of hC.1 hC.2
  have hmul : ∀ st, binD .Mult (.int R) (.int C) st = some (.int (R * C), st) := fun st => mult_ok (lt900 (Int.le_of_lt bR.1) bR.2) (lt900 (Int.le_of_lt bC.1) bC.2)
  have hu := used_of (C := cx cst turns tab (k + 1)) (own := [(("name" : Str), 5)]) (i := 2) (v := 5) (env := [some (ruleD r), some (sizeD R C), some (.loc base.length), some (.int i), none, none, none, none]) (b := b) nd hl rfl (fun d => ⟨_, rfl, rfl, rfl⟩)
  have lt : (takenV is).length ≤ is.length := List.length_filterMap_le _ _
  have hp : 0 ≤ R * C := Int.mul_nonneg (Int.le_of_lt hR.1) (Int.le_of_lt hC.1)
  rw [call_eq (k := k + 1) T.free rfl]
  simp only [d_law_free, List.map_cons, List.map_nil, List.length_cons, List.length_nil, Nat.reduceAdd, Nat.reduceSub, Nat.reduceLT, List.replicate, List.cons_append, List.nil_append, Go, Ev1, Ev2, Ev3, Ex1, Ex2, Q.Pl, Val1, set_name, kSet_name, kSet_tup, stTs_name, stTs_nil, setAll_cons, evl_cons, Sx, List.getElem?_cons_zero, List.getElem?_cons_succ, List.set_cons_zero, List.set_cons_succ, Option.map_some, Option.bind_some, decide_eq_true_eq, if_true, if_false, Bool.false_eq_true, asO_some, asO_no, noneX_t, noneX_i, noneX_v, noneX_n, kAug_add, kAug_sub, Isa, MkT, comp_eq, for_eq, lst_eq_nil, BEq.rfl, Nw, fStar_tup, fStar2_eq, OptE, IcE, RuleE, PlaceE, hu, hmul, List.length_map, min_eq]
  generalize hhi : (if i + ((is.length : Nat) : Int) + 1 < R * C then i + ((is.length : Nat) : Int) + 1 else R * C) = hi2
  have h1 : hi2 ≤ R * C := by rw [← hhi]; split <;> omega
  have h2 : hi2 ≤ i + ((is.length : Nat) : Int) + 1 := by rw [← hhi]; split <;> omega
  have h3 : 0 ≤ hi2 := by rw [← hhi]; split <;> omega
  simp only [List.map_cons, List.map_nil, List.length_cons, List.length_nil, Nat.reduceAdd, Nat.reduceSub, Nat.reduceLT, List.replicate, List.cons_append, List.nil_append, Go, Ev1, Ev2, Ev3, Ex1, Ex2, Q.Pl, Val1, set_name, kSet_name, kSet_tup, stTs_name, stTs_nil, setAll_cons, evl_cons, Sx, List.getElem?_cons_zero, List.getElem?_cons_succ, List.set_cons_zero, List.set_cons_succ, Option.map_some, Option.bind_some, decide_eq_true_eq, if_true, if_false, Bool.false_eq_true, asO_some, asO_no, noneX_t, noneX_i, noneX_v, noneX_n, kAug_add, kAug_sub, Isa, MkT, comp_eq, for_eq, lst_eq_nil, BEq.rfl, Nw, fStar_tup, fStar2_eq, OptE, IcE, RuleE, PlaceE, rangeD_seq]
  have fin : freeN r R C (takenV is) (hi2 - i).toNat i = freeV r R C (takenV is) i := by
    by_cases e : R * C ≤ i + ((hi2 - i).toNat : Nat)
    · rw [freeN_end (m := (takenV is).length + 1) e]
      exact freeN_eq hR.1 hC.1 hi (by omega)
    · refine freeN_eq hR.1 hC.1 hi ?_
      have : hi2 = i + ((is.length : Nat) : Int) + 1 := by
        rw [← hhi]
        split
        · rfl
        · rename_i z
          rw [← hhi, if_neg z] at e
          omega
      omega
  by_cases hle : i ≤ hi2
  · obtain ⟨env', g⟩ := lf_loop (cst := cst) (turns := turns) (k := k) (st := base ++ [.dct (plD is), b]) T (r := r) hR hC (is := is) (x2 := some (.loc base.length)) (x3 := some (.int i)) (x5 := none) (n := (hi2 - i).toNat) (i := i) (x6 := none) (x7 := none) (by omega)
    simp only [lfB, fBodyOf, d_law_free, List.getD_cons_succ, List.getD_cons_zero, fin] at g
    rw [g]
    cases freeV r R C (takenV is) i with
    | none => simp only [resF, List.map_cons, List.map_nil, List.length_cons, List.length_nil, Nat.reduceAdd, Nat.reduceSub, Nat.reduceLT, List.replicate, List.cons_append, List.nil_append, Go, Ev1, Ev2, Ev3, Ex1, Ex2, Q.Pl, Val1, set_name, kSet_name, kSet_tup, stTs_name, stTs_nil, setAll_cons, evl_cons, Sx, List.getElem?_cons_zero, List.getElem?_cons_succ, List.set_cons_zero, List.set_cons_succ, Option.map_some, Option.bind_some, decide_eq_true_eq, if_true, if_false, Bool.false_eq_true, asO_some, asO_no, noneX_t, noneX_i, noneX_v, noneX_n, kAug_add, kAug_sub, Isa, MkT, comp_eq, for_eq, lst_eq_nil, BEq.rfl, Nw, fStar_tup, fStar2_eq, OptE, IcE, RuleE, PlaceE]
    | some p => simp only [resF, List.map_cons, List.map_nil, List.length_cons, List.length_nil, Nat.reduceAdd, Nat.reduceSub, Nat.reduceLT, List.replicate, List.cons_append, List.nil_append, Go, Ev1, Ev2, Ev3, Ex1, Ex2, Q.Pl, Val1, set_name, kSet_name, kSet_tup, stTs_name, stTs_nil, setAll_cons, evl_cons, Sx, List.getElem?_cons_zero, List.getElem?_cons_succ, List.set_cons_zero, List.set_cons_succ, Option.map_some, Option.bind_some, decide_eq_true_eq, if_true, if_false, Bool.false_eq_true, asO_some, asO_no, noneX_t, noneX_i, noneX_v, noneX_n, kAug_add, kAug_sub, Isa, MkT, comp_eq, for_eq, lst_eq_nil, BEq.rfl, Nw, fStar_tup, fStar2_eq, OptE, IcE, RuleE, PlaceE]; rfl
  · have z : (hi2 - i).toNat = 0 := by omega
    rw [z] at fin ⊢
    rw [← fin]
    simp only [seqI, for_nil, List.map_cons, List.map_nil, List.length_cons, List.length_nil, Nat.reduceAdd, Nat.reduceSub, Nat.reduceLT, List.replicate, List.cons_append, List.nil_append, Go, Ev1, Ev2, Ev3, Ex1, Ex2, Q.Pl, Val1, set_name, kSet_name, kSet_tup, stTs_name, stTs_nil, setAll_cons, evl_cons, Sx, List.getElem?_cons_zero, List.getElem?_cons_succ, List.set_cons_zero, List.set_cons_succ, Option.map_some, Option.bind_some, decide_eq_true_eq, if_true, if_false, Bool.false_eq_true, asO_some, asO_no, noneX_t, noneX_i, noneX_v, noneX_n, kAug_add, kAug_sub, Isa, MkT, comp_eq, for_eq, lst_eq_nil, BEq.rfl, Nw, fStar_tup, fStar2_eq, OptE, IcE, RuleE, PlaceE, freeN]
theorem lawOn (T : LawTab tab) {R C : Int} {p : Option Pl} (hp : ∀ q, p = some q → 0 ≤ q.1 ∧ 0 ≤ q.2) : callN cst turns tab (k + 1) "_law_on" [sizeD R C, optD p] st = some (.bl (onV R C p), st) := by
  rw [call_eq T.on rfl]
  cases p with
  | none => simp only [d_law_on, List.map_cons, List.map_nil, List.length_cons, List.length_nil, Nat.reduceAdd, Nat.reduceSub, Nat.reduceLT, List.replicate, List.cons_append, List.nil_append, Go, Ev1, Ev2, Ev3, Ex1, Ex2, Q.Pl, Val1, set_name, kSet_name, kSet_tup, stTs_name, stTs_nil, setAll_cons, evl_cons, Sx, List.getElem?_cons_zero, List.getElem?_cons_succ, List.set_cons_zero, List.set_cons_succ, Option.map_some, Option.bind_some, decide_eq_true_eq, if_true, if_false, Bool.false_eq_true, asO_some, asO_no, noneX_t, noneX_i, noneX_v, noneX_n, kAug_add, kAug_sub, Isa, MkT, comp_eq, for_eq, lst_eq_nil, BEq.rfl, Nw, fStar_tup, fStar2_eq, OptE, IcE, RuleE, PlaceE, Bool.not_true]; rfl
  | some p =>
    obtain ⟨h1, h3⟩ := hp p rfl
    have h0 : optD (some p) = placeD p := rfl
    rw [h0]
    unfold onV
    simp only [d_law_on, List.map_cons, List.map_nil, List.length_cons, List.length_nil, Nat.reduceAdd, Nat.reduceSub, Nat.reduceLT, List.replicate, List.cons_append, List.nil_append, Go, Ev1, Ev2, Ev3, Ex1, Ex2, Q.Pl, Val1, set_name, kSet_name, kSet_tup, stTs_name, stTs_nil, setAll_cons, evl_cons, Sx, List.getElem?_cons_zero, List.getElem?_cons_succ, List.set_cons_zero, List.set_cons_succ, Option.map_some, Option.bind_some, decide_eq_true_eq, if_true, if_false, Bool.false_eq_true, asO_some, asO_no, noneX_t, noneX_i, noneX_v, noneX_n, kAug_add, kAug_sub, Isa, MkT, comp_eq, for_eq, lst_eq_nil, BEq.rfl, Nw, fStar_tup, fStar2_eq, OptE, IcE, RuleE, PlaceE, Bool.not_false]
    by_cases h2 : p.1 < R
    · simp [h1, h2, h3, List.map_cons, List.map_nil, List.length_cons, List.length_nil, Nat.reduceAdd, Nat.reduceSub, Nat.reduceLT, List.replicate, List.cons_append, List.nil_append, Go, Ev1, Ev2, Ev3, Ex1, Ex2, Q.Pl, Val1, set_name, kSet_name, kSet_tup, stTs_name, stTs_nil, setAll_cons, evl_cons, Sx, List.getElem?_cons_zero, List.getElem?_cons_succ, List.set_cons_zero, List.set_cons_succ, Option.map_some, Option.bind_some, decide_eq_true_eq, if_true, if_false, Bool.false_eq_true, asO_some, asO_no, noneX_t, noneX_i, noneX_v, noneX_n, kAug_add, kAug_sub, Isa, MkT, comp_eq, for_eq, lst_eq_nil, BEq.rfl, Nw, fStar_tup, fStar2_eq, OptE, IcE, RuleE, PlaceE]
    · simp [h1, h2, List.map_cons, List.map_nil, List.length_cons, List.length_nil, Nat.reduceAdd, Nat.reduceSub, Nat.reduceLT, List.replicate, List.cons_append, List.nil_append, Go, Ev1, Ev2, Ev3, Ex1, Ex2, Q.Pl, Val1, set_name, kSet_name, kSet_tup, stTs_name, stTs_nil, setAll_cons, evl_cons, Sx, List.getElem?_cons_zero, List.getElem?_cons_succ, List.set_cons_zero, List.set_cons_succ, Option.map_some, Option.bind_some, decide_eq_true_eq, if_true, if_false, Bool.false_eq_true, asO_some, asO_no, noneX_t, noneX_i, noneX_v, noneX_n, kAug_add, kAug_sub, Isa, MkT, comp_eq, for_eq, lst_eq_nil, BEq.rfl, Nw, fStar_tup, fStar2_eq, OptE, IcE, RuleE, PlaceE]
/-! ### they come -/
theorem list_keys {is : Ics} (hl : is.length ≤ 1000) : biD .list false [.loc base.length] (base ++ [.dct (plD is), b]) = some (.lst (is.map fun i : Ic => D.str i.n), base ++ [.dct (plD is), b]) := by
  show listD false (base ++ [SO.dct (plD is), b]) (D.loc base.length) = _
  unfold listD
  simp only [seqOf, two_p, dctOf, Option.bind_some, keys_of]
  exact mkL_f (size_le (by rw [List.length_map]; omega))
abbrev lcB : List S := fBodyOf (d_law_come.body.getD 0 .pass)
theorem mid_ne {a c : Ics} {i : Ic} (nd : (namesV (a ++ i :: c)).Nodup) : ∀ x ∈ a ++ c, x.n ≠ i.n := by
  intro x hx e
  unfold namesV at nd
  rw [List.map_append, List.map_cons, (List.perm_middle (a := i.n) (l₁ := a.map Ic.n) (l₂ := c.map Ic.n)).nodup_iff, List.nodup_cons, ← List.map_append] at nd
  exact nd.1 (List.mem_map.mpr ⟨x, hx, e⟩)
theorem mid_nd {a c : Ics} {i j : Ic} (nd : (namesV (a ++ i :: c)).Nodup) (e : j.n = i.n) : (namesV (a ++ j :: c)).Nodup := by
  unfold namesV at nd ⊢
  rw [List.map_append, List.map_cons] at nd ⊢
  rw [e]; exact nd
theorem lc_loop (T : LawTab tab) {r : Rule} {R C : Int} (hR : Big R) (hC : Big C) : ∀ {rest done : Ics}, (namesV (done ++ rest)).Nodup → (done ++ rest).length < 1000 → ∀ {x3 : Option D},
    ∃ env', forLoop none (bindT (.name 3)) (exL (cx cst turns tab (k + 2)) lcB) (rest.map fun i : Ic => D.str i.n) [some (ruleD r), some (sizeD R C), some (.loc base.length), x3] (base ++ [.dct (plD (done ++ rest)), b])
      = some (.next, env', base ++ [.dct (plD (fillV r R C done rest)), b])
  | [], done, _, _, x3 => ⟨_, by rw [List.append_nil]; rfl⟩
  | i :: rest, done, nd, hl, x3 => by
    have mem : i ∈ done ++ i :: rest := by simp
    have bd : bindT (.name 3) (.str i.n) [some (ruleD r), some (sizeD R C), some (.loc base.length), x3] = some [some (ruleD r), some (sizeD R C), some (.loc base.length), some (.str i.n)] := rfl
    rw [List.map_cons]
    cases e : i.p with
    | some p =>
      have run : exL (cx cst turns tab (k + 2)) lcB [some (ruleD r), some (sizeD R C), some (.loc base.length), some (.str i.n)] (base ++ [.dct (plD (done ++ i :: rest)), b]) = some (.next, [some (ruleD r), some (sizeD R C), some (.loc base.length), some (.str i.n)], base ++ [.dct (plD (done ++ i :: rest)), b]) := by
        simp only [lcB, fBodyOf, d_law_come, List.getD_cons_succ, List.getD_cons_zero, List.map_cons, List.map_nil, List.length_cons, List.length_nil, Nat.reduceAdd, Nat.reduceSub, Nat.reduceLT, List.replicate, List.cons_append, List.nil_append, Go, Ev1, Ev2, Ev3, Ex1, Ex2, Q.Pl, Val1, set_name, kSet_name, kSet_tup, stTs_name, stTs_nil, setAll_cons, evl_cons, Sx, List.getElem?_cons_zero, List.getElem?_cons_succ, List.set_cons_zero, List.set_cons_succ, Option.map_some, Option.bind_some, decide_eq_true_eq, if_true, if_false, Bool.false_eq_true, asO_some, asO_no, noneX_t, noneX_i, noneX_v, noneX_n, kAug_add, kAug_sub, Isa, MkT, comp_eq, for_eq, lst_eq_nil, BEq.rfl, Nw, fStar_tup, fStar2_eq, OptE, IcE, RuleE, PlaceE, get_p nd mem, e, Option.isSome_some, Bool.not_true]
      have f : fillV r R C done (i :: rest) = fillV r R C (done ++ [i]) rest := by rw [fillV, e]
      obtain ⟨env', g⟩ := lc_loop T (r := r) hR hC (rest := rest) (done := done ++ [i]) (by rw [show done ++ [i] ++ rest = done ++ i :: rest by simp]; exact nd) (by rw [show done ++ [i] ++ rest = done ++ i :: rest by simp]; exact hl) (x3 := some (.str i.n))
      rw [show done ++ [i] ++ rest = done ++ i :: rest by simp] at g
      exact ⟨env', by rw [for_next bd run, f]; exact g⟩
    | none =>
      let v := freeV r R C (takenV (done ++ i :: rest)) 0
      have le : (done ++ ⟨i.n, v, i.w⟩ :: rest).length = (done ++ i :: rest).length := by simp
      have nd2 : (namesV (done ++ ⟨i.n, v, i.w⟩ :: rest)).Nodup := mid_nd nd rfl
      have ff := lawFree (cst := cst) (turns := turns) (k := k) (base := base) (b := b) T (r := r) hR hC nd (Nat.le_of_lt hl) (Int.le_refl 0) (by omega)
      have pk : _root_.Q.putK (D.loc base.length) (D.str i.n) (optD v) (base ++ [SO.dct (plD (done ++ i :: rest)), b]) = some (base ++ [SO.dct (plD (done ++ ⟨i.n, v, i.w⟩ :: rest)), b]) := by
        rw [put_p (by rw [pl_len]; exact hl), pl_mid (mid_ne nd)]
      have run : exL (cx cst turns tab (k + 2)) lcB [some (ruleD r), some (sizeD R C), some (.loc base.length), some (.str i.n)] (base ++ [.dct (plD (done ++ i :: rest)), b]) = some (.next, [some (ruleD r), some (sizeD R C), some (.loc base.length), some (.str i.n)], base ++ [.dct (plD (done ++ ⟨i.n, v, i.w⟩ :: rest)), b]) := by
        simp only [lcB, fBodyOf, d_law_come, List.getD_cons_succ, List.getD_cons_zero, List.map_cons, List.map_nil, List.length_cons, List.length_nil, Nat.reduceAdd, Nat.reduceSub, Nat.reduceLT, List.replicate, List.cons_append, List.nil_append, Go, Ev1, Ev2, Ev3, Ex1, Ex2, Q.Pl, Val1, set_name, kSet_name, kSet_tup, stTs_name, stTs_nil, setAll_cons, evl_cons, Sx, List.getElem?_cons_zero, List.getElem?_cons_succ, List.set_cons_zero, List.set_cons_succ, Option.map_some, Option.bind_some, decide_eq_true_eq, if_true, if_false, Bool.false_eq_true, asO_some, asO_no, noneX_t, noneX_i, noneX_v, noneX_n, kAug_add, kAug_sub, Isa, MkT, comp_eq, for_eq, lst_eq_nil, BEq.rfl, Nw, fStar_tup, fStar2_eq, OptE, IcE, RuleE, PlaceE, get_p nd mem, e, Option.isSome_none, Bool.not_false, ff, ex_putK, Ex2]
        rw [show _root_.Q.putK (D.loc base.length) (D.str i.n) (optD (freeV r R C (takenV (done ++ i :: rest)) 0)) (base ++ [SO.dct (plD (done ++ i :: rest)), b]) = _ from pk]
        rfl
      have f : fillV r R C done (i :: rest) = fillV r R C (done ++ [⟨i.n, v, i.w⟩]) rest := by rw [fillV, e]
      obtain ⟨env', g⟩ := lc_loop T (r := r) hR hC (rest := rest) (done := done ++ [⟨i.n, v, i.w⟩]) (by rw [show done ++ [⟨i.n, v, i.w⟩] ++ rest = done ++ ⟨i.n, v, i.w⟩ :: rest by simp]; exact nd2) (by rw [show done ++ [⟨i.n, v, i.w⟩] ++ rest = done ++ ⟨i.n, v, i.w⟩ :: rest by simp, le]; exact hl) (x3 := some (.str i.n))
      rw [show done ++ [⟨i.n, v, i.w⟩] ++ rest = done ++ ⟨i.n, v, i.w⟩ :: rest by simp] at g
      exact ⟨env', by rw [for_next bd run, f]; exact g⟩
theorem lawCome (T : LawTab tab) {r : Rule} {R C : Int} (hR : Big R) (hC : Big C) {is : Ics} (nd : (namesV is).Nodup) (hl : is.length < 1000) :
    callN cst turns tab (k + 3) "_law_come" [ruleD r, sizeD R C, .loc base.length] (base ++ [.dct (plD is), b]) = some (.non, base ++ [.dct (plD (filledV r R C is)), b]) := by
  obtain ⟨env', g⟩ := lc_loop (cst := cst) (turns := turns) (k := k) (base := base) (b := b) T (r := r) hR hC (rest := is) (done := []) nd hl (x3 := none)
  rw [call_eq (k := k + 2) T.come rfl]
  simp only [lcB, fBodyOf, d_law_come, List.getD_cons_succ, List.getD_cons_zero, List.nil_append] at g
  simp only [d_law_come, List.map_cons, List.map_nil, List.length_cons, List.length_nil, Nat.reduceAdd, Nat.reduceSub, Nat.reduceLT, List.replicate, List.cons_append, List.nil_append, Go, Ev1, Ev2, Ev3, Ex1, Ex2, Q.Pl, Val1, set_name, kSet_name, kSet_tup, stTs_name, stTs_nil, setAll_cons, evl_cons, Sx, List.getElem?_cons_zero, List.getElem?_cons_succ, List.set_cons_zero, List.set_cons_succ, Option.map_some, Option.bind_some, decide_eq_true_eq, if_true, if_false, Bool.false_eq_true, asO_some, asO_no, noneX_t, noneX_i, noneX_v, noneX_n, kAug_add, kAug_sub, Isa, MkT, comp_eq, for_eq, lst_eq_nil, BEq.rfl, Nw, fStar_tup, fStar2_eq, OptE, IcE, RuleE, PlaceE, list_keys (Nat.le_of_lt hl), g, Ev3]
  rfl
end
end QL

/-! QLaw3: they go back. -/
namespace QL
open PySem PySem.Spec L2 Q
theorem back1_any {R C : Int} {tk : List Pl} : ∀ {is : Ics}, is.any (callsB R C tk) = true → ∃ a i c, is = a ++ i :: c ∧ back1 R C tk is = a ++ ⟨i.n, i.w, i.w⟩ :: c ∧ callsB R C tk i = true
  | [], h => by cases h
  | i :: is, h => by
    by_cases hc : callsB R C tk i = true
    · exact ⟨[], i, is, rfl, by rw [back1, if_pos hc]; rfl, hc⟩
    · have h2 : is.any (callsB R C tk) = true := by
        rw [List.any_cons] at h
        simpa [hc] using h
      obtain ⟨a, j, c, e1, e2, e3⟩ := back1_any h2
      exact ⟨i :: a, j, c, by rw [e1]; rfl, by rw [back1, if_neg hc, e2]; rfl, e3⟩
def cntB (is : Ics) : Nat := (is.filter fun i => !decide (i.p = i.w)).length
theorem cnt_back {R C : Int} {is : Ics} (h : is.any (callsB R C (takenV is)) = true) : cntB (backV R C is) + 1 = cntB is := by
  obtain ⟨a, i, c, e1, e2, e3⟩ := back1_any h
  have ne : i.p ≠ i.w := by
    unfold callsB at e3
    rw [Bool.and_eq_true, Bool.and_eq_true, decide_eq_true_eq] at e3
    exact e3.1.1
  unfold backV
  rw [e2]
  conv => rhs; rw [e1]
  unfold cntB
  rw [List.filter_append, List.filter_append, List.filter_cons_of_neg (by simp), List.filter_cons_of_pos (by simpa using ne)]
  simp only [List.length_append, List.length_cons]
  omega
theorem iter_fix {R C : Int} : ∀ {n : Nat} {is : Ics}, backV R C is = is → iterB R C n is = is
  | 0, _, _ => rfl
  | n + 1, is, h => by
    show iterB R C n (backV R C is) = is
    rw [h]; exact iter_fix h
def NonW (is : Ics) : Prop := ∀ i ∈ is, ∀ q, i.w = some q → 0 ≤ q.1 ∧ 0 ≤ q.2
section
variable {cst : Str → Option D} {turns : Nat} {tab : Str → Option Def} {k : Nat} {base st : Store} {ws : List (Key × D)} {b : SO}
abbrev lbW : S := d_law_back.body.getD 1 .pass
abbrev lbF : S := (wBodyOf lbW).getD 1 .pass
abbrev lbB : List S := fBodyOf lbF
theorem lb_pass (T : LawTab tab) {R C : Int} : ∀ {rest a : Ics} {m : Bool}, (namesV (a ++ rest)).Nodup → (a ++ rest).length < 1000 → WOk ws (a ++ rest) → NonW (a ++ rest) → ∀ {x4 x5 x6 x7 : Option D},
    ∃ y4 y5 y6 y7, forLoop none (bindT (.name 4)) (exL (cx cst turns tab (k + 1)) lbB) (rest.map fun i : Ic => D.str i.n) [some (sizeD R C), some (.loc base.length), some (.loc (base.length + 1)), some (.bl m), x4, x5, x6, x7] (base ++ [.dct (plD (a ++ rest)), .dct ws])
      = some (.next, [some (sizeD R C), some (.loc base.length), some (.loc (base.length + 1)), some (.bl (m || rest.any (callsB R C (takenV (a ++ rest))))), y4, y5, y6, y7], base ++ [.dct (plD (if m = true then a ++ rest else a ++ back1 R C (takenV (a ++ rest)) rest)), .dct ws])
  | [], a, m, _, _, _, _, x4, x5, x6, x7 => by
    refine ⟨x4, x5, x6, x7, ?_⟩
    rw [List.any_nil, Bool.or_false]
    cases m <;> rfl
  | i :: rest, a, m, nd, hl, hw, hn, x4, x5, x6, x7 => by
    have mem : i ∈ a ++ i :: rest := by simp
    have bd : bindT (.name 4) (.str i.n) [some (sizeD R C), some (.loc base.length), some (.loc (base.length + 1)), some (.bl m), x4, x5, x6, x7] = some [some (sizeD R C), some (.loc base.length), some (.loc (base.length + 1)), some (.bl m), some (.str i.n), x5, x6, x7] := rfl
    have hu : ∀ {x6 x7 : Option D}, ev (cx cst turns tab (k + 1)) (.compK [(("other" : Str), 7)] (.name 7) 1 (.bl true) (.subK (.var 1) (.var 7))) [some (sizeD R C), some (.loc base.length), some (.loc (base.length + 1)), some (.bl m), some (.str i.n), some (optD i.w), x6, x7] (base ++ [.dct (plD (a ++ i :: rest)), .dct ws]) = some (.lst ((a ++ i :: rest).map fun i : Ic => optD i.p), base ++ [.dct (plD (a ++ i :: rest)), .dct ws]) := fun {x6 x7} =>
      used_of (C := cx cst turns tab (k + 1)) (own := [(("other" : Str), 7)]) (i := 1) (v := 7) (b := .dct ws) nd (Nat.le_of_lt hl) rfl (fun d => ⟨_, rfl, rfl, rfl⟩)
    have on : callN cst turns tab (k + 1) "_law_on" [sizeD R C, optD i.w] (base ++ [.dct (plD (a ++ i :: rest)), .dct ws]) = some (.bl (onV R C i.w), base ++ [.dct (plD (a ++ i :: rest)), .dct ws]) := lawOn T (hn i mem)
    have gw := get_w (base := base) (a := .dct (plD (a ++ i :: rest))) hw mem
    have gp := get_p (base := base) (b := .dct ws) nd mem
    rw [List.map_cons]
    by_cases go : m = false ∧ callsB R C (takenV (a ++ i :: rest)) i = true
    · obtain ⟨rfl, hc⟩ := go
      have hc' := hc
      unfold callsB at hc'
      rw [Bool.and_eq_true, Bool.and_eq_true, decide_eq_true_eq] at hc'
      obtain ⟨⟨h1, h2⟩, h3⟩ := hc'
      have nd2 : (namesV (a ++ ⟨i.n, i.w, i.w⟩ :: rest)).Nodup := mid_nd nd rfl
      have pk : _root_.Q.putK (D.loc base.length) (D.str i.n) (optD i.w) (base ++ [SO.dct (plD (a ++ i :: rest)), SO.dct ws]) = some (base ++ [SO.dct (plD (a ++ ⟨i.n, i.w, i.w⟩ :: rest)), SO.dct ws]) := by
        rw [put_p (by rw [pl_len]; exact hl), pl_mid (mid_ne nd)]
      have nm : memD (base ++ [.dct (plD (a ++ i :: rest)), .dct ws]) (optD i.w) (.lst ((a ++ i :: rest).map fun i : Ic => optD i.p)) = some false := by
        cases ew : i.w with
        | none => rw [ew] at h2; cases h2
        | some q =>
          rw [ew] at h3
          have h3 : q ∉ takenV (a ++ i :: rest) := of_decide_eq_true h3
          show memD _ (placeD q) _ = _
          rw [mem_used, decide_eq_false h3]
      have run : exL (cx cst turns tab (k + 1)) lbB [some (sizeD R C), some (.loc base.length), some (.loc (base.length + 1)), some (.bl false), some (.str i.n), x5, x6, x7] (base ++ [.dct (plD (a ++ i :: rest)), .dct ws]) = some (.next, [some (sizeD R C), some (.loc base.length), some (.loc (base.length + 1)), some (.bl true), some (.str i.n), some (optD i.w), some (.lst ((a ++ i :: rest).map fun i : Ic => optD i.p)), x7], base ++ [.dct (plD (a ++ ⟨i.n, i.w, i.w⟩ :: rest)), .dct ws]) := by
        simp only [lbB, lbF, lbW, wBodyOf, fBodyOf, d_law_back, List.getD_cons_succ, List.getD_cons_zero, List.map_cons, List.map_nil, List.length_cons, List.length_nil, Nat.reduceAdd, Nat.reduceSub, Nat.reduceLT, List.replicate, List.cons_append, List.nil_append, Go, Ev1, Ev2, Ev3, Ex1, Ex2, Q.Pl, Val1, set_name, kSet_name, kSet_tup, stTs_name, stTs_nil, setAll_cons, evl_cons, Sx, List.getElem?_cons_zero, List.getElem?_cons_succ, List.set_cons_zero, List.set_cons_succ, Option.map_some, Option.bind_some, decide_eq_true_eq, if_true, if_false, Bool.false_eq_true, asO_some, asO_no, noneX_t, noneX_i, noneX_v, noneX_n, kAug_add, kAug_sub, Isa, MkT, comp_eq, for_eq, lst_eq_nil, BEq.rfl, Nw, fStar_tup, fStar2_eq, OptE, IcE, RuleE, PlaceE, gw, hu, gp, Bool.not_false, h1, decide_false, on, h2, nm, ex_putK, Ex2, pk]
      have hw2 : WOk ws (a ++ ⟨i.n, i.w, i.w⟩ :: rest) := by
        intro j hj
        rcases List.mem_append.mp hj with h | h
        · exact hw j (List.mem_append.mpr (.inl h))
        · rcases List.mem_cons.mp h with rfl | h
          · exact hw i mem
          · exact hw j (List.mem_append.mpr (.inr (List.mem_cons_of_mem _ h)))
      have hn2 : NonW (a ++ ⟨i.n, i.w, i.w⟩ :: rest) := by
        intro j hj
        rcases List.mem_append.mp hj with h | h
        · exact hn j (List.mem_append.mpr (.inl h))
        · rcases List.mem_cons.mp h with rfl | h
          · exact hn i mem
          · exact hn j (List.mem_append.mpr (.inr (List.mem_cons_of_mem _ h)))
      obtain ⟨y4, y5, y6, y7, g⟩ := lb_pass T (R := R) (C := C) (rest := rest) (a := a ++ [⟨i.n, i.w, i.w⟩]) (m := true) (by simpa using nd2) (by simpa using hl) (by simpa using hw2) (by simpa using hn2) (x4 := some (.str i.n)) (x5 := some (optD i.w)) (x6 := some (.lst ((a ++ i :: rest).map fun i : Ic => optD i.p))) (x7 := x7)
      refine ⟨y4, y5, y6, y7, ?_⟩
      rw [show a ++ [⟨i.n, i.w, i.w⟩] ++ rest = a ++ ⟨i.n, i.w, i.w⟩ :: rest by simp, Bool.true_or] at g
      rw [for_next bd run, g, if_pos rfl, if_neg (by decide), back1, if_pos hc, List.any_cons, hc]
      rfl
    · have run : ∃ y6, exL (cx cst turns tab (k + 1)) lbB [some (sizeD R C), some (.loc base.length), some (.loc (base.length + 1)), some (.bl m), some (.str i.n), x5, x6, x7] (base ++ [.dct (plD (a ++ i :: rest)), .dct ws]) = some (.next, [some (sizeD R C), some (.loc base.length), some (.loc (base.length + 1)), some (.bl m), some (.str i.n), some (optD i.w), y6, x7], base ++ [.dct (plD (a ++ i :: rest)), .dct ws]) := by
        refine ⟨some (.lst ((a ++ i :: rest).map fun i : Ic => optD i.p)), ?_⟩
        cases m with
        | true => simp only [lbB, lbF, lbW, wBodyOf, fBodyOf, d_law_back, List.getD_cons_succ, List.getD_cons_zero, List.map_cons, List.map_nil, List.length_cons, List.length_nil, Nat.reduceAdd, Nat.reduceSub, Nat.reduceLT, List.replicate, List.cons_append, List.nil_append, Go, Ev1, Ev2, Ev3, Ex1, Ex2, Q.Pl, Val1, set_name, kSet_name, kSet_tup, stTs_name, stTs_nil, setAll_cons, evl_cons, Sx, List.getElem?_cons_zero, List.getElem?_cons_succ, List.set_cons_zero, List.set_cons_succ, Option.map_some, Option.bind_some, decide_eq_true_eq, if_true, if_false, Bool.false_eq_true, asO_some, asO_no, noneX_t, noneX_i, noneX_v, noneX_n, kAug_add, kAug_sub, Isa, MkT, comp_eq, for_eq, lst_eq_nil, BEq.rfl, Nw, fStar_tup, fStar2_eq, OptE, IcE, RuleE, PlaceE, gw, hu, gp, Bool.not_true]
        | false =>
          have hc : callsB R C (takenV (a ++ i :: rest)) i = false := by
            cases e : callsB R C (takenV (a ++ i :: rest)) i with
            | false => rfl
            | true => exact absurd ⟨rfl, e⟩ go
          unfold callsB at hc
          by_cases h1 : i.p = i.w
          · simp only [lbB, lbF, lbW, wBodyOf, fBodyOf, d_law_back, List.getD_cons_succ, List.getD_cons_zero, List.map_cons, List.map_nil, List.length_cons, List.length_nil, Nat.reduceAdd, Nat.reduceSub, Nat.reduceLT, List.replicate, List.cons_append, List.nil_append, Go, Ev1, Ev2, Ev3, Ex1, Ex2, Q.Pl, Val1, set_name, kSet_name, kSet_tup, stTs_name, stTs_nil, setAll_cons, evl_cons, Sx, List.getElem?_cons_zero, List.getElem?_cons_succ, List.set_cons_zero, List.set_cons_succ, Option.map_some, Option.bind_some, decide_eq_true_eq, if_true, if_false, Bool.false_eq_true, asO_some, asO_no, noneX_t, noneX_i, noneX_v, noneX_n, kAug_add, kAug_sub, Isa, MkT, comp_eq, for_eq, lst_eq_nil, BEq.rfl, Nw, fStar_tup, fStar2_eq, OptE, IcE, RuleE, PlaceE, gw, hu, gp, Bool.not_false, h1, decide_true, Bool.not_true]
          · cases h2 : onV R C i.w with
            | false => simp only [lbB, lbF, lbW, wBodyOf, fBodyOf, d_law_back, List.getD_cons_succ, List.getD_cons_zero, List.map_cons, List.map_nil, List.length_cons, List.length_nil, Nat.reduceAdd, Nat.reduceSub, Nat.reduceLT, List.replicate, List.cons_append, List.nil_append, Go, Ev1, Ev2, Ev3, Ex1, Ex2, Q.Pl, Val1, set_name, kSet_name, kSet_tup, stTs_name, stTs_nil, setAll_cons, evl_cons, Sx, List.getElem?_cons_zero, List.getElem?_cons_succ, List.set_cons_zero, List.set_cons_succ, Option.map_some, Option.bind_some, decide_eq_true_eq, if_true, if_false, Bool.false_eq_true, asO_some, asO_no, noneX_t, noneX_i, noneX_v, noneX_n, kAug_add, kAug_sub, Isa, MkT, comp_eq, for_eq, lst_eq_nil, BEq.rfl, Nw, fStar_tup, fStar2_eq, OptE, IcE, RuleE, PlaceE, gw, hu, gp, Bool.not_false, h1, decide_false, on, h2]
            | true =>
              have nm : memD (base ++ [.dct (plD (a ++ i :: rest)), .dct ws]) (optD i.w) (.lst ((a ++ i :: rest).map fun i : Ic => optD i.p)) = some true := by
                cases ew : i.w with
                | none => rw [ew] at h2; cases h2
                | some q =>
                  rw [h2, ew] at hc
                  rw [ew] at h1
                  have : freeW (takenV (a ++ i :: rest)) (some q) = false := by simpa [h1] using hc
                  have h3 : q ∈ takenV (a ++ i :: rest) := Classical.byContradiction fun z => by
                    have : decide (q ∉ takenV (a ++ i :: rest)) = false := this
                    rw [decide_eq_true z] at this
                    cases this
                  show memD _ (placeD q) _ = _
                  rw [mem_used, decide_eq_true h3]
              simp only [lbB, lbF, lbW, wBodyOf, fBodyOf, d_law_back, List.getD_cons_succ, List.getD_cons_zero, List.map_cons, List.map_nil, List.length_cons, List.length_nil, Nat.reduceAdd, Nat.reduceSub, Nat.reduceLT, List.replicate, List.cons_append, List.nil_append, Go, Ev1, Ev2, Ev3, Ex1, Ex2, Q.Pl, Val1, set_name, kSet_name, kSet_tup, stTs_name, stTs_nil, setAll_cons, evl_cons, Sx, List.getElem?_cons_zero, List.getElem?_cons_succ, List.set_cons_zero, List.set_cons_succ, Option.map_some, Option.bind_some, decide_eq_true_eq, if_true, if_false, Bool.false_eq_true, asO_some, asO_no, noneX_t, noneX_i, noneX_v, noneX_n, kAug_add, kAug_sub, Isa, MkT, comp_eq, for_eq, lst_eq_nil, BEq.rfl, Nw, fStar_tup, fStar2_eq, OptE, IcE, RuleE, PlaceE, gw, hu, gp, Bool.not_false, h1, decide_false, on, h2, nm, Bool.not_true]
      obtain ⟨y6, run⟩ := run
      obtain ⟨y4, y5, y6', y7, g⟩ := lb_pass T (R := R) (C := C) (rest := rest) (a := a ++ [i]) (m := m) (by simpa using nd) (by simpa using hl) (by simpa using hw) (by simpa using hn) (x4 := some (.str i.n)) (x5 := some (optD i.w)) (x6 := y6) (x7 := x7)
      refine ⟨y4, y5, y6', y7, ?_⟩
      rw [show a ++ [i] ++ rest = a ++ i :: rest by simp] at g
      rw [for_next bd run, g]
      cases m with
      | true => rfl
      | false =>
        have hc : callsB R C (takenV (a ++ i :: rest)) i = false := by
          cases e : callsB R C (takenV (a ++ i :: rest)) i with
          | false => rfl
          | true => exact absurd ⟨rfl, e⟩ go
        rw [if_neg (by decide), if_neg (by decide), List.any_cons, hc, back1, if_neg (by rw [hc]; decide), Bool.false_or, Bool.false_or]
        simp
theorem back_names {R C : Int} {is : Ics} : namesV (backV R C is) = namesV is := back1_names is
theorem back_wok {R C : Int} {is : Ics} (h : WOk ws is) : WOk ws (backV R C is) := by
  rcases back1_split (R := R) (C := C) (tk := takenV is) is with e | ⟨a, i, c, e1, e2, _⟩
  · unfold backV; rw [e]; exact h
  · unfold backV
    rw [e2]
    rw [e1] at h
    intro j hj
    rcases List.mem_append.mp hj with q | q
    · exact h j (List.mem_append.mpr (.inl q))
    · rcases List.mem_cons.mp q with rfl | q
      · exact h i (by simp)
      · exact h j (List.mem_append.mpr (.inr (List.mem_cons_of_mem _ q)))
theorem back_nonw {R C : Int} {is : Ics} (h : NonW is) : NonW (backV R C is) := by
  rcases back1_split (R := R) (C := C) (tk := takenV is) is with e | ⟨a, i, c, e1, e2, _⟩
  · unfold backV; rw [e]; exact h
  · unfold backV
    rw [e2]
    rw [e1] at h
    intro j hj
    rcases List.mem_append.mp hj with q | q
    · exact h j (List.mem_append.mpr (.inl q))
    · rcases List.mem_cons.mp q with rfl | q
      · exact h i (by simp)
      · exact h j (List.mem_append.mpr (.inr (List.mem_cons_of_mem _ q)))
theorem back_len {R C : Int} {is : Ics} : (backV R C is).length = is.length := iterB_len (n := 1)
theorem cond_b {C : Q.Ctx} {a0 a1 a2 a4 a5 a6 a7 : Option D} {m : Bool} {st : Store} : cndW C (.var 3) [a0, a1, a2, some (.bl m), a4, a5, a6, a7] st = some (m, st) := by
  unfold cndW; simp only [List.map_cons, List.map_nil, List.length_cons, List.length_nil, Nat.reduceAdd, Nat.reduceSub, Nat.reduceLT, List.replicate, List.cons_append, List.nil_append, Go, Ev1, Ev2, Ev3, Ex1, Ex2, Q.Pl, Val1, set_name, kSet_name, kSet_tup, stTs_name, stTs_nil, setAll_cons, evl_cons, Sx, List.getElem?_cons_zero, List.getElem?_cons_succ, List.set_cons_zero, List.set_cons_succ, Option.map_some, Option.bind_some, decide_eq_true_eq, if_true, if_false, Bool.false_eq_true, asO_some, asO_no, noneX_t, noneX_i, noneX_v, noneX_n, kAug_add, kAug_sub, Isa, MkT, comp_eq, for_eq, lst_eq_nil, BEq.rfl, Nw, fStar_tup, fStar2_eq, OptE, IcE, RuleE, PlaceE]; rfl
theorem lb_turn {R C : Int} {is : Ics} (hl : is.length < 1000) {x3 x4 x5 x6 x7 : Option D} {env' : Q.Env} {st' : Store}
    (g : forLoop none (bindT (.name 4)) (exL (cx cst turns tab (k + 1)) lbB) (is.map fun i : Ic => D.str i.n) [some (sizeD R C), some (.loc base.length), some (.loc (base.length + 1)), some (.bl false), x4, x5, x6, x7] (base ++ [.dct (plD is), .dct ws]) = some (.next, env', st')) :
    exL (cx cst turns tab (k + 1)) (wBodyOf lbW) [some (sizeD R C), some (.loc base.length), some (.loc (base.length + 1)), x3, x4, x5, x6, x7] (base ++ [.dct (plD is), .dct ws]) = some (.next, env', st') := by
  simp only [lbB, lbF, lbW, wBodyOf, fBodyOf, d_law_back, List.getD_cons_succ, List.getD_cons_zero] at g
  simp only [lbW, wBodyOf, d_law_back, List.getD_cons_succ, List.getD_cons_zero, List.map_cons, List.map_nil, List.length_cons, List.length_nil, Nat.reduceAdd, Nat.reduceSub, Nat.reduceLT, List.replicate, List.cons_append, List.nil_append, Go, Ev1, Ev2, Ev3, Ex1, Ex2, Q.Pl, Val1, set_name, kSet_name, kSet_tup, stTs_name, stTs_nil, setAll_cons, evl_cons, Sx, List.getElem?_cons_zero, List.getElem?_cons_succ, List.set_cons_zero, List.set_cons_succ, Option.map_some, Option.bind_some, decide_eq_true_eq, if_true, if_false, Bool.false_eq_true, asO_some, asO_no, noneX_t, noneX_i, noneX_v, noneX_n, kAug_add, kAug_sub, Isa, MkT, comp_eq, for_eq, lst_eq_nil, BEq.rfl, Nw, fStar_tup, fStar2_eq, OptE, IcE, RuleE, PlaceE, list_keys (Nat.le_of_lt hl), Ev3, g]
theorem lb_while (T : LawTab tab) {R C : Int} : ∀ {c fuel N : Nat} {is : Ics}, cntB is ≤ c → c + 1 < fuel → c ≤ N → (namesV is).Nodup → is.length < 1000 → WOk ws is → NonW is → ∀ {x4 x5 x6 x7 : Option D},
    ∃ env', whileLoop (cndW (cx cst turns tab (k + 1)) (.var 3)) (exL (cx cst turns tab (k + 1)) (wBodyOf lbW)) fuel [some (sizeD R C), some (.loc base.length), some (.loc (base.length + 1)), some (.bl true), x4, x5, x6, x7] (base ++ [.dct (plD is), .dct ws])
      = some (.next, env', base ++ [.dct (plD (iterB R C N is)), .dct ws]) := by
  intro c
  induction c with
  | zero => 
    intro fuel N is h0 h1 h2 nd hl hw hn x4 x5 x6 x7
    obtain ⟨f, rfl⟩ : ∃ f, fuel = f + 1 + 1 := ⟨fuel - 2, by omega⟩
    obtain ⟨y4, y5, y6, y7, g⟩ := lb_pass (cst := cst) (turns := turns) (k := k) (base := base) T (R := R) (C := C) (rest := is) (a := []) (m := false) nd hl hw hn (x4 := x4) (x5 := x5) (x6 := x6) (x7 := x7)
    have no : is.any (callsB R C (takenV is)) = false := by
      cases e : is.any (callsB R C (takenV is)) with
      | false => rfl
      | true => have := cnt_back e; omega
    rw [List.nil_append, no, back1_none no, List.nil_append, if_neg Bool.false_ne_true] at g
    have g := lb_turn (x3 := some (.bl true)) hl g
    have w := while_step (c := cndW (cx cst turns tab (k + 1)) (.var 3)) (n := f + 1) cond_b g
    rw [w, iter_fix (show backV R C is = is from back1_none no)]
    exact ⟨_, while_stop cond_b⟩
  | succ c ih =>
    intro fuel N is h0 h1 h2 nd hl hw hn x4 x5 x6 x7
    obtain ⟨f, rfl⟩ : ∃ f, fuel = f + 1 + 1 := ⟨fuel - 2, by omega⟩
    obtain ⟨N, rfl⟩ : ∃ N', N = N' + 1 := ⟨N - 1, by omega⟩
    obtain ⟨y4, y5, y6, y7, g⟩ := lb_pass (cst := cst) (turns := turns) (k := k) (base := base) T (R := R) (C := C) (rest := is) (a := []) (m := false) nd hl hw hn (x4 := x4) (x5 := x5) (x6 := x6) (x7 := x7)
    cases no : is.any (callsB R C (takenV is)) with
    | false =>
      rw [List.nil_append, no, back1_none no, List.nil_append, if_neg Bool.false_ne_true] at g
      have g := lb_turn (x3 := some (.bl true)) hl g
      have w := while_step (c := cndW (cx cst turns tab (k + 1)) (.var 3)) (n := f + 1) cond_b g
      rw [w, iter_fix (show backV R C is = is from back1_none no)]
      exact ⟨_, while_stop cond_b⟩
    | true =>
      have cb := cnt_back no
      rw [List.nil_append, no, List.nil_append, if_neg Bool.false_ne_true] at g
      have g := lb_turn (x3 := some (.bl true)) hl g
      have w := while_step (c := cndW (cx cst turns tab (k + 1)) (.var 3)) (n := f + 1) cond_b g
      rw [w]
      exact ih (fuel := f + 1) (N := N) (is := backV R C is) (by omega) (by omega) (by omega) (by rw [back_names]; exact nd) (by rw [back_len]; exact hl) (back_wok hw) (back_nonw hn)
theorem cnt_le {is : Ics} : cntB is ≤ is.length := List.length_filter_le _ _
theorem lawBack (T : LawTab tab) (hT : 1002 ≤ turns) {R C : Int} {is : Ics} (nd : (namesV is).Nodup) (hl : is.length < 1000) (hw : WOk ws is) (hn : NonW is) {N : Nat} (hN : is.length ≤ N) :
    callN cst turns tab (k + 2) "_law_back" [sizeD R C, .loc base.length, .loc (base.length + 1)] (base ++ [.dct (plD is), .dct ws]) = some (.non, base ++ [.dct (plD (iterB R C N is)), .dct ws]) := by
  have cl := cnt_le (is := is)
  obtain ⟨env', g⟩ := lb_while (cst := cst) (turns := turns) (k := k) (base := base) (ws := ws) T (R := R) (C := C) (c := is.length) (fuel := turns) (N := N) (is := is) cl (by omega) hN nd hl hw hn (x4 := none) (x5 := none) (x6 := none) (x7 := none)
  rw [call_eq (k := k + 1) T.back rfl]
  simp only [lbW, wBodyOf, d_law_back, List.getD_cons_succ, List.getD_cons_zero] at g
  simp only [d_law_back, List.map_cons, List.map_nil, List.length_cons, List.length_nil, Nat.reduceAdd, Nat.reduceSub, Nat.reduceLT, List.replicate, List.cons_append, List.nil_append, Go, Ev1, Ev2, Ev3, Ex1, Ex2, Q.Pl, Val1, set_name, kSet_name, kSet_tup, stTs_name, stTs_nil, setAll_cons, evl_cons, Sx, List.getElem?_cons_zero, List.getElem?_cons_succ, List.set_cons_zero, List.set_cons_succ, Option.map_some, Option.bind_some, decide_eq_true_eq, if_true, if_false, Bool.false_eq_true, asO_some, asO_no, noneX_t, noneX_i, noneX_v, noneX_n, kAug_add, kAug_sub, Isa, MkT, comp_eq, for_eq, lst_eq_nil, BEq.rfl, Nw, fStar_tup, fStar2_eq, OptE, IcE, RuleE, PlaceE, ex_whileC, g]
end
end QL

/-! QLaw4: put. -/
namespace QL
open PySem PySem.Spec L2 Q
theorem fill_id {r : Rule} {R C : Int} (hR : 0 < R) (hC : 0 < C) : ∀ {rest done : Ics}, Full R C (done ++ rest) → fillV r R C done rest = done ++ rest
  | [], done, _ => by rw [fillV, List.append_nil]
  | i :: rest, done, h => by
    rw [fillV]
    cases e : i.p with
    | some p =>
      show fillV r R C (done ++ [i]) rest = _
      rw [fill_id hR hC (by simpa using h)]; simp
    | none =>
      have no : freeV r R C (takenV (done ++ i :: rest)) 0 = none := by
        cases ef : freeV r R C (takenV (done ++ i :: rest)) 0 with
        | none => rfl
        | some f =>
          obtain ⟨h1, h2⟩ := free_ok hR hC (Int.le_refl 0) ef
          exact absurd (h ⟨i, by simp, e⟩ f h2) h1
      show fillV r R C (done ++ [⟨i.n, freeV r R C (takenV (done ++ i :: rest)) 0, i.w⟩]) rest = _
      have ei : (⟨i.n, none, i.w⟩ : Ic) = i := by rw [← e]
      rw [no, ei, fill_id hR hC (by simpa using h)]; simp
theorem filled_id {r : Rule} {R C : Int} {is : Ics} (hR : 0 < R) (hC : 0 < C) (h : Full R C is) : filledV r R C is = is := fill_id hR hC h
theorem wok_with {ws : List (Key × D)} {n : Str} {p : Option Pl} {is : Ics} (h : WOk ws is) : WOk (dput ws (.inr n) (optD p)) (withV (one1V n p) is) := by
  intro j hj
  obtain ⟨i, hi, rfl⟩ := List.mem_map.mp hj
  rw [dget_put]
  by_cases e : i.n = n
  · have q : one1V n p i.n = some p := by unfold one1V; rw [if_pos e]
    rw [wI_some q, if_pos (by rw [e])]
  · have q : one1V n p i.n = none := by unfold one1V; rw [if_neg e]
    rw [wI_none q, if_neg (fun z => e (Sum.inr.inj z))]
    exact h i hi
theorem wok_fill {ws : List (Key × D)} {r : Rule} {R C : Int} : ∀ {rest done : Ics}, WOk ws (done ++ rest) → WOk ws (fillV r R C done rest)
  | [], done, h => by rw [List.append_nil] at h; exact h
  | i :: rest, done, h => by
    rw [fillV]
    cases e : i.p with
    | some p => exact wok_fill (by simpa using h)
    | none =>
      refine wok_fill fun j hj => ?_
      rcases List.mem_append.mp hj with q | q
      · rcases List.mem_append.mp q with q | q
        · exact h j (List.mem_append.mpr (.inl q))
        · rcases List.mem_singleton.mp q with rfl
          exact h i (by simp)
      · exact h j (List.mem_append.mpr (.inr (List.mem_cons_of_mem _ q)))
theorem fill_names {r : Rule} {R C : Int} : ∀ {rest done : Ics}, namesV (fillV r R C done rest) = namesV (done ++ rest)
  | [], done => by rw [List.append_nil]; rfl
  | i :: rest, done => by
    rw [fillV]
    cases e : i.p with
    | some p => 
      show namesV (fillV r R C (done ++ [i]) rest) = _
      rw [fill_names]; simp [namesV]
    | none => 
      show namesV (fillV r R C (done ++ [⟨i.n, _, i.w⟩]) rest) = _
      rw [fill_names]; simp [namesV]
theorem wok_mem {ws : List (Key × D)} {n : Str} {is : Ics} (h : WOk ws is) (hn : n ∈ namesV is) : ∃ d, dget ws (.inr n) = some d := by
  obtain ⟨i, hi, rfl⟩ := List.mem_map.mp hn
  exact ⟨_, h i hi⟩
theorem two_one {n m : Str} {p q : Option Pl} {is : Ics} (h : m ≠ n) : withV (one1V n p) (withV (one1V m q) is) = withV (two2V n p m q) is := by
  unfold withV
  rw [List.map_map]
  refine List.map_congr_left fun i _ => ?_
  show wI (one1V n p) (wI (one1V m q) i) = wI (two2V n p m q) i
  by_cases e : i.n = n
  · have q1 : one1V m q i.n = none := by unfold one1V; rw [if_neg (by rw [e]; exact fun z => h z.symm)]
    have q2 : one1V n p i.n = some p := by unfold one1V; rw [if_pos e]
    have q3 : two2V n p m q i.n = some p := by unfold two2V; rw [if_pos e]
    rw [wI_none q1, wI_some q2, wI_some q3]
  · by_cases e2 : i.n = m
    · have q1 : one1V m q i.n = some q := by unfold one1V; rw [if_pos e2]
      have q2 : one1V n p i.n = none := by unfold one1V; rw [if_neg e]
      have q3 : two2V n p m q i.n = some q := by unfold two2V; rw [if_neg e, if_pos e2]
      rw [wI_some q1, wI_some q3]
      exact wI_none q2
    · have q1 : one1V m q i.n = none := by unfold one1V; rw [if_neg e2]
      have q2 : one1V n p i.n = none := by unfold one1V; rw [if_neg e]
      have q3 : two2V n p m q i.n = none := by unfold two2V; rw [if_neg e, if_neg e2]
      rw [wI_none q1, wI_none q2, wI_none q3]
theorem own_nil {n : Str} {is : Ics} (h : ownV n is = []) : ∀ i ∈ is, i.n = n → i.p = none := fun i hi e => by
  cases hp : i.p with
  | none => rfl
  | some p =>
    have : i ∈ ownV n is := List.mem_filter.mpr ⟨hi, by simp [e, hp]⟩
    rw [h] at this; cases this
section
variable {cst : Str → Option D} {turns : Nat} {tab : Str → Option Def} {k : Nat} {base st : Store} {ws : List (Key × D)} {b : SO}
/-- places[n], wishes[n] = p, p -/
theorem put2_st {C : Q.Ctx} {env : Q.Env} {i j m : Nat} {n : Str} {p : Option Pl} {is : Ics} (hn : n ∈ namesV is) (hl : is.length < 1000) (hl2 : ws.length < 1000)
    (h1 : env[i]? = some (some (.loc base.length))) (h2 : env[j]? = some (some (.loc (base.length + 1)))) (h3 : env[m]? = some (some (.str n))) :
    stTs C [.subK (.var i) (.var m), .subK (.var j) (.var m)] [optD p, optD p] env (base ++ [.dct (plD is), .dct ws]) = some (env, base ++ [.dct (plD (withV (one1V n p) is)), .dct (dput ws (.inr n) (optD p))]) := by
  have a1 : _root_.Q.putK (D.loc base.length) (D.str n) (optD p) (base ++ [SO.dct (plD is), SO.dct ws]) = some (base ++ [SO.dct (plD (withV (one1V n p) is)), SO.dct ws]) := by
    rw [put_p (by rw [pl_len]; exact hl), pl_with hn]
  have a2 : _root_.Q.putK (D.loc (base.length + 1)) (D.str n) (optD p) (base ++ [SO.dct (plD (withV (one1V n p) is)), SO.dct ws]) = some (base ++ [SO.dct (plD (withV (one1V n p) is)), SO.dct (dput ws (.inr n) (optD p))]) := put_w hl2
  have e1 : ∀ d st, stT C (.subK (.var i) (.var m)) d env st = (_root_.Q.putK (D.loc base.length) (D.str n) d st).map fun st' => (env, st') := fun d st => by
    simp only [stT, List.map_cons, List.map_nil, List.length_cons, List.length_nil, Nat.reduceAdd, Nat.reduceSub, Nat.reduceLT, List.replicate, List.cons_append, List.nil_append, Go, Ev1, Ev2, Ev3, Ex1, Ex2, Q.Pl, Val1, set_name, kSet_name, kSet_tup, stTs_name, stTs_nil, setAll_cons, evl_cons, Sx, List.getElem?_cons_zero, List.getElem?_cons_succ, List.set_cons_zero, List.set_cons_succ, Option.map_some, Option.bind_some, decide_eq_true_eq, if_true, if_false, Bool.false_eq_true, asO_some, asO_no, noneX_t, noneX_i, noneX_v, noneX_n, kAug_add, kAug_sub, Isa, MkT, comp_eq, for_eq, lst_eq_nil, BEq.rfl, Nw, fStar_tup, fStar2_eq, OptE, IcE, RuleE, PlaceE, h1, h3]
  have e2 : ∀ d st, stT C (.subK (.var j) (.var m)) d env st = (_root_.Q.putK (D.loc (base.length + 1)) (D.str n) d st).map fun st' => (env, st') := fun d st => by
    simp only [stT, List.map_cons, List.map_nil, List.length_cons, List.length_nil, Nat.reduceAdd, Nat.reduceSub, Nat.reduceLT, List.replicate, List.cons_append, List.nil_append, Go, Ev1, Ev2, Ev3, Ex1, Ex2, Q.Pl, Val1, set_name, kSet_name, kSet_tup, stTs_name, stTs_nil, setAll_cons, evl_cons, Sx, List.getElem?_cons_zero, List.getElem?_cons_succ, List.set_cons_zero, List.set_cons_succ, Option.map_some, Option.bind_some, decide_eq_true_eq, if_true, if_false, Bool.false_eq_true, asO_some, asO_no, noneX_t, noneX_i, noneX_v, noneX_n, kAug_add, kAug_sub, Isa, MkT, comp_eq, for_eq, lst_eq_nil, BEq.rfl, Nw, fStar_tup, fStar2_eq, OptE, IcE, RuleE, PlaceE, h2, h3]
  simp only [stTs, e1, e2, a1, a2, Option.map_some, Option.bind_some]
theorem find_ic {i : Ic} : ∀ {is : Ics}, (namesV is).Nodup → i ∈ is → is.find? (fun j => decide (j.n = i.n)) = some i
  | [], _, h => absurd h (by simp)
  | x :: xs, nd, h => by
    have nd' : x.n ∉ namesV xs ∧ (namesV xs).Nodup := List.nodup_cons.mp nd
    rcases List.mem_cons.mp h with e | h
    · subst e; rw [List.find?_cons_of_pos (by simp)]
    · have ne : ¬ x.n = i.n := fun z => nd'.1 (List.mem_map.mpr ⟨i, h, z.symm⟩)
      rw [List.find?_cons_of_neg (by simpa using ne)]
      exact find_ic nd'.2 h
theorem compK_ics {C : Q.Ctx} {own : List (Str × Nat)} {i v : Nat} {c e : X} {env : Q.Env} {is : Ics} (G : Ic → List D) (nd : (namesV is).Nodup) (h1 : env[i]? = some (some (.loc base.length)))
    (h3 : ∀ x ∈ is, one1 C own (.name v) c e env (.str x.n) (base ++ [.lck (plD is), b]) = some (G x, base ++ [.lck (plD is), b])) (h4 : (is.flatMap G).length ≤ sizeLine) :
    ev C (.compK own (.name v) i c e) env (base ++ [.dct (plD is), b]) = some (.lst (is.flatMap G), base ++ [.dct (plD is), b]) := by
  have key := compK_run (C := C) (own := own) (t := .name v) (c := c) (e := e) (env := env) (st := base ++ [.dct (plD is), b]) (kvs := plD is) (f := fun d => match d with | .str n => (match is.find? (fun j => decide (j.n = n)) with | some x => G x | none => []) | _ => []) h1 two_p (fun d hd => by
    rw [keys_of] at hd
    obtain ⟨x, hx, rfl⟩ := List.mem_map.mp hd
    rw [two_sp, h3 x hx]
    show _ = some ((match is.find? (fun j => decide (j.n = x.n)) with | some x => G x | none => []), _)
    rw [find_ic nd hx])
  rw [keys_of, List.flatMap_map] at key
  have e2 : (is.flatMap fun a : Ic => match is.find? (fun j => decide (j.n = a.n)) with | some x => G x | none => []) = is.flatMap G := flat_cong fun a ha => by rw [find_ic nd ha]
  have key2 := key (by
    show (is.flatMap fun a : Ic => match is.find? (fun j => decide (j.n = a.n)) with | some x => G x | none => []).length ≤ _
    rw [e2]; exact h4)
  rw [key2]
  show some (D.lst (is.flatMap fun a : Ic => match is.find? (fun j => decide (j.n = a.n)) with | some x => G x | none => []), _) = _
  rw [e2]
theorem strs_nil {xs : List Str} : cmpD st .Eq (.lst (xs.map .str)) (.lst []) = some (decide (xs = [])) := by
  show deq st (.lst (xs.map .str)) (.lst []) = _
  unfold deq
  show (if (D.ok 20 (.lst (xs.map D.str)) && D.ok 20 (.lst [])) = true then some (D.eq (.lst (xs.map D.str)) (.lst [])) else none) = _
  have e1 : D.ok 20 (.lst (xs.map D.str)) = true := by
    simp only [D.ok]
    exact okL_of fun d hd => by
      obtain ⟨i, _, rfl⟩ := List.mem_map.mp hd
      simp [D.ok]
  have e2 : D.ok 20 (.lst []) = true := by simp [D.ok, D.okL]
  rw [e1, e2]
  cases xs with
  | nil => simp [D.eq, D.eqL]
  | cons i is => simp [D.eq, D.eqL]
theorem get_m {kvs : List (Key × D)} {n : Str} : methD .get (.loc base.length) [.str n] (base ++ [.dct kvs, b]) = some ((dget kvs (.inr n)).getD .non, base ++ [.dct kvs, b]) := by
  show ((dctOf (base ++ [SO.dct kvs, b]) (.loc base.length)).bind fun kv2 => (keyOf (.str n)).map fun k => ((dget kv2 k).getD .non, base ++ [SO.dct kvs, b])) = _
  simp only [dctOf, two_p]; rfl
theorem get_ok {kvs : List (Key × D)} : meOk .get (.loc base.length) (base ++ [.dct kvs, b]) = true := by
  show (dctOf (base ++ [SO.dct kvs, b]) (.loc base.length)).isSome = true
  simp only [dctOf, two_p]; rfl
theorem meth_ev {C : Q.Ctx} {f : Me} {o : X} {es : List X} {env : Q.Env} {st : Store} : ev C (.meth f o es) env st = th (fMeth C f es env) (ev C o env st) := by
  simp only [ev]
  rcases ev C o env st with _ | ⟨x, st⟩
  · rfl
  · show (if meOk f x st = true then (evL C es env st).bind _ else none) = fMeth C f es env x st
    unfold fMeth
    split
    · rcases evL C es env st with _ | ⟨ds, st⟩ <;> rfl
    · rfl
theorem lawPut (T : LawTab tab) {r : Rule} {s : Sta} {n : Str} {q : Pl} (hm : r.m < 3) (inv : Inv s) (bd : Bd s) (hq : 0 ≤ q.1 ∧ 0 ≤ q.2) (lim : Lim s.R s.C) (hw : WOk ws s.is) (hl2 : ws.length < 1000) :
    ∃ ws', callN cst turns tab (k + 4) "_law_put" [ruleD r, sizeD s.R s.C, .loc base.length, .loc (base.length + 1), .str n, placeD q] (base ++ [.dct (plD s.is), .dct ws]) = some (.non, base ++ [.dct (plD (putV r s n q).is), .dct ws']) ∧ WOk ws' (putV r s n q).is ∧ ws'.length = ws.length := by
  have hl : s.is.length < 1000 := by have := bd.len; omega
  have nd := bd.nd
  have hR0 := bd.R.1
  have hC0 := bd.C.1
  have e0 : optD (some q) = placeD q := rfl
  have on : ∀ {st : Store}, callN cst turns tab (k + 3) "_law_on" [sizeD s.R s.C, placeD q] st = some (.bl (onV s.R s.C (some q)), st) := fun {st} => lawOn (p := some q) T (fun p e => by cases e; exact hq)
  rw [call_eq (k := k + 3) T.put rfl]
  simp only [d_law_put, List.map_cons, List.map_nil, List.length_cons, List.length_nil, Nat.reduceAdd, Nat.reduceSub, Nat.reduceLT, List.replicate, List.cons_append, List.nil_append, Go, Ev1, Ev2, Ev3, Ex1, Ex2, Q.Pl, Val1, set_name, kSet_name, kSet_tup, stTs_name, stTs_nil, setAll_cons, evl_cons, Sx, List.getElem?_cons_zero, List.getElem?_cons_succ, List.set_cons_zero, List.set_cons_succ, Option.map_some, Option.bind_some, decide_eq_true_eq, if_true, if_false, Bool.false_eq_true, asO_some, asO_no, noneX_t, noneX_i, noneX_v, noneX_n, kAug_add, kAug_sub, Isa, MkT, comp_eq, for_eq, lst_eq_nil, BEq.rfl, Nw, fStar_tup, fStar2_eq, OptE, IcE, RuleE, PlaceE, meth_ev, Ex2, get_ok, get_m, on]
  unfold putV
  cases eo : ownV n s.is with
  | nil =>
    have hv : isNon ((dget (plD s.is) (.inr n)).getD .non) = true := by
      by_cases hn : n ∈ namesV s.is
      · obtain ⟨i, hi, e⟩ := List.mem_map.mp hn
        rw [← e, pl_get nd hi, own_nil eo i hi e]; rfl
      · rw [pl_none hn]; rfl
    simp only [hv, List.map_cons, List.map_nil, List.length_cons, List.length_nil, Nat.reduceAdd, Nat.reduceSub, Nat.reduceLT, List.replicate, List.cons_append, List.nil_append, Go, Ev1, Ev2, Ev3, Ex1, Ex2, Q.Pl, Val1, set_name, kSet_name, kSet_tup, stTs_name, stTs_nil, setAll_cons, evl_cons, Sx, List.getElem?_cons_zero, List.getElem?_cons_succ, List.set_cons_zero, List.set_cons_succ, Option.map_some, Option.bind_some, decide_eq_true_eq, if_true, if_false, Bool.false_eq_true, asO_some, asO_no, noneX_t, noneX_i, noneX_v, noneX_n, kAug_add, kAug_sub, Isa, MkT, comp_eq, for_eq, lst_eq_nil, BEq.rfl, Nw, fStar_tup, fStar2_eq, OptE, IcE, RuleE, PlaceE]
    exact ⟨ws, rfl, hw, rfl⟩
  | cons own lo =>
    obtain ⟨ho1, ho2, p0, ho3⟩ := own_mem eo
    have hn : n ∈ namesV s.is := List.mem_map.mpr ⟨own, ho1, ho2⟩
    have hv : isNon ((dget (plD s.is) (.inr n)).getD .non) = false := by
      rw [← ho2, pl_get nd ho1, ho3]; rfl
    cases hon : onV s.R s.C (some q) with
    | false =>
      simp only [hv, List.map_cons, List.map_nil, List.length_cons, List.length_nil, Nat.reduceAdd, Nat.reduceSub, Nat.reduceLT, List.replicate, List.cons_append, List.nil_append, Go, Ev1, Ev2, Ev3, Ex1, Ex2, Q.Pl, Val1, set_name, kSet_name, kSet_tup, stTs_name, stTs_nil, setAll_cons, evl_cons, Sx, List.getElem?_cons_zero, List.getElem?_cons_succ, List.set_cons_zero, List.set_cons_succ, Option.map_some, Option.bind_some, decide_eq_true_eq, if_true, if_false, Bool.false_eq_true, asO_some, asO_no, noneX_t, noneX_i, noneX_v, noneX_n, kAug_add, kAug_sub, Isa, MkT, comp_eq, for_eq, lst_eq_nil, BEq.rfl, Nw, fStar_tup, fStar2_eq, OptE, IcE, RuleE, PlaceE, Bool.not_false]
      exact ⟨ws, rfl, hw, rfl⟩
    | true =>
      simp only [hv, List.map_cons, List.map_nil, List.length_cons, List.length_nil, Nat.reduceAdd, Nat.reduceSub, Nat.reduceLT, List.replicate, List.cons_append, List.nil_append, Go, Ev1, Ev2, Ev3, Ex1, Ex2, Q.Pl, Val1, set_name, kSet_name, kSet_tup, stTs_name, stTs_nil, setAll_cons, evl_cons, Sx, List.getElem?_cons_zero, List.getElem?_cons_succ, List.set_cons_zero, List.set_cons_succ, Option.map_some, Option.bind_some, decide_eq_true_eq, if_true, if_false, Bool.false_eq_true, asO_some, asO_no, noneX_t, noneX_i, noneX_v, noneX_n, kAug_add, kAug_sub, Isa, MkT, comp_eq, for_eq, lst_eq_nil, BEq.rfl, Nw, fStar_tup, fStar2_eq, OptE, IcE, RuleE, PlaceE, Bool.not_true]
      have ck : ev (cx cst turns tab (k + 3)) (.compK [(("own" : Str), 7)] (.name 7) 2 (.and [.cmp .Eq (.subK (.var 2) (.var 7)) (.var 5), .cmp .NotEq (.var 7) (.var 4)]) (.var 7)) [some (ruleD r), some (sizeD s.R s.C), some (.loc base.length), some (.loc (base.length + 1)), some (.str n), some (placeD q), none, none, none, none, none] (base ++ [.dct (plD s.is), .dct ws])
          = some (.lst ((thereV n q s.is).map fun i : Ic => D.str i.n), base ++ [.dct (plD s.is), .dct ws]) := by
        have fl : (s.is.flatMap fun x : Ic => if (decide (x.p = some q) && !decide (x.n = n)) = true then [D.str x.n] else []) = (thereV n q s.is).map fun i : Ic => D.str i.n := flat_if (f := fun i : Ic => D.str i.n) (c := fun x : Ic => decide (x.p = some q) && !decide (x.n = n))
        rw [← fl]
        refine compK_ics (fun x => if (decide (x.p = some q) && !decide (x.n = n)) = true then [D.str x.n] else []) nd rfl (fun x hx => ?_) ?_
        · rw [one1_bind (env1 := [some (ruleD r), some (sizeD s.R s.C), some (.loc base.length), some (.loc (base.length + 1)), some (.str n), some (placeD q), none, some (.str x.n), none, none, none]) rfl]
          by_cases h : x.p = some q
          · by_cases h2 : x.n = n
            · have gl := get_l (base := base) (b := .dct ws) nd hx
              rw [h2] at gl
              simp [List.map_cons, List.map_nil, List.length_cons, List.length_nil, Nat.reduceAdd, Nat.reduceSub, Nat.reduceLT, List.replicate, List.cons_append, List.nil_append, Go, Ev1, Ev2, Ev3, Ex1, Ex2, Q.Pl, Val1, set_name, kSet_name, kSet_tup, stTs_name, stTs_nil, setAll_cons, evl_cons, Sx, List.getElem?_cons_zero, List.getElem?_cons_succ, List.set_cons_zero, List.set_cons_succ, Option.map_some, Option.bind_some, decide_eq_true_eq, if_true, if_false, Bool.false_eq_true, asO_some, asO_no, noneX_t, noneX_i, noneX_v, noneX_n, kAug_add, kAug_sub, Isa, MkT, comp_eq, for_eq, lst_eq_nil, BEq.rfl, Nw, fStar_tup, fStar2_eq, OptE, IcE, RuleE, PlaceE, kBl_bl, gl, h, h2]
            · simp [List.map_cons, List.map_nil, List.length_cons, List.length_nil, Nat.reduceAdd, Nat.reduceSub, Nat.reduceLT, List.replicate, List.cons_append, List.nil_append, Go, Ev1, Ev2, Ev3, Ex1, Ex2, Q.Pl, Val1, set_name, kSet_name, kSet_tup, stTs_name, stTs_nil, setAll_cons, evl_cons, Sx, List.getElem?_cons_zero, List.getElem?_cons_succ, List.set_cons_zero, List.set_cons_succ, Option.map_some, Option.bind_some, decide_eq_true_eq, if_true, if_false, Bool.false_eq_true, asO_some, asO_no, noneX_t, noneX_i, noneX_v, noneX_n, kAug_add, kAug_sub, Isa, MkT, comp_eq, for_eq, lst_eq_nil, BEq.rfl, Nw, fStar_tup, fStar2_eq, OptE, IcE, RuleE, PlaceE, kBl_bl, get_l (base := base) (b := .dct ws) nd hx, h, h2]
          · simp [List.map_cons, List.map_nil, List.length_cons, List.length_nil, Nat.reduceAdd, Nat.reduceSub, Nat.reduceLT, List.replicate, List.cons_append, List.nil_append, Go, Ev1, Ev2, Ev3, Ex1, Ex2, Q.Pl, Val1, set_name, kSet_name, kSet_tup, stTs_name, stTs_nil, setAll_cons, evl_cons, Sx, List.getElem?_cons_zero, List.getElem?_cons_succ, List.set_cons_zero, List.set_cons_succ, Option.map_some, Option.bind_some, decide_eq_true_eq, if_true, if_false, Bool.false_eq_true, asO_some, asO_no, noneX_t, noneX_i, noneX_v, noneX_n, kAug_add, kAug_sub, Isa, MkT, comp_eq, for_eq, lst_eq_nil, BEq.rfl, Nw, fStar_tup, fStar2_eq, OptE, IcE, RuleE, PlaceE, kBl_bl, get_l (base := base) (b := .dct ws) nd hx, h]
        · rw [fl, List.length_map]
          exact size_le (Nat.le_trans (List.length_filter_le _ _) (by omega))
      have sn := strs_nil (st := base ++ [.dct (plD s.is), .dct ws]) (xs := (thereV n q s.is).map Ic.n)
      rw [List.map_map] at sn
      have sn : cmpD (base ++ [.dct (plD s.is), .dct ws]) .Eq (.lst ((thereV n q s.is).map fun i : Ic => D.str i.n)) (.lst []) = some (decide ((thereV n q s.is).map Ic.n = [])) := sn
      simp only [ck, List.map_cons, List.map_nil, List.length_cons, List.length_nil, Nat.reduceAdd, Nat.reduceSub, Nat.reduceLT, List.replicate, List.cons_append, List.nil_append, Go, Ev1, Ev2, Ev3, Ex1, Ex2, Q.Pl, Val1, set_name, kSet_name, kSet_tup, stTs_name, stTs_nil, setAll_cons, evl_cons, Sx, List.getElem?_cons_zero, List.getElem?_cons_succ, List.set_cons_zero, List.set_cons_succ, Option.map_some, Option.bind_some, decide_eq_true_eq, if_true, if_false, Bool.false_eq_true, asO_some, asO_no, noneX_t, noneX_i, noneX_v, noneX_n, kAug_add, kAug_sub, Isa, MkT, comp_eq, for_eq, lst_eq_nil, BEq.rfl, Nw, fStar_tup, fStar2_eq, OptE, IcE, RuleE, PlaceE, mkL_nil, sn]
      cases et : thereV n q s.is with
      | nil =>
        have ps := put2_st (C := cx cst turns tab (k + 3)) (base := base) (ws := ws) (env := [some (ruleD r), some (sizeD s.R s.C), some (.loc base.length), some (.loc (base.length + 1)), some (.str n), some (placeD q), some (.lst []), none, none, none, none]) (i := 2) (j := 3) (m := 4) (p := some q) hn hl hl2 rfl rfl rfl
        rw [e0] at ps
        have hl3 : (withV (one1V n (some q)) s.is).length < 1000 := by rw [with_len]; exact hl
        simp only [List.map_cons, List.map_nil, List.length_cons, List.length_nil, Nat.reduceAdd, Nat.reduceSub, Nat.reduceLT, List.replicate, List.cons_append, List.nil_append, Go, Ev1, Ev2, Ev3, Ex1, Ex2, Q.Pl, Val1, set_name, kSet_name, kSet_tup, stTs_name, stTs_nil, setAll_cons, evl_cons, Sx, List.getElem?_cons_zero, List.getElem?_cons_succ, List.set_cons_zero, List.set_cons_succ, Option.map_some, Option.bind_some, decide_eq_true_eq, if_true, if_false, Bool.false_eq_true, asO_some, asO_no, noneX_t, noneX_i, noneX_v, noneX_n, kAug_add, kAug_sub, Isa, MkT, comp_eq, for_eq, lst_eq_nil, BEq.rfl, Nw, fStar_tup, fStar2_eq, OptE, IcE, RuleE, PlaceE, decide_true, ps, lawCome (k := k) T bd.R bd.C (show (namesV (withV (one1V n (some q)) s.is)).Nodup by rw [with_names]; exact nd) hl3]
        refine ⟨_, rfl, ?_, ?_⟩
        · exact wok_fill (by exact wok_with (p := some q) hw)
        · obtain ⟨d, hd⟩ := wok_mem hw hn
          exact dput_len_has hd
      | cons t lt =>
        obtain ⟨ht1, ht2, ht3⟩ := there_mem et
        have ht : t.n ∈ namesV s.is := List.mem_map.mpr ⟨t, ht1, rfl⟩
        simp only [List.map_cons, List.map_nil, List.length_cons, List.length_nil, Nat.reduceAdd, Nat.reduceSub, Nat.reduceLT, List.replicate, List.cons_append, List.nil_append, Go, Ev1, Ev2, Ev3, Ex1, Ex2, Q.Pl, Val1, set_name, kSet_name, kSet_tup, stTs_name, stTs_nil, setAll_cons, evl_cons, Sx, List.getElem?_cons_zero, List.getElem?_cons_succ, List.set_cons_zero, List.set_cons_succ, Option.map_some, Option.bind_some, decide_eq_true_eq, if_true, if_false, Bool.false_eq_true, asO_some, asO_no, noneX_t, noneX_i, noneX_v, noneX_n, kAug_add, kAug_sub, Isa, MkT, comp_eq, for_eq, lst_eq_nil, BEq.rfl, Nw, fStar_tup, fStar2_eq, OptE, IcE, RuleE, PlaceE, reduceCtorEq, decide_false]
        by_cases em : r.m = 2
        · have sw : (memS r.m == ("swap" : Str)) = true := by rw [em]; decide +kernel
          have gp := get_p (base := base) (b := .dct ws) nd ho1
          rw [ho2, ho3, show optD (some p0) = placeD p0 from rfl] at gp
          have ps1 := put2_st (C := cx cst turns tab (k + 3)) (base := base) (ws := ws) (env := [some (ruleD r), some (sizeD s.R s.C), some (.loc base.length), some (.loc (base.length + 1)), some (.str n), some (placeD q), some (.lst (.str t.n :: lt.map fun i : Ic => D.str i.n)), none, some (placeD p0), some (.str t.n), none]) (i := 2) (j := 3) (m := 9) (p := some p0) ht hl hl2 rfl rfl rfl
          obtain ⟨d1, hd1⟩ := wok_mem hw ht
          have len1 : (dput ws (.inr t.n) (placeD p0)).length = ws.length := dput_len_has hd1
          have hn1 : n ∈ namesV (withV (one1V t.n (some p0)) s.is) := by rw [with_names]; exact hn
          have w1 : WOk (dput ws (.inr t.n) (placeD p0)) (withV (one1V t.n (some p0)) s.is) := wok_with (p := some p0) hw
          have ps2 := put2_st (C := cx cst turns tab (k + 3)) (base := base) (ws := dput ws (.inr t.n) (placeD p0)) (env := [some (ruleD r), some (sizeD s.R s.C), some (.loc base.length), some (.loc (base.length + 1)), some (.str n), some (placeD q), some (.lst (.str t.n :: lt.map fun i : Ic => D.str i.n)), none, some (placeD p0), some (.str t.n), none]) (i := 2) (j := 3) (m := 4) (p := some q) hn1 (by rw [with_len]; exact hl) (by omega) rfl rfl rfl
          rw [show optD (some p0) = placeD p0 from rfl] at ps1
          rw [e0, two_one ht3] at ps2
          have iv := inv_swap inv ho1 ho2 ho3 ht1 ht2 ht3
          rw [ho3] at iv
          have fid : filledV r s.R s.C (withV (two2V n (some q) t.n (some p0)) s.is) = withV (two2V n (some q) t.n (some p0)) s.is := filled_id hR0 hC0 iv.full
          have lc := lawCome (cst := cst) (turns := turns) (k := k) (base := base) (b := .dct (dput (dput ws (.inr t.n) (placeD p0)) (.inr n) (placeD q))) T (r := r) bd.R bd.C (is := withV (two2V n (some q) t.n (some p0)) s.is) (by rw [with_names]; exact nd) (by rw [with_len]; exact hl)
          rw [fid] at lc
          simp only [List.map_cons, List.map_nil, List.length_cons, List.length_nil, Nat.reduceAdd, Nat.reduceSub, Nat.reduceLT, List.replicate, List.cons_append, List.nil_append, Go, Ev1, Ev2, Ev3, Ex1, Ex2, Q.Pl, Val1, set_name, kSet_name, kSet_tup, stTs_name, stTs_nil, setAll_cons, evl_cons, Sx, List.getElem?_cons_zero, List.getElem?_cons_succ, List.set_cons_zero, List.set_cons_succ, Option.map_some, Option.bind_some, decide_eq_true_eq, if_true, if_false, Bool.false_eq_true, asO_some, asO_no, noneX_t, noneX_i, noneX_v, noneX_n, kAug_add, kAug_sub, Isa, MkT, comp_eq, for_eq, lst_eq_nil, BEq.rfl, Nw, fStar_tup, fStar2_eq, OptE, IcE, RuleE, PlaceE, sw, gp, ps1, ps2, lc, if_pos em, ho3]
          refine ⟨_, rfl, ?_, ?_⟩
          · have w2 := wok_with (p := some q) (n := n) w1
            rw [two_one ht3] at w2
            exact w2
          · obtain ⟨d2, hd2⟩ := wok_mem w1 hn1
            rw [dput_len_has hd2, len1]
        · simp only [List.map_cons, List.map_nil, List.length_cons, List.length_nil, Nat.reduceAdd, Nat.reduceSub, Nat.reduceLT, List.replicate, List.cons_append, List.nil_append, Go, Ev1, Ev2, Ev3, Ex1, Ex2, Q.Pl, Val1, set_name, kSet_name, kSet_tup, stTs_name, stTs_nil, setAll_cons, evl_cons, Sx, List.getElem?_cons_zero, List.getElem?_cons_succ, List.set_cons_zero, List.set_cons_succ, Option.map_some, Option.bind_some, decide_eq_true_eq, if_true, if_false, Bool.false_eq_true, asO_some, asO_no, noneX_t, noneX_i, noneX_v, noneX_n, kAug_add, kAug_sub, Isa, MkT, comp_eq, for_eq, lst_eq_nil, BEq.rfl, Nw, fStar_tup, fStar2_eq, OptE, IcE, RuleE, PlaceE, swapN hm em, if_neg em]
          have fid : filledV r s.R s.C s.is = s.is := filled_id hR0 hC0 inv.full
          have lc := lawCome (cst := cst) (turns := turns) (k := k) (base := base) (b := .dct ws) T (r := r) bd.R bd.C (is := s.is) nd hl
          rw [fid] at lc
          by_cases ez : r.m = 0
          · have nx : (memS r.m == ("next" : Str)) = true := by rw [ez]; decide +kernel
            have qon : OnD s.R s.C q := onV_iff.mp hon
            have bR := big_of bd.R.1 bd.R.2
            have bC := big_of bd.C.1 bd.C.2
            have nr := num_rng (r := r) hR0 hC0 qon.1 qon.2
            have q1 := qon.1
            have q2 := qon.2
            have hR2 := bd.R.2
            have hC2 := bd.C.2
            have ixo : ∀ st, callN cst turns tab (k + 3) "_law_number" [ruleD r, sizeD s.R s.C, placeD q] st = some (.int (numV r s.R s.C q), st) := fun st => number (k := k + 2) T.number bR bC (big_in (by omega) (by omega)) (big_in (by omega) (by omega))
            have hlim : s.R * s.C ≤ 1000000000000000000000000000000000000000000000000000000000000 := lim
            have lf := lawFree (cst := cst) (turns := turns) (k := k + 1) (base := base) (b := .dct ws) T (r := r) bd.R bd.C nd (Nat.le_of_lt hl) (i := numV r s.R s.C q + 1) (by omega) (by omega)
            simp only [List.map_cons, List.map_nil, List.length_cons, List.length_nil, Nat.reduceAdd, Nat.reduceSub, Nat.reduceLT, List.replicate, List.cons_append, List.nil_append, Go, Ev1, Ev2, Ev3, Ex1, Ex2, Q.Pl, Val1, set_name, kSet_name, kSet_tup, stTs_name, stTs_nil, setAll_cons, evl_cons, Sx, List.getElem?_cons_zero, List.getElem?_cons_succ, List.set_cons_zero, List.set_cons_succ, Option.map_some, Option.bind_some, decide_eq_true_eq, if_true, if_false, Bool.false_eq_true, asO_some, asO_no, noneX_t, noneX_i, noneX_v, noneX_n, kAug_add, kAug_sub, Isa, MkT, comp_eq, for_eq, lst_eq_nil, BEq.rfl, Nw, fStar_tup, fStar2_eq, OptE, IcE, RuleE, PlaceE, nx, ixo, lf, if_pos ez]
            cases ef : freeV r s.R s.C (takenV s.is) (numV r s.R s.C q + 1) with
            | none =>
              simp only [List.map_cons, List.map_nil, List.length_cons, List.length_nil, Nat.reduceAdd, Nat.reduceSub, Nat.reduceLT, List.replicate, List.cons_append, List.nil_append, Go, Ev1, Ev2, Ev3, Ex1, Ex2, Q.Pl, Val1, set_name, kSet_name, kSet_tup, stTs_name, stTs_nil, setAll_cons, evl_cons, Sx, List.getElem?_cons_zero, List.getElem?_cons_succ, List.set_cons_zero, List.set_cons_succ, Option.map_some, Option.bind_some, decide_eq_true_eq, if_true, if_false, Bool.false_eq_true, asO_some, asO_no, noneX_t, noneX_i, noneX_v, noneX_n, kAug_add, kAug_sub, Isa, MkT, comp_eq, for_eq, lst_eq_nil, BEq.rfl, Nw, fStar_tup, fStar2_eq, OptE, IcE, RuleE, PlaceE, Option.isSome_none, Bool.not_false, Bool.not_true, lc]
              exact ⟨ws, rfl, hw, rfl⟩
            | some f =>
              have ps := put2_st (C := cx cst turns tab (k + 3)) (base := base) (ws := ws) (env := [some (ruleD r), some (sizeD s.R s.C), some (.loc base.length), some (.loc (base.length + 1)), some (.str n), some (placeD q), some (.lst (.str t.n :: lt.map fun i : Ic => D.str i.n)), none, none, none, some (optD (some f))]) (i := 2) (j := 3) (m := 4) (p := some f) hn hl hl2 rfl rfl rfl
              have hl3 : (withV (one1V n (some f)) s.is).length < 1000 := by rw [with_len]; exact hl
              simp only [List.map_cons, List.map_nil, List.length_cons, List.length_nil, Nat.reduceAdd, Nat.reduceSub, Nat.reduceLT, List.replicate, List.cons_append, List.nil_append, Go, Ev1, Ev2, Ev3, Ex1, Ex2, Q.Pl, Val1, set_name, kSet_name, kSet_tup, stTs_name, stTs_nil, setAll_cons, evl_cons, Sx, List.getElem?_cons_zero, List.getElem?_cons_succ, List.set_cons_zero, List.set_cons_succ, Option.map_some, Option.bind_some, decide_eq_true_eq, if_true, if_false, Bool.false_eq_true, asO_some, asO_no, noneX_t, noneX_i, noneX_v, noneX_n, kAug_add, kAug_sub, Isa, MkT, comp_eq, for_eq, lst_eq_nil, BEq.rfl, Nw, fStar_tup, fStar2_eq, OptE, IcE, RuleE, PlaceE, Option.isSome_some, Bool.not_true, Bool.not_false, ps, lawCome (k := k) T bd.R bd.C (show (namesV (withV (one1V n (some f)) s.is)).Nodup by rw [with_names]; exact nd) hl3]
              refine ⟨_, rfl, ?_, ?_⟩
              · exact wok_fill (by exact wok_with (p := some f) hw)
              · obtain ⟨d, hd⟩ := wok_mem hw hn
                exact dput_len_has hd
          · have nx : (memS r.m == ("next" : Str)) = false := by rw [mem_next]; exact decide_eq_false ez
            simp only [List.map_cons, List.map_nil, List.length_cons, List.length_nil, Nat.reduceAdd, Nat.reduceSub, Nat.reduceLT, List.replicate, List.cons_append, List.nil_append, Go, Ev1, Ev2, Ev3, Ex1, Ex2, Q.Pl, Val1, set_name, kSet_name, kSet_tup, stTs_name, stTs_nil, setAll_cons, evl_cons, Sx, List.getElem?_cons_zero, List.getElem?_cons_succ, List.set_cons_zero, List.set_cons_succ, Option.map_some, Option.bind_some, decide_eq_true_eq, if_true, if_false, Bool.false_eq_true, asO_some, asO_no, noneX_t, noneX_i, noneX_v, noneX_n, kAug_add, kAug_sub, Isa, MkT, comp_eq, for_eq, lst_eq_nil, BEq.rfl, Nw, fStar_tup, fStar2_eq, OptE, IcE, RuleE, PlaceE, nx, lc, if_neg ez]
            exact ⟨ws, rfl, hw, rfl⟩
end
end QL

/-! QLaw5: a deed; what is laid. -/
namespace QL
open PySem PySem.Spec L2 Q
theorem WordF : (("add" : Str) == ("add" : Str)) = true ∧ (("drop" : Str) == ("add" : Str)) = false ∧ (("put" : Str) == ("add" : Str)) = false ∧ (("size" : Str) == ("add" : Str)) = false ∧ (("sort" : Str) == ("add" : Str)) = false ∧
    (("add" : Str) == ("drop" : Str)) = false ∧ (("drop" : Str) == ("drop" : Str)) = true ∧ (("put" : Str) == ("drop" : Str)) = false ∧ (("size" : Str) == ("drop" : Str)) = false ∧ (("sort" : Str) == ("drop" : Str)) = false ∧
    (("add" : Str) == ("put" : Str)) = false ∧ (("drop" : Str) == ("put" : Str)) = false ∧ (("put" : Str) == ("put" : Str)) = true ∧ (("size" : Str) == ("put" : Str)) = false ∧ (("sort" : Str) == ("put" : Str)) = false ∧
    (("add" : Str) == ("size" : Str)) = false ∧ (("drop" : Str) == ("size" : Str)) = false ∧ (("put" : Str) == ("size" : Str)) = false ∧ (("size" : Str) == ("size" : Str)) = true ∧ (("sort" : Str) == ("size" : Str)) = false ∧
    (("add" : Str) == ("sort" : Str)) = false ∧ (("drop" : Str) == ("sort" : Str)) = false ∧ (("put" : Str) == ("sort" : Str)) = false ∧ (("size" : Str) == ("sort" : Str)) = false ∧ (("sort" : Str) == ("sort" : Str)) = true := by
  refine ⟨?_, ?_, ?_, ?_, ?_, ?_, ?_, ?_, ?_, ?_, ?_, ?_, ?_, ?_, ?_, ?_, ?_, ?_, ?_, ?_, ?_, ?_, ?_, ?_, ?_⟩ <;> decide +kernel
theorem pl_drop {n : Str} {is : Ics} : ddrop (plD is) (.inr n) = plD (dropN n is) := by
  unfold ddrop plD dropN
  rw [List.filter_map]
  congr 1
  refine List.filter_congr fun i _ => ?_
  show (!decide ((Sum.inr i.n : Key) = .inr n)) = !decide (i.n = n)
  simp
theorem pl_some {n : Str} {is : Ics} (nd : (namesV is).Nodup) : (dget (plD is) (.inr n)).isSome = decide (n ∈ namesV is) := by
  by_cases h : n ∈ namesV is
  · obtain ⟨i, hi, rfl⟩ := List.mem_map.mp h
    rw [pl_get nd hi, decide_eq_true h]; rfl
  · rw [pl_none h, decide_eq_false h]; rfl
theorem drop_id {n : Str} {is : Ics} (h : n ∉ namesV is) : dropN n is = is := List.filter_eq_self.mpr fun i hi => by
  have : ¬ i.n = n := fun z => h (List.mem_map.mpr ⟨i, hi, z⟩)
  simpa using this
theorem ixS_none {x : Str} : ∀ {ns : List Str} {k : Nat}, x ∉ ns → ixS x ns k = none
  | [], _, _ => rfl
  | y :: ys, k, h => by
    rw [List.mem_cons, not_or] at h
    rw [ixS, if_neg fun z => h.1 z.symm, ixS_none h.2]
theorem with_ix {r : Rule} {R C : Int} {n : Str} {ns : List Str} {j : Nat} {is : Ics} (h : n ∉ ns) : withV (fun x => (ixS x ns (j + 1)).map (placeV r R C)) (withV (one1V n (placeV r R C j)) is) = withV (fun x => (ixS x (n :: ns) j).map (placeV r R C)) is := by
  unfold withV
  rw [List.map_map]
  refine List.map_congr_left fun i _ => ?_
  show wI (fun x => (ixS x ns (j + 1)).map (placeV r R C)) (wI (one1V n (placeV r R C j)) i) = wI (fun x => (ixS x (n :: ns) j).map (placeV r R C)) i
  by_cases e : i.n = n
  · have q1 : one1V n (placeV r R C j) i.n = some (placeV r R C j) := by unfold one1V; rw [if_pos e]
    have q2 : (fun x => (ixS x (n :: ns) j).map (placeV r R C)) i.n = some (placeV r R C j) := by
      show (ixS i.n (n :: ns) j).map (placeV r R C) = _
      rw [ixS, if_pos e.symm]; rfl
    rw [wI_some q1]
    refine (wI_none ?_).trans (wI_some (f := fun x => (ixS x (n :: ns) j).map (placeV r R C)) q2).symm
    show (ixS i.n ns (j + 1)).map (placeV r R C) = none
    rw [ixS_none (by rw [e]; exact h)]; rfl
  · have q1 : one1V n (placeV r R C j) i.n = none := by unfold one1V; rw [if_neg e]
    rw [wI_none q1]
    unfold wI
    show (match (ixS i.n ns (j + 1)).map (placeV r R C) with | some p => (⟨i.n, p, p⟩ : Ic) | none => i) = (match (ixS i.n (n :: ns) j).map (placeV r R C) with | some p => (⟨i.n, p, p⟩ : Ic) | none => i)
    rw [ixS, if_neg fun z => e z.symm]
theorem with_nil {r : Rule} {R C : Int} {j : Nat} {is : Ics} : withV (fun x => (ixS x [] j).map (placeV r R C)) is = is := with_id fun _ _ => rfl
section
variable {cst : Str → Option D} {turns : Nat} {tab : Str → Option Def} {k : Nat} {base st : Store} {ws : List (Key × D)} {b : SO}
theorem put2_raw {C : Q.Ctx} {env : Q.Env} {i j : Nat} {ky : X} {n : Str} {v : D} {kvs : List (Key × D)} (hl : kvs.length < 1000) (hl2 : ws.length < 1000)
    (h1 : env[i]? = some (some (.loc base.length))) (h2 : env[j]? = some (some (.loc (base.length + 1)))) (h3 : ∀ st, ev C ky env st = some (.str n, st)) :
    stTs C [.subK (.var i) ky, .subK (.var j) ky] [v, v] env (base ++ [.dct kvs, .dct ws]) = some (env, base ++ [.dct (dput kvs (.inr n) v), .dct (dput ws (.inr n) v)]) := by
  have a1 : _root_.Q.putK (D.loc base.length) (D.str n) v (base ++ [SO.dct kvs, SO.dct ws]) = some (base ++ [SO.dct (dput kvs (.inr n) v), SO.dct ws]) := put_p hl
  have a2 : _root_.Q.putK (D.loc (base.length + 1)) (D.str n) v (base ++ [SO.dct (dput kvs (.inr n) v), SO.dct ws]) = some (base ++ [SO.dct (dput kvs (.inr n) v), SO.dct (dput ws (.inr n) v)]) := put_w hl2
  have e1 : ∀ d st, stT C (.subK (.var i) ky) d env st = (_root_.Q.putK (D.loc base.length) (D.str n) d st).map fun st' => (env, st') := fun d st => by
    simp only [stT, List.map_cons, List.map_nil, List.length_cons, List.length_nil, Nat.reduceAdd, Nat.reduceSub, Nat.reduceLT, List.replicate, List.cons_append, List.nil_append, Go, Ev1, Ev2, Ev3, Ex1, Ex2, Q.Pl, Val1, set_name, kSet_name, kSet_tup, stTs_name, stTs_nil, setAll_cons, evl_cons, Sx, List.getElem?_cons_zero, List.getElem?_cons_succ, List.set_cons_zero, List.set_cons_succ, Option.map_some, Option.bind_some, decide_eq_true_eq, if_true, if_false, Bool.false_eq_true, asO_some, asO_no, noneX_t, noneX_i, noneX_v, noneX_n, kAug_add, kAug_sub, Isa, MkT, comp_eq, for_eq, lst_eq_nil, BEq.rfl, Nw, fStar_tup, fStar2_eq, OptE, IcE, RuleE, PlaceE, h1, h3]
  have e2 : ∀ d st, stT C (.subK (.var j) ky) d env st = (_root_.Q.putK (D.loc (base.length + 1)) (D.str n) d st).map fun st' => (env, st') := fun d st => by
    simp only [stT, List.map_cons, List.map_nil, List.length_cons, List.length_nil, Nat.reduceAdd, Nat.reduceSub, Nat.reduceLT, List.replicate, List.cons_append, List.nil_append, Go, Ev1, Ev2, Ev3, Ex1, Ex2, Q.Pl, Val1, set_name, kSet_name, kSet_tup, stTs_name, stTs_nil, setAll_cons, evl_cons, Sx, List.getElem?_cons_zero, List.getElem?_cons_succ, List.set_cons_zero, List.set_cons_succ, Option.map_some, Option.bind_some, decide_eq_true_eq, if_true, if_false, Bool.false_eq_true, asO_some, asO_no, noneX_t, noneX_i, noneX_v, noneX_n, kAug_add, kAug_sub, Isa, MkT, comp_eq, for_eq, lst_eq_nil, BEq.rfl, Nw, fStar_tup, fStar2_eq, OptE, IcE, RuleE, PlaceE, h2, h3]
  simp only [stTs, e1, e2, a1, a2, Option.map_some, Option.bind_some]
theorem memK_p {n : Str} {is : Ics} (nd : (namesV is).Nodup) : kMemK (.str n) (.loc base.length) (base ++ [.dct (plD is), b]) = some (.bl (decide (n ∈ namesV is)), base ++ [.dct (plD is), b]) := by
  show ((dctOf (base ++ [SO.dct (plD is), b]) (.loc base.length)).bind fun kvs => (keyOf (.str n)).map fun k => ((.bl (dget kvs k).isSome : D), base ++ [SO.dct (plD is), b])) = _
  have e : dctOf (base ++ [SO.dct (plD is), b]) (.loc base.length) = some (plD is) := by simp only [dctOf, two_p]
  rw [e]
  show some (D.bl (dget (plD is) (.inr n)).isSome, _) = _
  rw [pl_some nd]
theorem notInK_p {n : Str} {is : Ics} (nd : (namesV is).Nodup) : kNotInK (.str n) (.loc base.length) (base ++ [.dct (plD is), b]) = some (.bl (!decide (n ∈ namesV is)), base ++ [.dct (plD is), b]) := by
  show ((dctOf (base ++ [SO.dct (plD is), b]) (.loc base.length)).bind fun kvs => (keyOf (.str n)).map fun k => ((.bl (!(dget kvs k).isSome) : D), base ++ [SO.dct (plD is), b])) = _
  have e : dctOf (base ++ [SO.dct (plD is), b]) (.loc base.length) = some (plD is) := by simp only [dctOf, two_p]
  rw [e]
  show some (D.bl (!(dget (plD is) (.inr n)).isSome), _) = _
  rw [pl_some nd]
theorem pop_m {n : Str} {is : Ics} (nd : (namesV is).Nodup) (h : n ∈ namesV is) : ∃ d, methD .popK (.loc base.length) [.str n] (base ++ [.dct (plD is), b]) = some (d, base ++ [.dct (plD (dropN n is)), b]) := by
  obtain ⟨i, hi, rfl⟩ := List.mem_map.mp h
  refine ⟨optD i.p, ?_⟩
  show (match (base ++ [SO.dct (plD is), b])[base.length]? with
    | some (.dct kvs) => (keyOf (.str i.n)).bind fun k => (dget kvs k).map fun d => (d, (base ++ [SO.dct (plD is), b]).set base.length (.dct (ddrop kvs k)))
    | _ => none) = _
  rw [two_p]
  show ((dget (plD is) (.inr i.n)).map fun d => (d, (base ++ [SO.dct (plD is), b]).set base.length (.dct (ddrop (plD is) (.inr i.n))))) = _
  rw [pl_get nd hi, pl_drop, two_sp]; rfl
theorem pop_ok {kvs : List (Key × D)} : meOk .popK (.loc base.length) (base ++ [.dct kvs, b]) = true := by
  show (dctOf (base ++ [SO.dct kvs, b]) (.loc base.length)).isSome = true
  simp only [dctOf, two_p]; rfl
/-! ### sort -/
def iteB : S → List S
  | .ite _ a _ => a
  | _ => []
abbrev dsF : S := (iteB (d_law_done.body.getD 3 .pass)).getD 0 .pass
abbrev dsB : List S := fBodyOf dsF
abbrev dsT : Tt := fTgtOf dsF
theorem ds_loop (T : LawTab tab) {r : Rule} {R C : Int} (hR : Big R) (hC : Big C) {x4 : Option D} : ∀ {ns : List Str} {j : Nat} {is : Ics} {ws : List (Key × D)}, ns.Nodup → (∀ x ∈ ns, x ∈ namesV is) → is.length < 1000 → ws.length < 1000 → WOk ws is → ∀ {x5 x6 x7 : Option D},
    ∃ y5 y6 y7 ws', forLoop none (bindT dsT) (exL (cx cst turns tab (k + 1)) dsB) (enumD j (ns.map .str)) [some (ruleD r), some (sizeD R C), some (.loc base.length), some (.loc (base.length + 1)), x4, x5, x6, x7] (base ++ [.dct (plD is), .dct ws])
      = some (.next, [some (ruleD r), some (sizeD R C), some (.loc base.length), some (.loc (base.length + 1)), x4, y5, y6, y7], base ++ [.dct (plD (withV (fun x => (ixS x ns j).map (placeV r R C)) is)), .dct ws']) ∧ WOk ws' (withV (fun x => (ixS x ns j).map (placeV r R C)) is) ∧ ws'.length = ws.length
  | [], j, is, ws, _, _, _, _, hw, x5, x6, x7 => by
    refine ⟨x5, x6, x7, ws, ?_, ?_, rfl⟩
    · rw [with_nil]; rfl
    · rw [with_nil]; exact hw
  | n :: ns, j, is, ws, nd, hin, hl, hl2, hw, x5, x6, x7 => by
    rw [List.nodup_cons] at nd
    have bR := big_of hR.1 hR.2
    have bC := big_of hC.1 hC.2
    have hmul : ∀ st, binD .Mult (.int R) (.int C) st = some (.int (R * C), st) := fun st => mult_ok (lt900 (Int.le_of_lt bR.1) bR.2) (lt900 (Int.le_of_lt bC.1) bC.2)
    have hn : n ∈ namesV is := hin n List.mem_cons_self
    obtain ⟨d, hd⟩ := wok_mem hw hn
    have run : exL (cx cst turns tab (k + 1)) dsB [some (ruleD r), some (sizeD R C), some (.loc base.length), some (.loc (base.length + 1)), x4, x5, some (.int ((j : Nat) : Int)), some (.str n)] (base ++ [.dct (plD is), .dct ws]) = some (.next, [some (ruleD r), some (sizeD R C), some (.loc base.length), some (.loc (base.length + 1)), x4, some (optD (placeV r R C j)), some (.int ((j : Nat) : Int)), some (.str n)], base ++ [.dct (plD (withV (one1V n (placeV r R C j)) is)), .dct (dput ws (.inr n) (optD (placeV r R C j)))]) := by
      have ps := put2_raw (C := cx cst turns tab (k + 1)) (base := base) (ws := ws) (kvs := plD is) (env := [some (ruleD r), some (sizeD R C), some (.loc base.length), some (.loc (base.length + 1)), x4, some (optD (placeV r R C j)), some (.int ((j : Nat) : Int)), some (.str n)]) (i := 2) (j := 3) (ky := .var 7) (n := n) (v := optD (placeV r R C j)) (by rw [pl_len]; exact hl) hl2 rfl rfl (fun st => by simp only [List.map_cons, List.map_nil, List.length_cons, List.length_nil, Nat.reduceAdd, Nat.reduceSub, Nat.reduceLT, List.replicate, List.cons_append, List.nil_append, Go, Ev1, Ev2, Ev3, Ex1, Ex2, Q.Pl, Val1, set_name, kSet_name, kSet_tup, stTs_name, stTs_nil, setAll_cons, evl_cons, Sx, List.getElem?_cons_zero, List.getElem?_cons_succ, List.set_cons_zero, List.set_cons_succ, Option.map_some, Option.bind_some, decide_eq_true_eq, if_true, if_false, Bool.false_eq_true, asO_some, asO_no, noneX_t, noneX_i, noneX_v, noneX_n, kAug_add, kAug_sub, Isa, MkT, comp_eq, for_eq, lst_eq_nil, BEq.rfl, Nw, fStar_tup, fStar2_eq, OptE, IcE, RuleE, PlaceE])
      rw [pl_with hn] at ps
      by_cases h : ((j : Nat) : Int) < R * C
      · have e : optD (placeV r R C j) = placeD (spotV r R C j) := by unfold placeV; rw [if_pos h]; rfl
        rw [e] at ps ⊢
        simp only [dsB, dsF, iteB, fBodyOf, d_law_done, List.getD_cons_succ, List.getD_cons_zero, List.map_cons, List.map_nil, List.length_cons, List.length_nil, Nat.reduceAdd, Nat.reduceSub, Nat.reduceLT, List.replicate, List.cons_append, List.nil_append, Go, Ev1, Ev2, Ev3, Ex1, Ex2, Q.Pl, Val1, set_name, kSet_name, kSet_tup, stTs_name, stTs_nil, setAll_cons, evl_cons, Sx, List.getElem?_cons_zero, List.getElem?_cons_succ, List.set_cons_zero, List.set_cons_succ, Option.map_some, Option.bind_some, decide_eq_true_eq, if_true, if_false, Bool.false_eq_true, asO_some, asO_no, noneX_t, noneX_i, noneX_v, noneX_n, kAug_add, kAug_sub, Isa, MkT, comp_eq, for_eq, lst_eq_nil, BEq.rfl, Nw, fStar_tup, fStar2_eq, OptE, IcE, RuleE, PlaceE, hmul, h, decide_true, spot (k := k) T.spot bR bC, ps]
      · have e : optD (placeV r R C j) = .non := by unfold placeV; rw [if_neg h]; rfl
        rw [e] at ps ⊢
        simp only [dsB, dsF, iteB, fBodyOf, d_law_done, List.getD_cons_succ, List.getD_cons_zero, List.map_cons, List.map_nil, List.length_cons, List.length_nil, Nat.reduceAdd, Nat.reduceSub, Nat.reduceLT, List.replicate, List.cons_append, List.nil_append, Go, Ev1, Ev2, Ev3, Ex1, Ex2, Q.Pl, Val1, set_name, kSet_name, kSet_tup, stTs_name, stTs_nil, setAll_cons, evl_cons, Sx, List.getElem?_cons_zero, List.getElem?_cons_succ, List.set_cons_zero, List.set_cons_succ, Option.map_some, Option.bind_some, decide_eq_true_eq, if_true, if_false, Bool.false_eq_true, asO_some, asO_no, noneX_t, noneX_i, noneX_v, noneX_n, kAug_add, kAug_sub, Isa, MkT, comp_eq, for_eq, lst_eq_nil, BEq.rfl, Nw, fStar_tup, fStar2_eq, OptE, IcE, RuleE, PlaceE, hmul, h, decide_false, ps]
    have b1 : bindT dsT (.tup [.int ((j : Nat) : Int), .str n]) [some (ruleD r), some (sizeD R C), some (.loc base.length), some (.loc (base.length + 1)), x4, x5, x6, x7] = some [some (ruleD r), some (sizeD R C), some (.loc base.length), some (.loc (base.length + 1)), x4, x5, some (.int ((j : Nat) : Int)), some (.str n)] := rfl
    have len1 : (dput ws (.inr n) (optD (placeV r R C j))).length = ws.length := dput_len_has hd
    obtain ⟨y5, y6, y7, ws', g, g2, g3⟩ := ds_loop T (r := r) hR hC (x4 := x4) (ns := ns) (j := j + 1) (is := withV (one1V n (placeV r R C j)) is) (ws := dput ws (.inr n) (optD (placeV r R C j))) nd.2 (fun x hx => by rw [with_names]; exact hin x (List.mem_cons_of_mem _ hx)) (by rw [with_len]; exact hl) (by omega) (wok_with hw) (x5 := some (optD (placeV r R C j))) (x6 := some (.int ((j : Nat) : Int))) (x7 := some (.str n))
    rw [with_ix nd.1] at g g2
    refine ⟨y5, y6, y7, ws', ?_, g2, by omega⟩
    show forLoop none _ _ (.tup [.int ((j : Nat) : Int), .str n] :: enumD (j + 1) (ns.map .str)) _ _ = _
    rw [for_next b1 run, g]
/-! ### size -/
abbrev dcF : S := (iteB (d_law_done.body.getD 4 .pass)).getD 1 .pass
abbrev dcB : List S := fBodyOf dcF
theorem dc_loop (T : LawTab tab) {R C : Int} {x0 x3 x4 x5 x6 : Option D} : ∀ {rest done : Ics}, (namesV (done ++ rest)).Nodup → (done ++ rest).length < 1000 → (∀ i ∈ rest, ∀ q, i.p = some q → 0 ≤ q.1 ∧ 0 ≤ q.2) → ∀ {x7 : Option D},
    ∃ y7, forLoop none (bindT (.name 7)) (exL (cx cst turns tab (k + 1)) dcB) (rest.map fun i : Ic => D.str i.n) [x0, some (sizeD R C), some (.loc base.length), x3, x4, x5, x6, x7] (base ++ [.dct (plD (done ++ rest)), b])
      = some (.next, [x0, some (sizeD R C), some (.loc base.length), x3, x4, x5, x6, y7], base ++ [.dct (plD (done ++ cutV R C rest)), b])
  | [], done, _, _, _, x7 => ⟨x7, rfl⟩
  | i :: rest, done, nd, hl, hp, x7 => by
    have mem : i ∈ done ++ i :: rest := by simp
    have bd : bindT (.name 7) (.str i.n) [x0, some (sizeD R C), some (.loc base.length), x3, x4, x5, x6, x7] = some [x0, some (sizeD R C), some (.loc base.length), x3, x4, x5, x6, some (.str i.n)] := rfl
    have on : callN cst turns tab (k + 1) "_law_on" [sizeD R C, optD i.p] (base ++ [.dct (plD (done ++ i :: rest)), b]) = some (.bl (onV R C i.p), base ++ [.dct (plD (done ++ i :: rest)), b]) := lawOn T (hp i List.mem_cons_self)
    let j : Ic := ⟨i.n, if onV R C i.p = true then i.p else none, i.w⟩
    have ct : cutV R C (i :: rest) = j :: cutV R C rest := rfl
    have nd2 : (namesV (done ++ j :: rest)).Nodup := mid_nd nd rfl
    have run : exL (cx cst turns tab (k + 1)) dcB [x0, some (sizeD R C), some (.loc base.length), x3, x4, x5, x6, some (.str i.n)] (base ++ [.dct (plD (done ++ i :: rest)), b]) = some (.next, [x0, some (sizeD R C), some (.loc base.length), x3, x4, x5, x6, some (.str i.n)], base ++ [.dct (plD (done ++ j :: rest)), b]) := by
      cases e : onV R C i.p with
      | true =>
        have ej : j = i := by show (⟨i.n, if onV R C i.p = true then i.p else none, i.w⟩ : Ic) = i; rw [if_pos e]
        rw [ej]
        simp only [dcB, dcF, iteB, fBodyOf, d_law_done, List.getD_cons_succ, List.getD_cons_zero, List.map_cons, List.map_nil, List.length_cons, List.length_nil, Nat.reduceAdd, Nat.reduceSub, Nat.reduceLT, List.replicate, List.cons_append, List.nil_append, Go, Ev1, Ev2, Ev3, Ex1, Ex2, Q.Pl, Val1, set_name, kSet_name, kSet_tup, stTs_name, stTs_nil, setAll_cons, evl_cons, Sx, List.getElem?_cons_zero, List.getElem?_cons_succ, List.set_cons_zero, List.set_cons_succ, Option.map_some, Option.bind_some, decide_eq_true_eq, if_true, if_false, Bool.false_eq_true, asO_some, asO_no, noneX_t, noneX_i, noneX_v, noneX_n, kAug_add, kAug_sub, Isa, MkT, comp_eq, for_eq, lst_eq_nil, BEq.rfl, Nw, fStar_tup, fStar2_eq, OptE, IcE, RuleE, PlaceE, get_p nd mem, on, e, Bool.not_true]
      | false =>
        have ej : j = ⟨i.n, none, i.w⟩ := by show (⟨i.n, if onV R C i.p = true then i.p else none, i.w⟩ : Ic) = _; rw [if_neg (by rw [e]; decide)]
        have pk : _root_.Q.putK (D.loc base.length) (D.str i.n) .non (base ++ [SO.dct (plD (done ++ i :: rest)), b]) = some (base ++ [SO.dct (plD (done ++ ⟨i.n, none, i.w⟩ :: rest)), b]) := by
          rw [put_p (by rw [pl_len]; exact hl)]
          rw [show D.non = optD none from rfl, pl_mid (w := i.w) (mid_ne nd)]
        rw [ej]
        simp only [dcB, dcF, iteB, fBodyOf, d_law_done, List.getD_cons_succ, List.getD_cons_zero, List.map_cons, List.map_nil, List.length_cons, List.length_nil, Nat.reduceAdd, Nat.reduceSub, Nat.reduceLT, List.replicate, List.cons_append, List.nil_append, Go, Ev1, Ev2, Ev3, Ex1, Ex2, Q.Pl, Val1, set_name, kSet_name, kSet_tup, stTs_name, stTs_nil, setAll_cons, evl_cons, Sx, List.getElem?_cons_zero, List.getElem?_cons_succ, List.set_cons_zero, List.set_cons_succ, Option.map_some, Option.bind_some, decide_eq_true_eq, if_true, if_false, Bool.false_eq_true, asO_some, asO_no, noneX_t, noneX_i, noneX_v, noneX_n, kAug_add, kAug_sub, Isa, MkT, comp_eq, for_eq, lst_eq_nil, BEq.rfl, Nw, fStar_tup, fStar2_eq, OptE, IcE, RuleE, PlaceE, get_p nd mem, on, e, Bool.not_false, ex_putK, Ex2, pk]
    obtain ⟨y7, g⟩ := dc_loop T (R := R) (C := C) (x0 := x0) (x3 := x3) (x4 := x4) (x5 := x5) (x6 := x6) (rest := rest) (done := done ++ [j]) (by simpa using nd2) (by simpa using hl) (fun i hi => hp i (List.mem_cons_of_mem _ hi)) (x7 := some (.str i.n))
    refine ⟨y7, ?_⟩
    rw [show done ++ [j] ++ rest = done ++ j :: rest by simp, show done ++ [j] ++ cutV R C rest = done ++ j :: cutV R C rest by simp] at g
    rw [List.map_cons, for_next bd run, ct, g]
end
end QL

/-! QLaw6: the law's laying is the program's. -/
namespace QL
open PySem PySem.Spec L2 Q
def LimAll (r : Rule) : Sta → List Deed → Prop
  | s, [] => Lim s.R s.C
  | s, d :: ds => Lim s.R s.C ∧ LimAll r (afterV r s d) ds
theorem LimAll.head {r : Rule} {s : Sta} {ds : List Deed} (h : LimAll r s ds) : Lim s.R s.C := by
  cases ds with
  | nil => exact h
  | cons d ds => exact h.1
theorem wok_cut {ws : List (Key × D)} {R C : Int} {is : Ics} (h : WOk ws is) : WOk ws (cutV R C is) := by
  intro j hj
  obtain ⟨i, hi, rfl⟩ := List.mem_map.mp hj
  exact h i hi
theorem wok_iter {ws : List (Key × D)} {R C : Int} : ∀ {n : Nat} {is : Ics}, WOk ws is → WOk ws (iterB R C n is)
  | 0, _, h => h
  | n + 1, is, h => wok_iter (n := n) (back_wok h)
theorem iter_names {R C : Int} : ∀ {n : Nat} {is : Ics}, namesV (iterB R C n is) = namesV is
  | 0, _ => rfl
  | n + 1, is => by
    show namesV (iterB R C n (backV R C is)) = _
    rw [iter_names, back_names]
theorem wok_drop {ws : List (Key × D)} {n : Str} {is : Ics} (h : WOk ws is) : WOk ws (dropN n is) := fun i hi => h i (List.mem_filter.mp hi).1
theorem nd_drop {n : Str} {is : Ics} (h : (namesV is).Nodup) : (namesV (dropN n is)).Nodup := List.Nodup.sublist (List.Sublist.map _ List.filter_sublist) h
theorem wok_add {ws : List (Key × D)} {n : Str} {p : Option Pl} {is : Ics} (h : WOk ws is) (hn : n ∉ namesV is) : WOk (dput ws (.inr n) (optD p)) (is ++ [⟨n, p, p⟩]) := by
  intro i hi
  rw [dget_put]
  rcases List.mem_append.mp hi with q | q
  · have : ¬ i.n = n := fun z => hn (List.mem_map.mpr ⟨i, q, z⟩)
    rw [if_neg fun z => this (Sum.inr.inj z)]
    exact h i q
  · rcases List.mem_singleton.mp q with rfl
    rw [if_pos rfl]
section
variable {cst : Str → Option D} {turns : Nat} {tab : Str → Option Def} {k : Nat} {base st : Store} {ws : List (Key × D)} {b : SO}
theorem sorted_p {is : Ics} (hl : is.length < 64) : biD .sorted false [.lst (is.map fun i : Ic => D.str i.n)] st = some (.lst ((sortS (namesV is)).map .str), st) := by
  rw [names_of]
  exact sorted_d (by unfold namesV; rw [List.length_map]; exact hl)
theorem lawDone (T : LawTab tab) (hT : 1002 ≤ turns) {r : Rule} {s : Sta} {d : Deed} (hm : r.m < 3) (inv : Inv s) (bd : Bd s) (bd2 : Bd (afterV r s d)) (od : okDeed d) (lim : Lim s.R s.C) (hw : WOk ws s.is) (hl2 : ws.length < 1000) :
    ∃ ws', callN cst turns tab (k + 5) "_law_done" [ruleD r, sizeD s.R s.C, .loc base.length, .loc (base.length + 1), deedD d] (base ++ [.dct (plD s.is), .dct ws]) = some (sizeD (afterV r s d).R (afterV r s d).C, base ++ [.dct (plD (afterV r s d).is), .dct ws']) ∧ WOk ws' (afterV r s d).is ∧ ws'.length ≤ ws.length + 1 := by
  have hl : s.is.length < 1000 := by have := bd.len; omega
  have nd := bd.nd
  rw [call_eq (k := k + 4) T.done rfl]
  cases d with
  | add n =>
    by_cases hn : n ∈ namesV s.is
    · have ev : afterV r s (.add n) = s := by show addedV r s n = s; unfold addedV; rw [if_pos hn]
      rw [ev]
      simp only [d_law_done, deedD, List.map_cons, List.map_nil, List.length_cons, List.length_nil, Nat.reduceAdd, Nat.reduceSub, Nat.reduceLT, List.replicate, List.cons_append, List.nil_append, Go, Ev1, Ev2, Ev3, Ex1, Ex2, Q.Pl, Val1, set_name, kSet_name, kSet_tup, stTs_name, stTs_nil, setAll_cons, evl_cons, Sx, List.getElem?_cons_zero, List.getElem?_cons_succ, List.set_cons_zero, List.set_cons_succ, Option.map_some, Option.bind_some, decide_eq_true_eq, if_true, if_false, Bool.false_eq_true, asO_some, asO_no, noneX_t, noneX_i, noneX_v, noneX_n, kAug_add, kAug_sub, Isa, MkT, comp_eq, for_eq, lst_eq_nil, BEq.rfl, Nw, fStar_tup, fStar2_eq, OptE, IcE, RuleE, PlaceE, WordF, notInK_p (base := base) (b := .dct ws) nd, hn, decide_true, Bool.not_true]
      exact ⟨ws, rfl, hw, Nat.le_succ _⟩
    · have ev : afterV r s (.add n) = ⟨s.R, s.C, s.is ++ [⟨n, freeV r s.R s.C (takenV s.is) 0, freeV r s.R s.C (takenV s.is) 0⟩]⟩ := by show addedV r s n = _; unfold addedV; rw [if_neg hn]
      rw [ev]
      have lf := lawFree (cst := cst) (turns := turns) (k := k + 2) (base := base) (b := .dct ws) T (r := r) bd.R bd.C nd (Nat.le_of_lt hl) (i := 0) (Int.le_refl 0) (by omega)
      have ps := put2_raw (C := cx cst turns tab (k + 4)) (base := base) (ws := ws) (kvs := plD s.is) (env := [some (ruleD r), some (sizeD s.R s.C), some (.loc base.length), some (.loc (base.length + 1)), some (.tup [.str "add", .str n]), some (optD (freeV r s.R s.C (takenV s.is) 0)), none, none]) (i := 2) (j := 3) (ky := .sub (.var 4) (.int 1)) (n := n) (v := optD (freeV r s.R s.C (takenV s.is) 0)) (by rw [pl_len]; exact hl) hl2 rfl rfl (fun st => by simp only [List.map_cons, List.map_nil, List.length_cons, List.length_nil, Nat.reduceAdd, Nat.reduceSub, Nat.reduceLT, List.replicate, List.cons_append, List.nil_append, Go, Ev1, Ev2, Ev3, Ex1, Ex2, Q.Pl, Val1, set_name, kSet_name, kSet_tup, stTs_name, stTs_nil, setAll_cons, evl_cons, Sx, List.getElem?_cons_zero, List.getElem?_cons_succ, List.set_cons_zero, List.set_cons_succ, Option.map_some, Option.bind_some, decide_eq_true_eq, if_true, if_false, Bool.false_eq_true, asO_some, asO_no, noneX_t, noneX_i, noneX_v, noneX_n, kAug_add, kAug_sub, Isa, MkT, comp_eq, for_eq, lst_eq_nil, BEq.rfl, Nw, fStar_tup, fStar2_eq, OptE, IcE, RuleE, PlaceE])
      rw [pl_new (w := freeV r s.R s.C (takenV s.is) 0) hn] at ps
      simp only [d_law_done, deedD, List.map_cons, List.map_nil, List.length_cons, List.length_nil, Nat.reduceAdd, Nat.reduceSub, Nat.reduceLT, List.replicate, List.cons_append, List.nil_append, Go, Ev1, Ev2, Ev3, Ex1, Ex2, Q.Pl, Val1, set_name, kSet_name, kSet_tup, stTs_name, stTs_nil, setAll_cons, evl_cons, Sx, List.getElem?_cons_zero, List.getElem?_cons_succ, List.set_cons_zero, List.set_cons_succ, Option.map_some, Option.bind_some, decide_eq_true_eq, if_true, if_false, Bool.false_eq_true, asO_some, asO_no, noneX_t, noneX_i, noneX_v, noneX_n, kAug_add, kAug_sub, Isa, MkT, comp_eq, for_eq, lst_eq_nil, BEq.rfl, Nw, fStar_tup, fStar2_eq, OptE, IcE, RuleE, PlaceE, WordF, notInK_p (base := base) (b := .dct ws) nd, hn, decide_false, Bool.not_false, lf, ps]
      exact ⟨_, rfl, wok_add hw hn, dput_len⟩
  | drop n =>
    by_cases hn : n ∈ namesV s.is
    · have ev : afterV r s (.drop n) = ⟨s.R, s.C, filledV r s.R s.C (dropN n s.is)⟩ := rfl
      rw [ev]
      obtain ⟨d, pm⟩ := pop_m (base := base) (b := .dct ws) nd hn
      have dl := drop_len (n := n) (is := s.is)
      have lc := lawCome (cst := cst) (turns := turns) (k := k + 1) (base := base) (b := .dct ws) T (r := r) bd.R bd.C (is := dropN n s.is) (nd_drop nd) (by omega)
      simp only [d_law_done, deedD, List.map_cons, List.map_nil, List.length_cons, List.length_nil, Nat.reduceAdd, Nat.reduceSub, Nat.reduceLT, List.replicate, List.cons_append, List.nil_append, Go, Ev1, Ev2, Ev3, Ex1, Ex2, Q.Pl, Val1, set_name, kSet_name, kSet_tup, stTs_name, stTs_nil, setAll_cons, evl_cons, Sx, List.getElem?_cons_zero, List.getElem?_cons_succ, List.set_cons_zero, List.set_cons_succ, Option.map_some, Option.bind_some, decide_eq_true_eq, if_true, if_false, Bool.false_eq_true, asO_some, asO_no, noneX_t, noneX_i, noneX_v, noneX_n, kAug_add, kAug_sub, Isa, MkT, comp_eq, for_eq, lst_eq_nil, BEq.rfl, Nw, fStar_tup, fStar2_eq, OptE, IcE, RuleE, PlaceE, WordF, memK_p (base := base) (b := .dct ws) nd, hn, decide_true, meth_ev, Ex2, pop_ok, pm, lc]
      exact ⟨ws, rfl, wok_fill (by exact wok_drop hw), Nat.le_succ _⟩
    · have ev : afterV r s (.drop n) = s := by
        show (⟨s.R, s.C, filledV r s.R s.C (dropN n s.is)⟩ : Sta) = s
        rw [drop_id hn, filled_id bd.R.1 bd.C.1 inv.full]
      rw [ev]
      simp only [d_law_done, deedD, List.map_cons, List.map_nil, List.length_cons, List.length_nil, Nat.reduceAdd, Nat.reduceSub, Nat.reduceLT, List.replicate, List.cons_append, List.nil_append, Go, Ev1, Ev2, Ev3, Ex1, Ex2, Q.Pl, Val1, set_name, kSet_name, kSet_tup, stTs_name, stTs_nil, setAll_cons, evl_cons, Sx, List.getElem?_cons_zero, List.getElem?_cons_succ, List.set_cons_zero, List.set_cons_succ, Option.map_some, Option.bind_some, decide_eq_true_eq, if_true, if_false, Bool.false_eq_true, asO_some, asO_no, noneX_t, noneX_i, noneX_v, noneX_n, kAug_add, kAug_sub, Isa, MkT, comp_eq, for_eq, lst_eq_nil, BEq.rfl, Nw, fStar_tup, fStar2_eq, OptE, IcE, RuleE, PlaceE, WordF, memK_p (base := base) (b := .dct ws) nd, hn, decide_false]
      exact ⟨ws, rfl, hw, Nat.le_succ _⟩
  | put n a c =>
    obtain ⟨ws', g, g2, g3⟩ := lawPut (cst := cst) (turns := turns) (k := k) (base := base) (ws := ws) T (r := r) (s := s) (n := n) (q := (a, c)) hm inv bd ⟨od.1.1, od.2.1⟩ lim hw hl2
    have g' : callN cst turns tab (k + 4) "_law_put" [ruleD r, sizeD s.R s.C, .loc base.length, .loc (base.length + 1), .str n, .tup [.int a, .int c]] (base ++ [.dct (plD s.is), .dct ws]) = some (.non, base ++ [.dct (plD (putV r s n (a, c)).is), .dct ws']) := g
    have eR : (afterV r s (.put n a c)).R = s.R := by
      show (putV r s n (a, c)).R = s.R
      unfold putV
      repeat' split
      all_goals rfl
    have eC : (afterV r s (.put n a c)).C = s.C := by
      show (putV r s n (a, c)).C = s.C
      unfold putV
      repeat' split
      all_goals rfl
    rw [eR, eC]
    simp only [d_law_done, deedD, List.map_cons, List.map_nil, List.length_cons, List.length_nil, Nat.reduceAdd, Nat.reduceSub, Nat.reduceLT, List.replicate, List.cons_append, List.nil_append, Go, Ev1, Ev2, Ev3, Ex1, Ex2, Q.Pl, Val1, set_name, kSet_name, kSet_tup, stTs_name, stTs_nil, setAll_cons, evl_cons, Sx, List.getElem?_cons_zero, List.getElem?_cons_succ, List.set_cons_zero, List.set_cons_succ, Option.map_some, Option.bind_some, decide_eq_true_eq, if_true, if_false, Bool.false_eq_true, asO_some, asO_no, noneX_t, noneX_i, noneX_v, noneX_n, kAug_add, kAug_sub, Isa, MkT, comp_eq, for_eq, lst_eq_nil, BEq.rfl, Nw, fStar_tup, fStar2_eq, OptE, IcE, RuleE, PlaceE, WordF, g']
    exact ⟨ws', rfl, g2, by omega⟩
  | sort =>
    obtain ⟨y5, y6, y7, ws', g, g2, g3⟩ := ds_loop (cst := cst) (turns := turns) (k := k + 3) (base := base) T (r := r) bd.R bd.C (x4 := some (.tup [.str "sort"])) (ns := sortS (namesV s.is)) (j := 0) (is := s.is) (ws := ws) ((sortS_perm _).nodup_iff.mpr nd) (fun x hx => (sortS_perm _).mem_iff.mp hx) hl hl2 hw (x5 := none) (x6 := none) (x7 := none)
    have ev : afterV r s .sort = ⟨s.R, s.C, withV (fun x => (ixS x (sortS (namesV s.is)) 0).map (placeV r s.R s.C)) s.is⟩ := rfl
    rw [ev]
    simp only [dsB, dsT, dsF, iteB, fBodyOf, fTgtOf, d_law_done, List.getD_cons_succ, List.getD_cons_zero] at g
    simp only [d_law_done, deedD, List.map_cons, List.map_nil, List.length_cons, List.length_nil, Nat.reduceAdd, Nat.reduceSub, Nat.reduceLT, List.replicate, List.cons_append, List.nil_append, Go, Ev1, Ev2, Ev3, Ex1, Ex2, Q.Pl, Val1, set_name, kSet_name, kSet_tup, stTs_name, stTs_nil, setAll_cons, evl_cons, Sx, List.getElem?_cons_zero, List.getElem?_cons_succ, List.set_cons_zero, List.set_cons_succ, Option.map_some, Option.bind_some, decide_eq_true_eq, if_true, if_false, Bool.false_eq_true, asO_some, asO_no, noneX_t, noneX_i, noneX_v, noneX_n, kAug_add, kAug_sub, Isa, MkT, comp_eq, for_eq, lst_eq_nil, BEq.rfl, Nw, fStar_tup, fStar2_eq, OptE, IcE, RuleE, PlaceE, WordF, list_keys (Nat.le_of_lt hl), sorted_p bd.len, enum_lst, g]
    exact ⟨ws', rfl, g2, by omega⟩
  | size a c =>
    have hp : ∀ i ∈ s.is, ∀ q, i.p = some q → 0 ≤ q.1 ∧ 0 ≤ q.2 := fun i hi q e => by
      have o := inv.pre.on q (mem_taken.mpr ⟨i, hi, e⟩)
      exact ⟨o.1.1, o.2.1⟩
    have bR2 : Big (moreV s.R a) := bd2.R
    have bC2 : Big (moreV s.C c) := bd2.C
    have ndc : (namesV (cutV (moreV s.R a) (moreV s.C c) s.is)).Nodup := by rw [names_cut]; exact nd
    have lc : (cutV (moreV s.R a) (moreV s.C c) s.is).length < 1000 := by rw [cut_len]; exact hl
    obtain ⟨y7, g⟩ := dc_loop (cst := cst) (turns := turns) (k := k + 3) (base := base) (b := .dct ws) T (R := moreV s.R a) (C := moreV s.C c) (x0 := some (ruleD r)) (x3 := some (.loc (base.length + 1))) (x4 := some (.tup [.str "size", .int a, .int c])) (x5 := none) (x6 := none) (rest := s.is) (done := []) nd hl hp (x7 := none)
    simp only [dcB, dcF, iteB, fBodyOf, d_law_done, List.getD_cons_succ, List.getD_cons_zero, List.nil_append, sizeD] at g
    have mv1 : (if s.R + a > 1 then s.R + a else 1) = moreV s.R a := rfl
    have mv2 : (if s.C + c > 1 then s.C + c else 1) = moreV s.C c := rfl
    cases er : r.b with
    | false =>
      have ev : afterV r s (.size a c) = ⟨moreV s.R a, moreV s.C c, filledV r (moreV s.R a) (moreV s.C c) (cutV (moreV s.R a) (moreV s.C c) s.is)⟩ := by
        show resizedV r s a c = _
        unfold resizedV; rw [er]; rfl
      rw [ev]
      have come := lawCome (cst := cst) (turns := turns) (k := k + 1) (base := base) (b := .dct ws) T (r := r) bR2 bC2 ndc lc
      simp only [sizeD] at come
      simp only [d_law_done, deedD, List.map_cons, List.map_nil, List.length_cons, List.length_nil, Nat.reduceAdd, Nat.reduceSub, Nat.reduceLT, List.replicate, List.cons_append, List.nil_append, Go, Ev1, Ev2, Ev3, Ex1, Ex2, Q.Pl, Val1, set_name, kSet_name, kSet_tup, stTs_name, stTs_nil, setAll_cons, evl_cons, Sx, List.getElem?_cons_zero, List.getElem?_cons_succ, List.set_cons_zero, List.set_cons_succ, Option.map_some, Option.bind_some, decide_eq_true_eq, if_true, if_false, Bool.false_eq_true, asO_some, asO_no, noneX_t, noneX_i, noneX_v, noneX_n, kAug_add, kAug_sub, Isa, MkT, comp_eq, for_eq, lst_eq_nil, BEq.rfl, Nw, fStar_tup, fStar2_eq, OptE, IcE, RuleE, PlaceE, WordF, max_eq, mv1, mv2, list_keys (Nat.le_of_lt hl), g, er, come]
      exact ⟨ws, rfl, wok_fill (by exact wok_cut hw), Nat.le_succ _⟩
    | true =>
      have ev : afterV r s (.size a c) = ⟨moreV s.R a, moreV s.C c, filledV r (moreV s.R a) (moreV s.C c) (iterB (moreV s.R a) (moreV s.C c) (2 * s.is.length + 1) (cutV (moreV s.R a) (moreV s.C c) s.is))⟩ := by
        show resizedV r s a c = _
        unfold resizedV; rw [er]; rfl
      rw [ev]
      have nw : NonW (cutV (moreV s.R a) (moreV s.C c) s.is) := fun j hj q e => by
        obtain ⟨i, hi, rfl⟩ := List.mem_map.mp hj
        exact inv.pre.ws i hi q e
      have back := lawBack (cst := cst) (turns := turns) (k := k + 2) (base := base) (ws := ws) T hT (R := moreV s.R a) (C := moreV s.C c) ndc lc (wok_cut hw) nw (N := 2 * s.is.length + 1) (by rw [cut_len]; omega)
      have come := lawCome (cst := cst) (turns := turns) (k := k + 1) (base := base) (b := .dct ws) T (r := r) bR2 bC2 (is := iterB (moreV s.R a) (moreV s.C c) (2 * s.is.length + 1) (cutV (moreV s.R a) (moreV s.C c) s.is)) (by rw [iter_names]; exact ndc) (by rw [iterB_len]; exact lc)
      simp only [sizeD] at come back
      simp only [d_law_done, deedD, List.map_cons, List.map_nil, List.length_cons, List.length_nil, Nat.reduceAdd, Nat.reduceSub, Nat.reduceLT, List.replicate, List.cons_append, List.nil_append, Go, Ev1, Ev2, Ev3, Ex1, Ex2, Q.Pl, Val1, set_name, kSet_name, kSet_tup, stTs_name, stTs_nil, setAll_cons, evl_cons, Sx, List.getElem?_cons_zero, List.getElem?_cons_succ, List.set_cons_zero, List.set_cons_succ, Option.map_some, Option.bind_some, decide_eq_true_eq, if_true, if_false, Bool.false_eq_true, asO_some, asO_no, noneX_t, noneX_i, noneX_v, noneX_n, kAug_add, kAug_sub, Isa, MkT, comp_eq, for_eq, lst_eq_nil, BEq.rfl, Nw, fStar_tup, fStar2_eq, OptE, IcE, RuleE, PlaceE, WordF, max_eq, mv1, mv2, list_keys (Nat.le_of_lt hl), g, er, back, come]
      exact ⟨ws, rfl, wok_fill (by exact wok_iter (wok_cut hw)), Nat.le_succ _⟩
abbrev llB : List S := fBodyOf (d_law_laid.body.getD 1 .pass)
theorem ll_loop (T : LawTab tab) (hT : 1002 ≤ turns) {r : Rule} (hm : r.m < 3) {x2 x6 : Option D} : ∀ {ds : List Deed} {s : Sta} {ws : List (Key × D)} {x5 : Option D}, Inv s → BdAll r s ds → LimAll r s ds → (∀ d ∈ ds, okDeed d) → WOk ws s.is → ws.length + ds.length < 1000 →
    ∃ y5 ws', forLoop none (bindT (.name 5)) (exL (cx cst turns tab (k + 5)) llB) (ds.map deedD) [some (ruleD r), some (sizeD s.R s.C), x2, some (.loc base.length), some (.loc (base.length + 1)), x5, x6] (base ++ [.dct (plD s.is), .dct ws])
      = some (.next, [some (ruleD r), some (sizeD (lastV r s ds).R (lastV r s ds).C), x2, some (.loc base.length), some (.loc (base.length + 1)), y5, x6], base ++ [.dct (plD (lastV r s ds).is), .dct ws'])
  | [], s, ws, x5, _, _, _, _, _, _ => ⟨x5, ws, rfl⟩
  | d :: ds, s, ws, x5, inv, hb, hlm, od, hw, hl => by
    rw [List.length_cons] at hl
    obtain ⟨ws1, g, g2, g3⟩ := lawDone (cst := cst) (turns := turns) (k := k) (base := base) (ws := ws) T hT (r := r) (s := s) (d := d) hm inv hb.1 hb.2.head (od d List.mem_cons_self) hlm.1 hw (by omega)
    have run : exL (cx cst turns tab (k + 5)) llB [some (ruleD r), some (sizeD s.R s.C), x2, some (.loc base.length), some (.loc (base.length + 1)), some (deedD d), x6] (base ++ [.dct (plD s.is), .dct ws]) = some (.next, [some (ruleD r), some (sizeD (afterV r s d).R (afterV r s d).C), x2, some (.loc base.length), some (.loc (base.length + 1)), some (deedD d), x6], base ++ [.dct (plD (afterV r s d).is), .dct ws1]) := by
      simp only [llB, fBodyOf, d_law_laid, List.getD_cons_succ, List.getD_cons_zero, List.map_cons, List.map_nil, List.length_cons, List.length_nil, Nat.reduceAdd, Nat.reduceSub, Nat.reduceLT, List.replicate, List.cons_append, List.nil_append, Go, Ev1, Ev2, Ev3, Ex1, Ex2, Q.Pl, Val1, set_name, kSet_name, kSet_tup, stTs_name, stTs_nil, setAll_cons, evl_cons, Sx, List.getElem?_cons_zero, List.getElem?_cons_succ, List.set_cons_zero, List.set_cons_succ, Option.map_some, Option.bind_some, decide_eq_true_eq, if_true, if_false, Bool.false_eq_true, asO_some, asO_no, noneX_t, noneX_i, noneX_v, noneX_n, kAug_add, kAug_sub, Isa, MkT, comp_eq, for_eq, lst_eq_nil, BEq.rfl, Nw, fStar_tup, fStar2_eq, OptE, IcE, RuleE, PlaceE, g]
    obtain ⟨y5, ws', g4⟩ := ll_loop T hT hm (x2 := x2) (x6 := x6) (ds := ds) (s := afterV r s d) (ws := ws1) (x5 := some (deedD d)) (inv_after inv (od d List.mem_cons_self)) hb.2 hlm.2 (fun e he => od e (List.mem_cons_of_mem _ he)) g2 (by omega)
    refine ⟨y5, ws', ?_⟩
    rw [List.map_cons, for_next (env1 := [some (ruleD r), some (sizeD s.R s.C), x2, some (.loc base.length), some (.loc (base.length + 1)), some (deedD d), x6]) rfl run, g4]; rfl
theorem lawLaid (T : LawTab tab) (hT : 1002 ≤ turns) {r : Rule} (hm : r.m < 3) {R C : Int} {ds : List Deed} (hR : 1 ≤ R) (hC : 1 ≤ C) (hb : BdAll r ⟨R, C, []⟩ ds) (hlm : LimAll r ⟨R, C, []⟩ ds) (od : ∀ d ∈ ds, okDeed d) (hl : ds.length < 1000) :
    ∃ ex, callN cst turns tab (k + 6) "_law_laid" [ruleD r, sizeD R C, rowD ds] st = some (shownD (lastV r ⟨R, C, []⟩ ds), st ++ ex) := by
  obtain ⟨y5, ws', g⟩ := ll_loop (cst := cst) (turns := turns) (k := k) (base := st) T hT (r := r) hm (x2 := some (rowD ds)) (x6 := none) (ds := ds) (s := ⟨R, C, []⟩) (ws := []) (x5 := none) (inv_empty hR hC) hb hlm od (fun i hi => absurd hi (by simp)) (by simpa using hl)
  have b := hb.last
  rw [call_eq (k := k + 5) T.laid rfl]
  have st2 : ∀ st : Store, st ++ [SO.dct []] ++ [SO.dct []] = st ++ [SO.dct [], SO.dct []] := fun st => by rw [List.append_assoc]; rfl
  have ln2 : (st ++ [SO.dct []]).length = st.length + 1 := by rw [List.length_append]; rfl
  simp only [llB, fBodyOf, d_law_laid, List.getD_cons_succ, List.getD_cons_zero, show plD ([] : Ics) = [] from rfl] at g
  simp only [d_law_laid, List.map_cons, List.map_nil, List.length_cons, List.length_nil, Nat.reduceAdd, Nat.reduceSub, Nat.reduceLT, List.replicate, List.cons_append, List.nil_append, Go, Ev1, Ev2, Ev3, Ex1, Ex2, Q.Pl, Val1, set_name, kSet_name, kSet_tup, stTs_name, stTs_nil, setAll_cons, evl_cons, Sx, List.getElem?_cons_zero, List.getElem?_cons_succ, List.set_cons_zero, List.set_cons_succ, Option.map_some, Option.bind_some, decide_eq_true_eq, if_true, if_false, Bool.false_eq_true, asO_some, asO_no, noneX_t, noneX_i, noneX_v, noneX_n, kAug_add, kAug_sub, Isa, MkT, comp_eq, for_eq, lst_eq_nil, BEq.rfl, Nw, fStar_tup, fStar2_eq, OptE, IcE, RuleE, PlaceE, evl_nil, dct0, ln2, st2, src_row, g, list_keys (show (lastV r ⟨R, C, []⟩ ds).is.length ≤ 1000 by have := b.len; omega), sorted_p b.len]
  rw [← sortI_names, show (namesV (sortI (lastV r ⟨R, C, []⟩ ds).is)).map D.str = (sortI (lastV r ⟨R, C, []⟩ ds).is).map fun i : Ic => D.str i.n by unfold namesV; rw [List.map_map]; rfl]
  have le : (sortI (lastV r ⟨R, C, []⟩ ds).is).length ≤ 1000000 := by rw [sortI_len]; have := b.len; omega
  rw [loop_flat (F := fun i : Ic => D.str i.n) (G := fun i => [pairD i]) fun i hi => by
    have mem := (sortI_perm _).mem_iff.mp hi
    rw [one1_bind (env1 := [some (ruleD r), some (sizeD (lastV r ⟨R, C, []⟩ ds).R (lastV r ⟨R, C, []⟩ ds).C), some (rowD ds), some (.loc st.length), some (.loc (st.length + 1)), y5, some (.str i.n)]) rfl]
    simp only [List.map_cons, List.map_nil, List.length_cons, List.length_nil, Nat.reduceAdd, Nat.reduceSub, Nat.reduceLT, List.replicate, List.cons_append, List.nil_append, Go, Ev1, Ev2, Ev3, Ex1, Ex2, Q.Pl, Val1, set_name, kSet_name, kSet_tup, stTs_name, stTs_nil, setAll_cons, evl_cons, Sx, List.getElem?_cons_zero, List.getElem?_cons_succ, List.set_cons_zero, List.set_cons_succ, Option.map_some, Option.bind_some, decide_eq_true_eq, if_true, if_false, Bool.false_eq_true, asO_some, asO_no, noneX_t, noneX_i, noneX_v, noneX_n, kAug_add, kAug_sub, Isa, MkT, comp_eq, for_eq, lst_eq_nil, BEq.rfl, Nw, fStar_tup, fStar2_eq, OptE, IcE, RuleE, PlaceE, kBl_bl, get_p b.nd mem]; rfl]
  rw [flat_one (f := pairD), endC_ok (size_le (by rw [List.length_map]; exact le))]
  have e3 : ∀ st, biD .tuple false [.lst ((sortI (lastV r ⟨R, C, []⟩ ds).is).map pairD)] st = some (.tup ((sortI (lastV r ⟨R, C, []⟩ ds).is).map pairD), st) := fun st => tup_of (by rw [List.length_map]; exact le)
  simp only [List.map_cons, List.map_nil, List.length_cons, List.length_nil, Nat.reduceAdd, Nat.reduceSub, Nat.reduceLT, List.replicate, List.cons_append, List.nil_append, Go, Ev1, Ev2, Ev3, Ex1, Ex2, Q.Pl, Val1, set_name, kSet_name, kSet_tup, stTs_name, stTs_nil, setAll_cons, evl_cons, Sx, List.getElem?_cons_zero, List.getElem?_cons_succ, List.set_cons_zero, List.set_cons_succ, Option.map_some, Option.bind_some, decide_eq_true_eq, if_true, if_false, Bool.false_eq_true, asO_some, asO_no, noneX_t, noneX_i, noneX_v, noneX_n, kAug_add, kAug_sub, Isa, MkT, comp_eq, for_eq, lst_eq_nil, BEq.rfl, Nw, fStar_tup, fStar2_eq, OptE, IcE, RuleE, PlaceE, e3]
  exact ⟨_, rfl⟩
end
end QL

/-! QDraw: bounds along a row; drawn deeds and rows. -/
namespace QL
open PySem PySem.Spec L2 Q
theorem put_R {r : Rule} {s : Sta} {n : Str} {q : Pl} : (putV r s n q).R = s.R ∧ (putV r s n q).C = s.C ∧ (putV r s n q).is.length = s.is.length := by
  unfold putV
  repeat' split
  all_goals refine ⟨rfl, rfl, ?_⟩
  all_goals first | rfl | (rw [filled_len, with_len]) | (rw [with_len])
theorem after_bd {r : Rule} {s : Sta} {d : Deed} (hR : 1 ≤ s.R) (hC : 1 ≤ s.C) (od : okDeed d) : (afterV r s d).R ≤ s.R + 2 ∧ (afterV r s d).C ≤ s.C + 2 ∧ (afterV r s d).is.length ≤ s.is.length + 1 := by
  cases d with
  | add n =>
    show (addedV r s n).R ≤ _ ∧ (addedV r s n).C ≤ _ ∧ (addedV r s n).is.length ≤ _
    unfold addedV
    split
    · exact ⟨by omega, by omega, by omega⟩
    · exact ⟨by show s.R ≤ _; omega, by show s.C ≤ _; omega, by simp⟩
  | drop n =>
    refine ⟨by show s.R ≤ _; omega, by show s.C ≤ _; omega, ?_⟩
    show (filledV r s.R s.C (dropN n s.is)).length ≤ _
    rw [filled_len]
    have := drop_len (n := n) (is := s.is)
    omega
  | put n a b =>
    have q := put_R (r := r) (s := s) (n := n) (q := (a, b))
    show (putV r s n (a, b)).R ≤ _ ∧ (putV r s n (a, b)).C ≤ _ ∧ (putV r s n (a, b)).is.length ≤ _
    rw [q.1, q.2.1, q.2.2]
    omega
  | sort =>
    refine ⟨by show s.R ≤ _; omega, by show s.C ≤ _; omega, ?_⟩
    show (withV _ s.is).length ≤ _
    rw [with_len]; omega
  | size a b =>
    have o : (-2 ≤ a ∧ a ≤ 2) ∧ (-2 ≤ b ∧ b ≤ 2) := od
    refine ⟨?_, ?_, ?_⟩
    · show moreV s.R a ≤ _
      unfold moreV; split <;> omega
    · show moreV s.C b ≤ _
      unfold moreV; split <;> omega
    · show (filledV r (moreV s.R a) (moreV s.C b) _).length ≤ _
      rw [filled_len]
      split
      · rw [iterB_len, cut_len]; omega
      · rw [cut_len]; omega
theorem bd_all {r : Rule} {A : Int} : ∀ {ds : List Deed} {s : Sta}, Inv s → (∀ d ∈ ds, okDeed d) → s.R + 2 * ds.length ≤ A → s.C + 2 * ds.length ≤ A → A ≤ 1000000000000000000000000000000 → s.is.length + ds.length < 64 → BdAll r s ds
  | [], s, inv, _, h1, h2, h3, h4 => ⟨⟨by have := inv.R; omega, by simp at h1; omega⟩, ⟨by have := inv.C; omega, by simp at h2; omega⟩, inv.pre.nd, by simpa using h4⟩
  | d :: ds, s, inv, od, h1, h2, h3, h4 => by
    rw [List.length_cons] at h1 h2 h4
    have a := after_bd (r := r) inv.R inv.C (od d List.mem_cons_self)
    exact ⟨⟨⟨by have := inv.R; omega, by omega⟩, ⟨by have := inv.C; omega, by omega⟩, inv.pre.nd, by omega⟩, bd_all (inv_after inv (od d List.mem_cons_self)) (fun e he => od e (List.mem_cons_of_mem _ he)) (by omega) (by omega) h3 (by omega)⟩
theorem lim_sq {R C : Int} (hR : 1 ≤ R ∧ R ≤ 1000000000000000000000000) (hC : 1 ≤ C ∧ C ≤ 1000000000000000000000000) : Lim R C := by
  unfold Lim
  have := Int.mul_le_mul hR.2 hC.2 (by omega) (by omega)
  omega
theorem lim_all {r : Rule} : ∀ {ds : List Deed} {s : Sta}, Inv s → (∀ d ∈ ds, okDeed d) → s.R + 2 * ds.length ≤ 1000000000000000000000000 → s.C + 2 * ds.length ≤ 1000000000000000000000000 → LimAll r s ds
  | [], s, inv, _, h1, h2 => lim_sq ⟨inv.R, by simp at h1; omega⟩ ⟨inv.C, by simp at h2; omega⟩
  | d :: ds, s, inv, od, h1, h2 => by
    rw [List.length_cons] at h1 h2
    have a := after_bd (r := r) inv.R inv.C (od d List.mem_cons_self)
    exact ⟨lim_sq ⟨inv.R, by omega⟩ ⟨inv.C, by omega⟩, lim_all (inv_after inv (od d List.mem_cons_self)) (fun e he => od e (List.mem_cons_of_mem _ he)) (by omega) (by omega)⟩
/-- what a row lays -/
def showV (r : Rule) (R C : Int) (ds : List Deed) : D := shownD (lastV r ⟨R, C, []⟩ ds)
def okRow (ds : List Deed) : Prop := (∀ d ∈ ds, okDeed d) ∧ ds.length ≤ 20
section
variable {cst : Str → Option D} {turns : Nat} {tab : Str → Option Def} {k : Nat} {base st st0 : Store}
theorem laid_s (T : LayTab tab) {r : Rule} (hm : r.m < 3) (hT : 1002 ≤ turns) {R C : Int} (hR : 1 ≤ R ∧ R ≤ 1000000000000000000000) (hC : 1 ≤ C ∧ C ≤ 1000000000000000000000) {ds : List Deed} (hd : okRow ds) :
    ∃ ex, callN cst turns tab (k + 7) "laid" [ruleD r, sizeD R C, rowD ds] st = some (showV r R C ds, st ++ ex) :=
  laid T hm hT (bd_all (A := 1000000000000000000000000000000) (inv_empty hR.1 hC.1) hd.1 (by have := hd.2; show R + _ ≤ _; omega) (by have := hd.2; show C + _ ≤ _; omega) (Int.le_refl _) (by have := hd.2; show 0 + _ < _; omega))
theorem lawLaid_s (T : LawTab tab) {r : Rule} (hm : r.m < 3) (hT : 1002 ≤ turns) {R C : Int} (hR : 1 ≤ R ∧ R ≤ 900000000000000000000000) (hC : 1 ≤ C ∧ C ≤ 900000000000000000000000) {ds : List Deed} (hd : okRow ds) :
    ∃ ex, callN cst turns tab (k + 6) "_law_laid" [ruleD r, sizeD R C, rowD ds] st = some (showV r R C ds, st ++ ex) :=
  lawLaid T hT hm hR.1 hC.1 (bd_all (A := 1000000000000000000000000) (inv_empty hR.1 hC.1) hd.1 (by have := hd.2; show R + _ ≤ _; omega) (by have := hd.2; show C + _ ≤ _; omega) (by decide) (by have := hd.2; show 0 + _ < _; omega)) (lim_all (inv_empty hR.1 hC.1) hd.1 (by have := hd.2; show R + _ ≤ _; omega) (by have := hd.2; show C + _ ≤ _; omega)) hd.1 (by have := hd.2; omega)
/-! ### what is shown, compared -/
theorem shown_ok (s : Sta) : D.ok 20 (shownD s) = true := by
  unfold shownD
  simp only [D.ok, D.okL, Bool.and_true, Bool.and_eq_true]
  refine ⟨rfl, ?_⟩
  exact okL_of fun d hd => by
    obtain ⟨i, _, rfl⟩ := List.mem_map.mp hd
    simp only [pairD, D.ok, D.okL, optD_ok, Bool.and_true]
theorem eq_shown {st : Store} {s t : Sta} : cmpD st .Eq (shownD s) (shownD t) = some (D.eq (shownD s) (shownD t)) := by
  show (if (D.ok 20 (shownD s) && D.ok 20 (shownD t)) = true then some (D.eq (shownD s) (shownD t)) else none) = _
  rw [shown_ok, shown_ok]; rfl
theorem ne_shown {st : Store} {s t : Sta} : cmpD st .NotEq (shownD s) (shownD t) = some (!D.eq (shownD s) (shownD t)) := by
  have q := eq_shown (st := st) (s := s) (t := t)
  show (deq st (shownD s) (shownD t)).map not = _
  rw [show deq st (shownD s) (shownD t) = _ from q]; rfl
/-! ### drawn rows -/
variable {cells : List Int} {n : Nat} {b : Int}
def nameV (i : Int) : Str := if i = 0 then "a" else if i = 1 then "b" else if i = 2 then "c" else if i = 3 then "d" else if i = 4 then "b" else "icon"
theorem lawName (t_draw : tab "_law_draw" = some d_law_draw) (t_name : tab "_law_name" = some d_law_name) (h : Tp cells n b st0 st) (hb : b ≤ 999999990) :
    ∃ st' x, callN cst turns tab (k + 2) "_law_name" [.loc n] st = some (.str x, st') ∧ Tp cells n (b + 1) st0 st' := by
  obtain ⟨st1, r1, e1, q1, t1⟩ := draw (cst := cst) (turns := turns) (k := k) (m := 6) t_draw h (by omega) (by decide) (by decide)
  rw [call_eq (k := k + 1) t_name rfl]
  have six : ∀ st, mkL false [D.str "a", D.str "b", D.str "c", D.str "d", D.str "b", D.str "icon"] st = some (.lst [.str "a", .str "b", .str "c", .str "d", .str "b", .str "icon"], st) := fun st => mkL_f (by simp [sizeLine])
  have at6 : ∃ x, subD st1 (.lst [.str "a", .str "b", .str "c", .str "d", .str "b", .str "icon"]) (.int r1) = some (.str x) := by
    have : r1 = 0 ∨ r1 = 1 ∨ r1 = 2 ∨ r1 = 3 ∨ r1 = 4 ∨ r1 = 5 := by omega
    rcases this with rfl | rfl | rfl | rfl | rfl | rfl <;> exact ⟨_, rfl⟩
  obtain ⟨x, hx⟩ := at6
  refine ⟨st1, x, ?_, t1⟩
  simp only [d_law_name, List.map_cons, List.map_nil, List.length_cons, List.length_nil, Nat.reduceAdd, Nat.reduceSub, Nat.reduceLT, List.replicate, List.cons_append, List.nil_append, Go, Ev1, Ev2, Ev3, Ex1, Ex2, Q.Pl, Val1, set_name, kSet_name, kSet_tup, stTs_name, stTs_nil, setAll_cons, evl_cons, Sx, List.getElem?_cons_zero, List.getElem?_cons_succ, List.set_cons_zero, List.set_cons_succ, Option.map_some, Option.bind_some, decide_eq_true_eq, if_true, if_false, Bool.false_eq_true, asO_some, asO_no, noneX_t, noneX_i, noneX_v, noneX_n, kAug_add, kAug_sub, Isa, MkT, comp_eq, for_eq, lst_eq_nil, BEq.rfl, Nw, fStar_tup, fStar2_eq, OptE, IcE, RuleE, PlaceE, six, e1, hx]
theorem mkT1 {a : D} {st : Store} : mkT [a] st = some (.tup [a], st) := rfl
theorem lawDeed (t_draw : tab "_law_draw" = some d_law_draw) (t_name : tab "_law_name" = some d_law_name) (t_deed : tab "_law_deed" = some d_law_deed) (h : Tp cells n b st0 st) (hb : b ≤ 999999900) :
    ∃ st' d, callN cst turns tab (k + 3) "_law_deed" [.loc n] st = some (deedD d, st') ∧ okDeed d ∧ Tp cells n (b + 4) st0 st' := by
  obtain ⟨st1, r1, e1, q1, t1⟩ := draw (cst := cst) (turns := turns) (k := k + 1) (m := 12) t_draw h (by omega) (by decide) (by decide)
  rw [call_eq (k := k + 2) t_deed rfl]
  by_cases c1 : r1 < 5
  · obtain ⟨st2, x, e2, t2⟩ := lawName (cst := cst) (turns := turns) (k := k) t_draw t_name t1 (by omega)
    refine ⟨st2, .add x, ?_, trivial, t2.mono (by omega)⟩
    simp only [d_law_deed, List.map_cons, List.map_nil, List.length_cons, List.length_nil, Nat.reduceAdd, Nat.reduceSub, Nat.reduceLT, List.replicate, List.cons_append, List.nil_append, Go, Ev1, Ev2, Ev3, Ex1, Ex2, Q.Pl, Val1, set_name, kSet_name, kSet_tup, stTs_name, stTs_nil, setAll_cons, evl_cons, Sx, List.getElem?_cons_zero, List.getElem?_cons_succ, List.set_cons_zero, List.set_cons_succ, Option.map_some, Option.bind_some, decide_eq_true_eq, if_true, if_false, Bool.false_eq_true, asO_some, asO_no, noneX_t, noneX_i, noneX_v, noneX_n, kAug_add, kAug_sub, Isa, MkT, comp_eq, for_eq, lst_eq_nil, BEq.rfl, Nw, fStar_tup, fStar2_eq, OptE, IcE, RuleE, PlaceE, e1, e2, c1, decide_true]; rfl
  · by_cases c2 : r1 < 6
    · obtain ⟨st2, x, e2, t2⟩ := lawName (cst := cst) (turns := turns) (k := k) t_draw t_name t1 (by omega)
      refine ⟨st2, .drop x, ?_, trivial, t2.mono (by omega)⟩
      simp only [d_law_deed, List.map_cons, List.map_nil, List.length_cons, List.length_nil, Nat.reduceAdd, Nat.reduceSub, Nat.reduceLT, List.replicate, List.cons_append, List.nil_append, Go, Ev1, Ev2, Ev3, Ex1, Ex2, Q.Pl, Val1, set_name, kSet_name, kSet_tup, stTs_name, stTs_nil, setAll_cons, evl_cons, Sx, List.getElem?_cons_zero, List.getElem?_cons_succ, List.set_cons_zero, List.set_cons_succ, Option.map_some, Option.bind_some, decide_eq_true_eq, if_true, if_false, Bool.false_eq_true, asO_some, asO_no, noneX_t, noneX_i, noneX_v, noneX_n, kAug_add, kAug_sub, Isa, MkT, comp_eq, for_eq, lst_eq_nil, BEq.rfl, Nw, fStar_tup, fStar2_eq, OptE, IcE, RuleE, PlaceE, e1, e2, c1, c2, decide_true, decide_false]; rfl
    · by_cases c3 : r1 < 9
      · obtain ⟨st2, x, e2, t2⟩ := lawName (cst := cst) (turns := turns) (k := k) t_draw t_name t1 (by omega)
        obtain ⟨st3, a, e3, q3, t3⟩ := draw (cst := cst) (turns := turns) (k := k + 1) (m := 3) t_draw t2 (by omega) (by decide) (by decide)
        obtain ⟨st4, c, e4, q4, t4⟩ := draw (cst := cst) (turns := turns) (k := k + 1) (m := 3) t_draw t3 (by omega) (by decide) (by decide)
        refine ⟨st4, .put x a c, ?_, ⟨⟨by omega, by omega⟩, ⟨by omega, by omega⟩⟩, t4.mono (by omega)⟩
        simp only [d_law_deed, List.map_cons, List.map_nil, List.length_cons, List.length_nil, Nat.reduceAdd, Nat.reduceSub, Nat.reduceLT, List.replicate, List.cons_append, List.nil_append, Go, Ev1, Ev2, Ev3, Ex1, Ex2, Q.Pl, Val1, set_name, kSet_name, kSet_tup, stTs_name, stTs_nil, setAll_cons, evl_cons, Sx, List.getElem?_cons_zero, List.getElem?_cons_succ, List.set_cons_zero, List.set_cons_succ, Option.map_some, Option.bind_some, decide_eq_true_eq, if_true, if_false, Bool.false_eq_true, asO_some, asO_no, noneX_t, noneX_i, noneX_v, noneX_n, kAug_add, kAug_sub, Isa, MkT, comp_eq, for_eq, lst_eq_nil, BEq.rfl, Nw, fStar_tup, fStar2_eq, OptE, IcE, RuleE, PlaceE, e1, e2, e3, e4, c1, c2, c3, decide_true, decide_false]; rfl
      · by_cases c4 : r1 < 10
        · refine ⟨st1, .sort, ?_, trivial, t1.mono (by omega)⟩
          simp only [d_law_deed, List.map_cons, List.map_nil, List.length_cons, List.length_nil, Nat.reduceAdd, Nat.reduceSub, Nat.reduceLT, List.replicate, List.cons_append, List.nil_append, Go, Ev1, Ev2, Ev3, Ex1, Ex2, Q.Pl, Val1, set_name, kSet_name, kSet_tup, stTs_name, stTs_nil, setAll_cons, evl_cons, Sx, List.getElem?_cons_zero, List.getElem?_cons_succ, List.set_cons_zero, List.set_cons_succ, Option.map_some, Option.bind_some, decide_eq_true_eq, if_true, if_false, Bool.false_eq_true, asO_some, asO_no, noneX_t, noneX_i, noneX_v, noneX_n, kAug_add, kAug_sub, Isa, MkT, comp_eq, for_eq, lst_eq_nil, BEq.rfl, Nw, fStar_tup, fStar2_eq, OptE, IcE, RuleE, PlaceE, e1, c1, c2, c3, c4, decide_true, decide_false, mkT1]; rfl
        · obtain ⟨st3, a, e3, q3, t3⟩ := draw (cst := cst) (turns := turns) (k := k + 1) (m := 5) t_draw t1 (by omega) (by decide) (by decide)
          obtain ⟨st4, c, e4, q4, t4⟩ := draw (cst := cst) (turns := turns) (k := k + 1) (m := 5) t_draw t3 (by omega) (by decide) (by decide)
          refine ⟨st4, .size (a - 2) (c - 2), ?_, ⟨⟨by omega, by omega⟩, ⟨by omega, by omega⟩⟩, t4.mono (by omega)⟩
          simp only [d_law_deed, List.map_cons, List.map_nil, List.length_cons, List.length_nil, Nat.reduceAdd, Nat.reduceSub, Nat.reduceLT, List.replicate, List.cons_append, List.nil_append, Go, Ev1, Ev2, Ev3, Ex1, Ex2, Q.Pl, Val1, set_name, kSet_name, kSet_tup, stTs_name, stTs_nil, setAll_cons, evl_cons, Sx, List.getElem?_cons_zero, List.getElem?_cons_succ, List.set_cons_zero, List.set_cons_succ, Option.map_some, Option.bind_some, decide_eq_true_eq, if_true, if_false, Bool.false_eq_true, asO_some, asO_no, noneX_t, noneX_i, noneX_v, noneX_n, kAug_add, kAug_sub, Isa, MkT, comp_eq, for_eq, lst_eq_nil, BEq.rfl, Nw, fStar_tup, fStar2_eq, OptE, IcE, RuleE, PlaceE, e1, e3, e4, c1, c2, c3, c4, decide_true, decide_false]; rfl
abbrev lrB : List S := fBodyOf (d_law_row.body.getD 1 .pass)
theorem add_row {xs ys : List D} {st : Store} (h : (xs ++ ys).length ≤ 1000000) : binD .Add (.tup xs) (.tup ys) st = some (.tup (xs ++ ys), st) := mkT_ok (size_le h)
theorem lr_loop (t_draw : tab "_law_draw" = some d_law_draw) (t_name : tab "_law_name" = some d_law_name) (t_deed : tab "_law_deed" = some d_law_deed) {x1 : Option D} : ∀ {xs : List D} {ds : List Deed} {b : Int} {st : Store} {x3 : Option D}, Tp cells n b st0 st → b + 4 * xs.length ≤ 999999900 → ds.length + xs.length ≤ 1000 → (∀ d ∈ ds, okDeed d) →
    ∃ x3' es st', forLoop none (bindT (.name 3)) (exL (cx cst turns tab (k + 3)) lrB) xs [some (.loc n), x1, some (rowD ds), x3] st = some (.next, [some (.loc n), x1, some (rowD es), x3'], st') ∧ (∀ d ∈ es, okDeed d) ∧ es.length = ds.length + xs.length ∧ Tp cells n (b + 4 * xs.length) st0 st'
  | [], ds, b, st, x3, h, _, _, hd => ⟨x3, ds, st, rfl, hd, by simp, h.mono (by simp)⟩
  | x :: xs, ds, b, st, x3, h, hb, hl, hd => by
    rw [List.length_cons] at hb hl
    obtain ⟨st1, d, e1, od, t1⟩ := lawDeed (cst := cst) (turns := turns) (k := k) t_draw t_name t_deed h (by omega)
    have ad : binD .Add (rowD ds) (.tup [deedD d]) st1 = some (rowD (ds ++ [d]), st1) := by
      show binD .Add (.tup (ds.map deedD)) (.tup [deedD d]) st1 = some (.tup ((ds ++ [d]).map deedD), st1)
      rw [add_row (by simp; omega), List.map_append]; rfl
    have run : exL (cx cst turns tab (k + 3)) lrB [some (.loc n), x1, some (rowD ds), some x] st = some (.next, [some (.loc n), x1, some (rowD (ds ++ [d])), some x], st1) := by
      simp only [lrB, fBodyOf, d_law_row, List.getD_cons_succ, List.getD_cons_zero, List.map_cons, List.map_nil, List.length_cons, List.length_nil, Nat.reduceAdd, Nat.reduceSub, Nat.reduceLT, List.replicate, List.cons_append, List.nil_append, Go, Ev1, Ev2, Ev3, Ex1, Ex2, Q.Pl, Val1, set_name, kSet_name, kSet_tup, stTs_name, stTs_nil, setAll_cons, evl_cons, Sx, List.getElem?_cons_zero, List.getElem?_cons_succ, List.set_cons_zero, List.set_cons_succ, Option.map_some, Option.bind_some, decide_eq_true_eq, if_true, if_false, Bool.false_eq_true, asO_some, asO_no, noneX_t, noneX_i, noneX_v, noneX_n, kAug_add, kAug_sub, Isa, MkT, comp_eq, for_eq, lst_eq_nil, BEq.rfl, Nw, fStar_tup, fStar2_eq, OptE, IcE, RuleE, PlaceE, e1, mkT1, ad]
    obtain ⟨x3', es, st', g, g2, g3, g4⟩ := lr_loop t_draw t_name t_deed (x1 := x1) (xs := xs) (ds := ds ++ [d]) (x3 := some x) t1 (by omega) (by rw [List.length_append]; simp; omega) (fun e he => by
      rcases List.mem_append.mp he with q | q
      · exact hd e q
      · rcases List.mem_singleton.mp q with rfl
        exact od)
    refine ⟨x3', es, st', ?_, g2, ?_, g4.mono (by rw [List.length_cons]; omega)⟩
    · rw [for_next (env1 := [some (.loc n), x1, some (rowD ds), some x]) rfl run, g]
    · rw [g3, List.length_append, List.length_cons]; simp; omega
theorem lawRow (t_draw : tab "_law_draw" = some d_law_draw) (t_name : tab "_law_name" = some d_law_name) (t_deed : tab "_law_deed" = some d_law_deed) (t_row : tab "_law_row" = some d_law_row) {m : Int} (hm : 0 ≤ m ∧ m ≤ 100) (h : Tp cells n b st0 st) (hb : b ≤ 999990000) :
    ∃ st' ds, callN cst turns tab (k + 4) "_law_row" [.loc n, .int m] st = some (rowD ds, st') ∧ (∀ d ∈ ds, okDeed d) ∧ (ds.length : Int) ≤ m ∧ Tp cells n (b + 1 + 4 * m) st0 st' := by
  have big : (101 : Int) ≤ 2 ^ 200 := by decide +kernel
  obtain ⟨st1, r1, e1, q1, t1⟩ := draw (cst := cst) (turns := turns) (k := k + 2) (m := m + 1) t_draw h (by omega) (by omega) (by omega)
  have len : (rangeD 0 r1).length = r1.toNat := by
    unfold rangeD
    rw [List.length_map, List.length_range]; omega
  obtain ⟨x3, es, st2, g, g2, g3, g4⟩ := lr_loop (cst := cst) (turns := turns) (k := k) t_draw t_name t_deed (x1 := some (.int m)) (xs := rangeD 0 r1) (ds := []) (x3 := none) t1 (by rw [len]; omega) (by rw [len]; simp; omega) (fun d hd => absurd hd (by simp))
  refine ⟨st2, es, ?_, g2, ?_, g4.mono (by rw [len]; omega)⟩
  · rw [call_eq (k := k + 3) t_row rfl]
    simp only [lrB, fBodyOf, d_law_row, List.getD_cons_succ, List.getD_cons_zero, show rowD [] = .tup [] from rfl] at g
    simp only [d_law_row, List.map_cons, List.map_nil, List.length_cons, List.length_nil, Nat.reduceAdd, Nat.reduceSub, Nat.reduceLT, List.replicate, List.cons_append, List.nil_append, Go, Ev1, Ev2, Ev3, Ex1, Ex2, Q.Pl, Val1, set_name, kSet_name, kSet_tup, stTs_name, stTs_nil, setAll_cons, evl_cons, Sx, List.getElem?_cons_zero, List.getElem?_cons_succ, List.set_cons_zero, List.set_cons_succ, Option.map_some, Option.bind_some, decide_eq_true_eq, if_true, if_false, Bool.false_eq_true, asO_some, asO_no, noneX_t, noneX_i, noneX_v, noneX_n, kAug_add, kAug_sub, Isa, MkT, comp_eq, for_eq, lst_eq_nil, BEq.rfl, Nw, fStar_tup, fStar2_eq, OptE, IcE, RuleE, PlaceE, evl_nil, mkT0, e1, lim_of (show -1000000000000000000 ≤ r1 by omega) (show r1 ≤ 1000000000000000000 by omega), g]
  · rw [g3, len]; simp; omega
end
end QL

/-! QTurn: desks turned. -/
namespace QL
open PySem PySem.Spec L2 Q
def turnP (w : Int) (R C : Int) (p : Pl) : Pl := if w = 0 then (p.1, C - 1 - p.2) else if w = 1 then (R - 1 - p.1, p.2) else (p.2, p.1)
def otherR (w : Int) (r : Rule) : Rule := if w = 0 then ⟨r.s, !r.e, r.r, r.m, r.b⟩ else if w = 1 then ⟨!r.s, r.e, r.r, r.m, r.b⟩ else ⟨r.e, r.s, !r.r, r.m, r.b⟩
def rowsO (w R C : Int) : Int := if w = 2 then C else R
def colsO (w R C : Int) : Int := if w = 2 then R else C
def tI (w R C : Int) (i : Ic) : Ic := ⟨i.n, i.p.map (turnP w R C), i.w.map (turnP w R C)⟩
def tIs (w R C : Int) (is : Ics) : Ics := is.map (tI w R C)
def Way (w : Int) : Prop := w = 0 ∨ w = 1 ∨ w = 2
theorem spot_turn {w : Int} (hw : Way w) {r : Rule} {R C i : Int} : spotV (otherR w r) (rowsO w R C) (colsO w R C) i = turnP w R C (spotV r R C i) := by
  obtain ⟨s, e, rr, m, b⟩ := r
  have f1 : ∀ x : Int, C - 1 - (C - 1 - x) = x := fun x => by omega
  have f2 : ∀ x : Int, R - 1 - (R - 1 - x) = x := fun x => by omega
  rcases hw with rfl | rfl | rfl <;> cases s <;> cases e <;> cases rr <;> simp [spotV, otherR, rowsO, colsO, turnP, f1, f2]
theorem mul_turn {w : Int} (hw : Way w) {R C : Int} : rowsO w R C * colsO w R C = R * C := by
  rcases hw with rfl | rfl | rfl <;> simp [rowsO, colsO, Int.mul_comm]
theorem turn_inj {w : Int} (hw : Way w) {R C : Int} {p q : Pl} (h : turnP w R C p = turnP w R C q) : p = q := by
  obtain ⟨a, b⟩ := p
  obtain ⟨c, d⟩ := q
  rcases hw with rfl | rfl | rfl <;> simp [turnP] at h <;> (refine Prod.ext ?_ ?_ <;> simp <;> omega)
theorem taken_turn {w R C : Int} {is : Ics} : takenV (tIs w R C is) = (takenV is).map (turnP w R C) := taken_map fun i _ => rfl
theorem mem_turn {w : Int} (hw : Way w) {R C : Int} {q : Pl} {tk : List Pl} : turnP w R C q ∈ tk.map (turnP w R C) ↔ q ∈ tk := by
  rw [List.mem_map]
  constructor
  · rintro ⟨x, hx, e⟩
    rw [← turn_inj hw e]; exact hx
  · intro h
    exact ⟨q, h, rfl⟩
theorem freeN_turn {w : Int} (hw : Way w) {r : Rule} {R C : Int} {tk : List Pl} : ∀ {n : Nat} {i : Int}, freeN (otherR w r) (rowsO w R C) (colsO w R C) (tk.map (turnP w R C)) n i = (freeN r R C tk n i).map (turnP w R C)
  | 0, _ => rfl
  | n + 1, i => by
    rw [freeN, freeN, mul_turn hw, spot_turn hw]
    by_cases h : i < R * C
    · rw [if_pos h, if_pos h]
      by_cases h2 : spotV r R C i ∈ tk
      · rw [if_pos ((mem_turn hw).mpr h2), if_pos h2, freeN_turn hw]
      · rw [if_neg fun z => h2 ((mem_turn hw).mp z), if_neg h2]; rfl
    · rw [if_neg h, if_neg h]; rfl
theorem freeV_turn {w : Int} (hw : Way w) {r : Rule} {R C : Int} {is : Ics} {i : Int} : freeV (otherR w r) (rowsO w R C) (colsO w R C) (takenV (tIs w R C is)) i = (freeV r R C (takenV is) i).map (turnP w R C) := by
  unfold freeV
  rw [taken_turn, List.length_map, freeN_turn hw]
theorem fill_turn {w : Int} (hw : Way w) {r : Rule} {R C : Int} : ∀ {rest done : Ics}, fillV (otherR w r) (rowsO w R C) (colsO w R C) (tIs w R C done) (tIs w R C rest) = tIs w R C (fillV r R C done rest)
  | [], done => rfl
  | i :: rest, done => by
    have e0 : tIs w R C (i :: rest) = tI w R C i :: tIs w R C rest := rfl
    have e1 : ∀ j : Ic, tIs w R C done ++ [tI w R C j] = tIs w R C (done ++ [j]) := fun j => by unfold tIs; rw [List.map_append]; rfl
    have e2 : tIs w R C done ++ tI w R C i :: tIs w R C rest = tIs w R C (done ++ i :: rest) := by unfold tIs; rw [List.map_append]; rfl
    rw [e0, fillV, fillV]
    cases hp : i.p with
    | some p =>
      have hq : (tI w R C i).p = some (turnP w R C p) := by show i.p.map _ = _; rw [hp]; rfl
      rw [hq]
      show fillV _ _ _ (tIs w R C done ++ [tI w R C i]) (tIs w R C rest) = tIs w R C (fillV r R C (done ++ [i]) rest)
      rw [e1, fill_turn hw]
    | none =>
      have hq : (tI w R C i).p = none := by show i.p.map _ = _; rw [hp]; rfl
      rw [hq]
      show fillV _ _ _ (tIs w R C done ++ [⟨i.n, freeV (otherR w r) (rowsO w R C) (colsO w R C) (takenV (tIs w R C done ++ tI w R C i :: tIs w R C rest)) 0, i.w.map (turnP w R C)⟩]) (tIs w R C rest) = tIs w R C (fillV r R C (done ++ [⟨i.n, freeV r R C (takenV (done ++ i :: rest)) 0, i.w⟩]) rest)
      rw [e2, freeV_turn hw]
      have e3 := e1 ⟨i.n, freeV r R C (takenV (done ++ i :: rest)) 0, i.w⟩
      show fillV _ _ _ (tIs w R C done ++ [tI w R C ⟨i.n, freeV r R C (takenV (done ++ i :: rest)) 0, i.w⟩]) (tIs w R C rest) = _
      rw [e3, fill_turn hw]
theorem names_turn {w R C : Int} {is : Ics} : namesV (tIs w R C is) = namesV is := by unfold namesV tIs; rw [List.map_map]; rfl
theorem drop_turn {w R C : Int} {n : Str} {is : Ics} : dropN n (tIs w R C is) = tIs w R C (dropN n is) := by
  unfold dropN tIs
  rw [List.filter_map]; rfl
theorem with_turn {w R C : Int} {f g : Str → Option (Option Pl)} (h : ∀ x, g x = (f x).map (Option.map (turnP w R C))) {is : Ics} : withV g (tIs w R C is) = tIs w R C (withV f is) := by
  unfold withV tIs
  rw [List.map_map, List.map_map]
  refine List.map_congr_left fun i _ => ?_
  show wI g (tI w R C i) = tI w R C (wI f i)
  cases e : f i.n with
  | none =>
    have e2 : g (tI w R C i).n = none := by show g i.n = none; rw [h, e]; rfl
    rw [wI_none e, wI_none e2]
  | some p =>
    have e2 : g (tI w R C i).n = some (p.map (turnP w R C)) := by show g i.n = _; rw [h, e]; rfl
    rw [wI_some e, wI_some e2]; rfl
theorem place_turn {w : Int} (hw : Way w) {r : Rule} {R C : Int} {k : Nat} : placeV (otherR w r) (rowsO w R C) (colsO w R C) k = (placeV r R C k).map (turnP w R C) := by
  unfold placeV
  rw [mul_turn hw, spot_turn hw]
  by_cases h : (k : Int) < R * C
  · rw [if_pos h, if_pos h]; rfl
  · rw [if_neg h, if_neg h]; rfl
def isAds : Deed → Bool
  | .add _ => true
  | .drop _ => true
  | .sort => true
  | _ => false
def tS (w : Int) (s : Sta) : Sta := ⟨rowsO w s.R s.C, colsO w s.R s.C, tIs w s.R s.C s.is⟩
theorem after_turn {w : Int} (hw : Way w) {r : Rule} {s : Sta} {d : Deed} (hd : isAds d = true) : afterV (otherR w r) (tS w s) d = tS w (afterV r s d) ∧ (afterV r s d).R = s.R ∧ (afterV r s d).C = s.C := by
  cases d with
  | add n =>
    show addedV (otherR w r) (tS w s) n = tS w (addedV r s n) ∧ (addedV r s n).R = s.R ∧ (addedV r s n).C = s.C
    unfold addedV
    have nm : namesV (tS w s).is = namesV s.is := names_turn
    by_cases h : n ∈ namesV s.is
    · rw [if_pos h, if_pos (by rw [nm]; exact h)]
      exact ⟨rfl, rfl, rfl⟩
    · rw [if_neg h, if_neg (by rw [nm]; exact h)]
      refine ⟨?_, rfl, rfl⟩
      show (⟨rowsO w s.R s.C, colsO w s.R s.C, tIs w s.R s.C s.is ++ [⟨n, freeV (otherR w r) (rowsO w s.R s.C) (colsO w s.R s.C) (takenV (tIs w s.R s.C s.is)) 0, freeV (otherR w r) (rowsO w s.R s.C) (colsO w s.R s.C) (takenV (tIs w s.R s.C s.is)) 0⟩]⟩ : Sta) = ⟨rowsO w s.R s.C, colsO w s.R s.C, tIs w s.R s.C (s.is ++ [⟨n, freeV r s.R s.C (takenV s.is) 0, freeV r s.R s.C (takenV s.is) 0⟩])⟩
      rw [freeV_turn hw]
      unfold tIs
      rw [List.map_append]; rfl
  | drop n =>
    refine ⟨?_, rfl, rfl⟩
    show (⟨rowsO w s.R s.C, colsO w s.R s.C, fillV (otherR w r) (rowsO w s.R s.C) (colsO w s.R s.C) [] (dropN n (tIs w s.R s.C s.is))⟩ : Sta) = ⟨rowsO w s.R s.C, colsO w s.R s.C, tIs w s.R s.C (fillV r s.R s.C [] (dropN n s.is))⟩
    rw [drop_turn, ← fill_turn hw]; rfl
  | sort =>
    refine ⟨?_, rfl, rfl⟩
    show (⟨rowsO w s.R s.C, colsO w s.R s.C, withV (sortF (otherR w r) (rowsO w s.R s.C) (colsO w s.R s.C) (sortS (namesV (tIs w s.R s.C s.is)))) (tIs w s.R s.C s.is)⟩ : Sta) = ⟨rowsO w s.R s.C, colsO w s.R s.C, tIs w s.R s.C (withV (sortF r s.R s.C (sortS (namesV s.is))) s.is)⟩
    rw [names_turn, with_turn (f := sortF r s.R s.C (sortS (namesV s.is))) fun x => by
      unfold sortF
      cases ixS x (sortS (namesV s.is)) 0 with
      | none => rfl
      | some k => show some (placeV _ _ _ k) = some ((placeV r s.R s.C k).map _); rw [place_turn hw]]
  | put n a b => cases hd
  | size a b => cases hd
theorem last_turn {w : Int} (hw : Way w) {r : Rule} : ∀ {ds : List Deed} {s : Sta}, (∀ d ∈ ds, isAds d = true) → lastV (otherR w r) (tS w s) ds = tS w (lastV r s ds) ∧ (lastV r s ds).R = s.R ∧ (lastV r s ds).C = s.C
  | [], s, _ => ⟨rfl, rfl, rfl⟩
  | d :: ds, s, h => by
    obtain ⟨a1, a2, a3⟩ := after_turn hw (r := r) (s := s) (h d List.mem_cons_self)
    obtain ⟨b1, b2, b3⟩ := last_turn hw (r := r) (ds := ds) (s := afterV r s d) (fun e he => h e (List.mem_cons_of_mem _ he))
    refine ⟨?_, b2.trans a2, b3.trans a3⟩
    show lastV (otherR w r) (afterV (otherR w r) (tS w s) d) ds = _
    rw [a1, b1]; rfl
theorem ins_turn {w R C : Int} {x : Ic} : ∀ {ys : Ics}, insI (tI w R C x) (tIs w R C ys) = tIs w R C (insI x ys)
  | [] => rfl
  | y :: ys => by
    show (if leS x.n y.n = true then tI w R C x :: tI w R C y :: tIs w R C ys else tI w R C y :: insI (tI w R C x) (tIs w R C ys)) = tIs w R C (if leS x.n y.n = true then x :: y :: ys else y :: insI x ys)
    rw [ins_turn]
    split <;> rfl
theorem sort_turn {w R C : Int} : ∀ {xs : Ics}, sortI (tIs w R C xs) = tIs w R C (sortI xs)
  | [] => rfl
  | x :: xs => by
    show insI (tI w R C x) (sortI (tIs w R C xs)) = tIs w R C (insI x (sortI xs))
    rw [sort_turn, ins_turn]
/-- what is shown on the turned desk -/
theorem show_turn {w : Int} (hw : Way w) {r : Rule} {R C : Int} {ds : List Deed} (h : ∀ d ∈ ds, isAds d = true) : showV (otherR w r) (rowsO w R C) (colsO w R C) ds = .tup [sizeD (rowsO w R C) (colsO w R C), .tup ((sortI (lastV r ⟨R, C, []⟩ ds).is).map fun i => pairD (tI w R C i))] := by
  obtain ⟨a, b, c⟩ := last_turn hw (r := r) (s := ⟨R, C, []⟩) h
  have a : lastV (otherR w r) ⟨rowsO w R C, colsO w R C, []⟩ ds = tS w (lastV r ⟨R, C, []⟩ ds) := a
  have b : (lastV r ⟨R, C, []⟩ ds).R = R := b
  have c : (lastV r ⟨R, C, []⟩ ds).C = C := c
  unfold showV shownD
  rw [a]
  unfold tS
  rw [b, c]
  show D.tup [sizeD (rowsO w R C) (colsO w R C), .tup ((sortI (tIs w R C (lastV r ⟨R, C, []⟩ ds).is)).map pairD)] = _
  rw [sort_turn]
  unfold tIs
  rw [List.map_map]; rfl
end QL

namespace K
open PySem PySem.Spec PyProof.Rows L2
/-! ### the text by places, and its trees -/
def topS (i : Nat) : Stmt := PySem.Challenge.pw_layicons_k15_whole_desks_turned.main.body.getD i (.Pass ⟨0, 0, 0, 0⟩)
def d_cell_at : Q.Def := { name := "cell_at", arity := 3, names := ["rule", "size", "index", "rows", "columns", "row", "column"], body := [.set (.tup [.name 3, .name 4]) (.var 1), .ite (.cmp .Eq (.sub (.var 0) (.int 1)) (.str "rows")) [.par [5, 6] [.bin .FloorDiv (.var 2) (.var 4), .bin .Mod (.var 2) (.var 4)]] [.par [5, 6] [.bin .Mod (.var 2) (.var 3), .bin .FloorDiv (.var 2) (.var 3)]], .set (.name 5) (.ite (.cmp .Eq (.sub (.sub (.var 0) (.int 0)) (.int 0)) (.str "n")) (.var 5) (.bin .Sub (.bin .Sub (.var 3) (.int 1)) (.var 5))), .ret (.tup [.var 5, .ite (.cmp .Eq (.sub (.sub (.var 0) (.int 0)) (.int 1)) (.str "w")) (.var 6) (.bin .Sub (.bin .Sub (.var 4) (.int 1)) (.var 6))])] }
def d_index_of : Q.Def := { name := "index_of", arity := 3, names := ["rule", "size", "place", "rows", "columns", "row", "column"], body := [.set (.tup [.name 3, .name 4]) (.var 1), .set (.name 5) (.ite (.cmp .Eq (.sub (.sub (.var 0) (.int 0)) (.int 0)) (.str "n")) (.sub (.var 2) (.int 0)) (.bin .Sub (.bin .Sub (.var 3) (.int 1)) (.sub (.var 2) (.int 0)))), .set (.name 6) (.ite (.cmp .Eq (.sub (.sub (.var 0) (.int 0)) (.int 1)) (.str "w")) (.sub (.var 2) (.int 1)) (.bin .Sub (.bin .Sub (.var 4) (.int 1)) (.sub (.var 2) (.int 1)))), .ret (.ite (.cmp .Eq (.sub (.var 0) (.int 1)) (.str "rows")) (.bin .Add (.bin .Mult (.var 5) (.var 4)) (.var 6)) (.bin .Add (.bin .Mult (.var 6) (.var 3)) (.var 5)))] }
def d_is_on : Q.Def := { name := "is_on", arity := 2, names := ["size", "place"], body := [.ret (.and [.notN (.var 1), .chain .LtE .Lt (.int 0) (.sub (.var 1) (.int 0)) (.sub (.var 0) (.int 0)), .chain .LtE .Lt (.int 0) (.sub (.var 1) (.int 1)) (.sub (.var 0) (.int 1))])] }
def d_first_free : Q.Def := { name := "first_free", arity := 4, names := ["rule", "size", "taken", "start", "index", "many", "place"], body := [.par [4, 5] [.var 3, .bin .Mult (.sub (.var 1) (.int 0)) (.sub (.var 1) (.int 1))], .while_ (.cmp .Lt (.var 4) (.var 5)) [.set (.name 6) (.call "cell_at" [.var 0, .var 1, .var 4]), .ite (.notIn (.var 6) (.var 2)) [.ret (.var 6)] [], .aug 4 .Add (.int 1)], .ret (.non)] }
def d_taken : Q.Def := { name := "taken", arity := 1, names := ["icons", "name", "place", "wish"], body := [.ret (.comp [("name", 1), ("place", 2), ("wish", 3)] (.tup [.name 1, .name 2, .name 3]) (.seq (.var 0)) (.notN (.var 2)) (.var 2))] }
def d_called_back : Q.Def := { name := "called_back", arity := 2, names := ["size", "icons", "places", "at", "name", "place", "wish"], body := [.set (.name 2) (.call "taken" [.var 1]), .for_ (.tup [.name 3, .tup [.name 4, .name 5, .name 6]]) (.enum (.var 1)) [.ite (.and [.cmp .NotEq (.var 5) (.var 6), .call "is_on" [.var 0, .var 6], .notIn (.var 6) (.var 2)]) [.ret (.tup [.star (.slice (.var 1) (.none_) (.var 3)), .tup [.var 4, .var 6, .var 6], .star (.slice (.var 1) (.bin .Add (.var 3) (.int 1)) (.none_))])] []], .ret (.var 1)] }
def d_filled : Q.Def := { name := "filled", arity := 3, names := ["rule", "size", "icons", "found", "at", "name", "place", "wish"], body := [.set (.name 3) (.bi .list true [.var 2]), .for_ (.tup [.name 4, .tup [.name 5, .name 6, .name 7]]) (.enum (.var 2)) [.ite (.isN (.var 6)) [.set (.sub (.var 3) (.var 4)) (.tup [.var 5, .call "first_free" [.var 0, .var 1, .call "taken" [.var 3], .int 0], .var 7])] []], .ret (.bi .tuple false [.var 3])] }
def d_resized : Q.Def := { name := "resized", arity := 3, names := ["rule", "state", "more", "size", "one", "other", "icons", "name", "place", "wish", "turn"], body := [.set (.name 3) (.bi .tuple false [.comp [("one", 4), ("other", 5)] (.tup [.name 4, .name 5]) (.zip (.sub (.var 1) (.int 0)) (.var 2)) (.bl true) (.bi .max false [.int 1, .bin .Add (.var 4) (.var 5)])]), .set (.name 6) (.bi .tuple false [.comp [("name", 7), ("place", 8), ("wish", 9)] (.tup [.name 7, .name 8, .name 9]) (.seq (.sub (.var 1) (.int 1))) (.bl true) (.tup [.var 7, .ite (.call "is_on" [.var 3, .var 8]) (.var 8) (.non), .var 9])]), .ite (.sub (.var 0) (.int 3)) [.for_ (.name 10) (.rng1 (.bin .Add (.bin .Mult (.int 2) (.bi .len false [.var 6])) (.int 1))) [.set (.name 6) (.call "called_back" [.var 3, .var 6])]] [], .ret (.tup [.var 3, .call "filled" [.var 0, .var 3, .var 6]])] }
def d_added : Q.Def := { name := "added", arity := 3, names := ["rule", "state", "name", "size", "icons", "icon", "place"], body := [.set (.tup [.name 3, .name 4]) (.var 1), .ite (.mem (.var 2) (.comp [("icon", 5)] (.name 5) (.seq (.var 4)) (.bl true) (.sub (.var 5) (.int 0)))) [.ret (.var 1)] [], .set (.name 6) (.call "first_free" [.var 0, .var 3, .call "taken" [.var 4], .int 0]), .ret (.tup [.var 3, .tup [.star (.var 4), .tup [.var 2, .var 6, .var 6]]])] }
def d_dropped : Q.Def := { name := "dropped", arity := 3, names := ["rule", "state", "name", "size", "icons", "icon"], body := [.set (.tup [.name 3, .name 4]) (.var 1), .ret (.tup [.var 3, .call "filled" [.var 0, .var 3, .bi .tuple false [.comp [("icon", 5)] (.name 5) (.seq (.var 4)) (.cmp .NotEq (.sub (.var 5) (.int 0)) (.var 2)) (.var 5)]]])] }
def d_with_places : Q.Def := { name := "with_places", arity := 2, names := ["icons", "places", "icon"], body := [.ret (.bi .tuple false [.comp [("icon", 2)] (.name 2) (.seq (.var 0)) (.bl true) (.ite (.memK (.sub (.var 2) (.int 0)) (.var 1)) (.tup [.sub (.var 2) (.int 0), .subK (.var 1) (.sub (.var 2) (.int 0)), .subK (.var 1) (.sub (.var 2) (.int 0))]) (.var 2))])] }
def d_put : Q.Def := { name := "put", arity := 4, names := ["rule", "state", "name", "place", "size", "icons", "own", "icon", "there", "free"], body := [.set (.tup [.name 4, .name 5]) (.var 1), .set (.name 6) (.comp [("icon", 7)] (.name 7) (.seq (.var 5)) (.and [.cmp .Eq (.sub (.var 7) (.int 0)) (.var 2), .notN (.sub (.var 7) (.int 1))]) (.var 7)), .ite (.or [.cmp .Eq (.var 6) (.lst false []), .not (.call "is_on" [.var 4, .var 3])]) [.ret (.var 1)] [], .set (.name 8) (.comp [("icon", 7)] (.name 7) (.seq (.var 5)) (.and [.cmp .Eq (.sub (.var 7) (.int 1)) (.var 3), .cmp .NotEq (.sub (.var 7) (.int 0)) (.var 2)]) (.var 7)), .ite (.cmp .Eq (.var 8) (.lst false [])) [.ret (.tup [.var 4, .call "filled" [.var 0, .var 4, .call "with_places" [.var 5, .dct [.var 2, .var 3] []]]])] [], .ite (.cmp .Eq (.sub (.var 0) (.int 2)) (.str "swap")) [.ret (.tup [.var 4, .call "with_places" [.var 5, .dct [.var 2, .var 3, .sub (.sub (.var 8) (.int 0)) (.int 0), .sub (.sub (.var 6) (.int 0)) (.int 1)] []]])] [], .ite (.cmp .Eq (.sub (.var 0) (.int 2)) (.str "next")) [.set (.name 9) (.call "first_free" [.var 0, .var 4, .call "taken" [.var 5], .bin .Add (.call "index_of" [.var 0, .var 4, .var 3]) (.int 1)]), .ite (.notN (.var 9)) [.ret (.tup [.var 4, .call "filled" [.var 0, .var 4, .call "with_places" [.var 5, .dct [.var 2, .var 9] []]]])] []] [], .ret (.var 1)] }
def d_sorted_by_name : Q.Def := { name := "sorted_by_name", arity := 2, names := ["rule", "state", "size", "icons", "places", "many", "index", "name", "icon"], body := [.set (.tup [.name 2, .name 3]) (.var 1), .par [4, 5] [.dct [] [], .bin .Mult (.sub (.var 2) (.int 0)) (.sub (.var 2) (.int 1))], .for_ (.tup [.name 6, .name 7]) (.enum (.bi .sorted false [.comp [("icon", 8)] (.name 8) (.seq (.var 3)) (.bl true) (.sub (.var 8) (.int 0))])) [.set (.subK (.var 4) (.var 7)) (.ite (.cmp .Lt (.var 6) (.var 5)) (.call "cell_at" [.var 0, .var 2, .var 6]) (.non))], .ret (.tup [.var 2, .call "with_places" [.var 3, .var 4]])] }
def d_after : Q.Def := { name := "after", arity := 3, names := ["rule", "state", "deed"], body := [.ite (.cmp .Eq (.sub (.var 2) (.int 0)) (.str "add")) [.ret (.call "added" [.var 0, .var 1, .sub (.var 2) (.int 1)])] [], .ite (.cmp .Eq (.sub (.var 2) (.int 0)) (.str "drop")) [.ret (.call "dropped" [.var 0, .var 1, .sub (.var 2) (.int 1)])] [], .ite (.cmp .Eq (.sub (.var 2) (.int 0)) (.str "put")) [.ret (.call "put" [.var 0, .var 1, .sub (.var 2) (.int 1), .tup [.sub (.var 2) (.int 2), .sub (.var 2) (.int 3)]])] [], .ite (.cmp .Eq (.sub (.var 2) (.int 0)) (.str "size")) [.ret (.call "resized" [.var 0, .var 1, .tup [.sub (.var 2) (.int 1), .sub (.var 2) (.int 2)]])] [], .ret (.call "sorted_by_name" [.var 0, .var 1])] }
def d_last_state : Q.Def := { name := "last_state", arity := 3, names := ["rule", "size", "row", "state", "deed"], body := [.set (.name 3) (.tup [.var 1, .tup []]), .for_ (.name 4) (.seq (.var 2)) [.set (.name 3) (.call "after" [.var 0, .var 3, .var 4])], .ret (.var 3)] }
def d_shown : Q.Def := { name := "shown", arity := 1, names := ["state", "name", "place", "wish"], body := [.ret (.tup [.sub (.var 0) (.int 0), .bi .tuple false [.comp [("name", 1), ("place", 2), ("wish", 3)] (.tup [.name 1, .name 2, .name 3]) (.seq (.sortK (.sub (.var 0) (.int 1)) (.int 0))) (.bl true) (.tup [.var 1, .var 2])]])] }
def d_laid : Q.Def := { name := "laid", arity := 3, names := ["rule", "size", "row"], body := [.ret (.call "shown" [.call "last_state" [.var 0, .var 1, .var 2]])] }
def d_law_draw : Q.Def := { name := "_law_draw", arity := 2, names := ["tape", "many", "prime", "cell", "found"], body := [.set (.name 2) (.int 2305843009213693951), .ite (.cmp .Lt (.sub (.var 0) (.int 2)) (.var 1)) [.set (.name 3) (.int 0), .ite (.cmp .Gt (.bi .len false [.sub (.var 0) (.int 0)]) (.int 0)) [.set (.name 3) (.sub (.sub (.var 0) (.int 0)) (.bin .Mod (.bi .int false [.sub (.var 0) (.int 1)]) (.bi .len false [.sub (.var 0) (.int 0)])))] [], .ite (.or [.cmp .GtE (.sub (.var 0) (.int 1)) (.bi .len false [.sub (.var 0) (.int 0)]), .cmp .Lt (.var 3) (.bin .Pow (.int 10) (.int 18))]) [.set (.name 3) (.bin .Mod (.bi .int false [.bin .Add (.var 3) (.bin .Mult (.int 1000003) (.sub (.var 0) (.int 1)))]) (.var 2)), .set (.name 3) (.bin .Mod (.bi .int false [.bin .Add (.bin .Add (.bin .Mult (.var 3) (.var 3)) (.bin .Mult (.int 1181783497276652981) (.var 3))) (.int 2049848353892358983)]) (.var 2)), .set (.name 3) (.bin .Mod (.bi .int false [.bin .Add (.bin .Mult (.var 3) (.var 3)) (.int 1442695040888963407)]) (.var 2))] [], .set (.sub (.var 0) (.int 1)) (.bin .Add (.sub (.var 0) (.int 1)) (.int 1)), .set (.sub (.var 0) (.int 2)) (.var 3)] [], .set (.name 4) (.bin .Mod (.bi .int false [.sub (.var 0) (.int 2)]) (.var 1)), .set (.sub (.var 0) (.int 2)) (.bin .FloorDiv (.sub (.var 0) (.int 2)) (.var 1)), .ret (.var 4)] }
def d_law_rule : Q.Def := { name := "_law_rule", arity := 1, names := ["tape", "corner", "way"], body := [.par [1, 2] [.sub (.lst false [.str "ne", .str "nw", .str "se", .str "sw"]) (.call "_law_draw" [.var 0, .int 4]), .sub (.lst false [.str "columns", .str "rows"]) (.call "_law_draw" [.var 0, .int 2])], .ret (.tup [.var 1, .var 2, .sub (.lst false [.str "next", .str "stay", .str "swap"]) (.call "_law_draw" [.var 0, .int 3]), .cmp .Eq (.call "_law_draw" [.var 0, .int 2]) (.int 0)])] }
def d_law_name : Q.Def := { name := "_law_name", arity := 1, names := ["tape"], body := [.ret (.sub (.lst false [.str "a", .str "b", .str "c", .str "d", .str "b", .str "icon"]) (.call "_law_draw" [.var 0, .int 6]))] }
def d_law_deed : Q.Def := { name := "_law_deed", arity := 1, names := ["tape", "way"], body := [.set (.name 1) (.call "_law_draw" [.var 0, .int 12]), .ite (.cmp .Lt (.var 1) (.int 5)) [.ret (.tup [.str "add", .call "_law_name" [.var 0]])] [], .ite (.cmp .Lt (.var 1) (.int 6)) [.ret (.tup [.str "drop", .call "_law_name" [.var 0]])] [], .ite (.cmp .Lt (.var 1) (.int 9)) [.ret (.tup [.str "put", .call "_law_name" [.var 0], .call "_law_draw" [.var 0, .int 3], .call "_law_draw" [.var 0, .int 3]])] [], .ret (.ite (.cmp .Lt (.var 1) (.int 10)) (.tup [.str "sort"]) (.tup [.str "size", .bin .Sub (.call "_law_draw" [.var 0, .int 5]) (.int 2), .bin .Sub (.call "_law_draw" [.var 0, .int 5]) (.int 2)]))] }
def d_law_row : Q.Def := { name := "_law_row", arity := 2, names := ["tape", "most", "found", "turn"], body := [.set (.name 2) (.tup []), .for_ (.name 3) (.rng1 (.call "_law_draw" [.var 0, .bin .Add (.var 1) (.int 1)])) [.set (.name 2) (.bin .Add (.var 2) (.tup [.call "_law_deed" [.var 0]]))], .ret (.var 2)] }
def d_law_size : Q.Def := { name := "_law_size", arity := 2, names := ["tape", "most"], body := [.ret (.tup [.bin .Add (.int 1) (.call "_law_draw" [.var 0, .var 1]), .bin .Add (.int 1) (.call "_law_draw" [.var 0, .var 1])])] }
def d_law_turned : Q.Def := { name := "_law_turned", arity := 4, names := ["rule", "size", "place", "way"], body := [.ite (.isN (.var 2)) [.ret (.non)] [], .ite (.cmp .Eq (.var 3) (.int 0)) [.ret (.tup [.sub (.var 2) (.int 0), .bin .Sub (.bin .Sub (.sub (.var 1) (.int 1)) (.int 1)) (.sub (.var 2) (.int 1))])] [], .ret (.ite (.cmp .Eq (.var 3) (.int 1)) (.tup [.bin .Sub (.bin .Sub (.sub (.var 1) (.int 0)) (.int 1)) (.sub (.var 2) (.int 0)), .sub (.var 2) (.int 1)]) (.rev (.var 2)))] }
def d_law_other : Q.Def := { name := "_law_other", arity := 2, names := ["rule", "way", "north", "west", "corner"], body := [.par [2, 3] [.sub (.sub (.var 0) (.int 0)) (.int 0), .sub (.sub (.var 0) (.int 0)) (.int 1)], .ite (.cmp .Eq (.var 1) (.int 0)) [.ret (.bin .Add (.tup [.bin .Add (.var 2) (.ite (.cmp .Eq (.var 3) (.str "w")) (.str "e") (.str "w"))]) (.slice (.var 0) (.int 1) (.none_)))] [], .ite (.cmp .Eq (.var 1) (.int 1)) [.ret (.bin .Add (.tup [.bin .Add (.ite (.cmp .Eq (.var 2) (.str "n")) (.str "s") (.str "n")) (.var 3)]) (.slice (.var 0) (.int 1) (.none_)))] [], .set (.name 4) (.bin .Add (.ite (.cmp .Eq (.var 3) (.str "w")) (.str "n") (.str "s")) (.ite (.cmp .Eq (.var 2) (.str "n")) (.str "w") (.str "e"))), .ret (.bin .Add (.tup [.var 4, .ite (.cmp .Eq (.sub (.var 0) (.int 1)) (.str "columns")) (.str "rows") (.str "columns")]) (.slice (.var 0) (.int 2) (.none_)))] }
def d_law : Q.Def := { name := "law", arity := 1, names := ["script", "tape", "turn", "rule", "size", "way", "row", "deed", "due", "name", "place", "other"], body := [.set (.name 1) (.lst true [.bi .list false [.var 0], .int 0, .int 0]), .for_ (.name 2) (.rng1 (.int 24)) [.par [3, 4, 5] [.call "_law_rule" [.var 1], .call "_law_size" [.var 1, .sub (.lst false [.int 3, .int 5, .bin .Pow (.int 10) (.int 15)]) (.call "_law_draw" [.var 1, .int 3])], .call "_law_draw" [.var 1, .int 3]], .set (.name 6) (.bi .tuple false [.comp [("deed", 7)] (.name 7) (.seq (.call "_law_row" [.var 1, .int 5])) (.mem (.sub (.var 7) (.int 0)) (.tup [.str "add", .str "drop", .str "sort"])) (.var 7)]), .set (.name 8) (.lst true []), .for_ (.tup [.name 9, .name 10]) (.seq (.sub (.call "laid" [.var 3, .var 4, .var 6]) (.int 1))) [.expr (.meth .append (.var 8) [.tup [.var 9, .call "_law_turned" [.var 3, .var 4, .var 10, .var 5]]])], .set (.name 11) (.ite (.cmp .Eq (.var 5) (.int 2)) (.rev (.var 4)) (.var 4)), .ite (.cmp .NotEq (.call "laid" [.call "_law_other" [.var 3, .var 5], .var 11, .var 6]) (.tup [.var 11, .bi .tuple false [.var 8]])) [.ret (.bl false)] []], .ret (.cmp .Eq (.call "_law_other" [.tup [.str "ne", .str "rows", .str "stay", .bl true], .int 2]) (.tup [.str "sw", .str "columns", .str "stay", .bl true]))] }
def sg : Q.Sig := ⟨("cell_at", 3) :: ("index_of", 3) :: ("is_on", 2) :: ("first_free", 4) :: ("taken", 1) :: ("called_back", 2) :: ("filled", 3) :: ("resized", 3) :: ("added", 3) :: ("dropped", 3) :: ("with_places", 2) :: ("put", 4) :: ("sorted_by_name", 2) :: ("after", 3) :: ("last_state", 3) :: ("shown", 1) :: ("laid", 3) :: ("_law_draw", 2) :: ("_law_rule", 1) :: ("_law_name", 1) :: ("_law_deed", 1) :: ("_law_row", 2) :: ("_law_size", 2) :: ("_law_turned", 4) :: ("_law_other", 2) :: [], [], ["shown"], []⟩
def cst (x : Str) : Option Q.D := none
def tab (f : Str) : Option Q.Def := if f = "cell_at" then some d_cell_at else if f = "index_of" then some d_index_of else if f = "is_on" then some d_is_on else if f = "first_free" then some d_first_free else if f = "taken" then some d_taken else if f = "called_back" then some d_called_back else if f = "filled" then some d_filled else if f = "resized" then some d_resized else if f = "added" then some d_added else if f = "dropped" then some d_dropped else if f = "with_places" then some d_with_places else if f = "put" then some d_put else if f = "sorted_by_name" then some d_sorted_by_name else if f = "after" then some d_after else if f = "last_state" then some d_last_state else if f = "shown" then some d_shown else if f = "laid" then some d_laid else if f = "_law_draw" then some d_law_draw else if f = "_law_rule" then some d_law_rule else if f = "_law_name" then some d_law_name else if f = "_law_deed" then some d_law_deed else if f = "_law_row" then some d_law_row else if f = "_law_size" then some d_law_size else if f = "_law_turned" then some d_law_turned else if f = "_law_other" then some d_law_other else if f = "law" then some d_law else none
theorem ok_cell_at : Q.okDef sg d_cell_at (topS 1) ["rule", "size", "index"] = true := by decide +kernel
theorem tab_cell_at : tab "cell_at" = some d_cell_at := rfl
theorem ok_index_of : Q.okDef sg d_index_of (topS 2) ["rule", "size", "place"] = true := by decide +kernel
theorem tab_index_of : tab "index_of" = some d_index_of := rfl
theorem ok_is_on : Q.okDef sg d_is_on (topS 3) ["size", "place"] = true := by decide +kernel
theorem tab_is_on : tab "is_on" = some d_is_on := rfl
theorem ok_first_free : Q.okDef sg d_first_free (topS 4) ["rule", "size", "taken", "start"] = true := by decide +kernel
theorem tab_first_free : tab "first_free" = some d_first_free := rfl
theorem ok_taken : Q.okDef sg d_taken (topS 6) ["icons"] = true := by decide +kernel
theorem tab_taken : tab "taken" = some d_taken := rfl
theorem ok_called_back : Q.okDef sg d_called_back (topS 7) ["size", "icons"] = true := by decide +kernel
theorem tab_called_back : tab "called_back" = some d_called_back := rfl
theorem ok_filled : Q.okDef sg d_filled (topS 8) ["rule", "size", "icons"] = true := by decide +kernel
theorem tab_filled : tab "filled" = some d_filled := rfl
theorem ok_resized : Q.okDef sg d_resized (topS 9) ["rule", "state", "more"] = true := by decide +kernel
theorem tab_resized : tab "resized" = some d_resized := rfl
theorem ok_added : Q.okDef sg d_added (topS 10) ["rule", "state", "name"] = true := by decide +kernel
theorem tab_added : tab "added" = some d_added := rfl
theorem ok_dropped : Q.okDef sg d_dropped (topS 11) ["rule", "state", "name"] = true := by decide +kernel
theorem tab_dropped : tab "dropped" = some d_dropped := rfl
theorem ok_with_places : Q.okDef sg d_with_places (topS 12) ["icons", "places"] = true := by decide +kernel
theorem tab_with_places : tab "with_places" = some d_with_places := rfl
theorem ok_put : Q.okDef sg d_put (topS 13) ["rule", "state", "name", "place"] = true := by decide +kernel
theorem tab_put : tab "put" = some d_put := rfl
theorem ok_sorted_by_name : Q.okDef sg d_sorted_by_name (topS 14) ["rule", "state"] = true := by decide +kernel
theorem tab_sorted_by_name : tab "sorted_by_name" = some d_sorted_by_name := rfl
theorem ok_after : Q.okDef sg d_after (topS 15) ["rule", "state", "deed"] = true := by decide +kernel
theorem tab_after : tab "after" = some d_after := rfl
theorem ok_last_state : Q.okDef sg d_last_state (topS 16) ["rule", "size", "row"] = true := by decide +kernel
theorem tab_last_state : tab "last_state" = some d_last_state := rfl
theorem ok_shown : Q.okDef sg d_shown (topS 17) ["state"] = true := by decide +kernel
theorem tab_shown : tab "shown" = some d_shown := rfl
theorem ok_laid : Q.okDef sg d_laid (topS 18) ["rule", "size", "row"] = true := by decide +kernel
theorem tab_laid : tab "laid" = some d_laid := rfl
theorem ok_law_draw : Q.okDef sg d_law_draw (topS 20) ["tape", "many"] = true := by decide +kernel
theorem tab_law_draw : tab "_law_draw" = some d_law_draw := rfl
theorem ok_law_rule : Q.okDef sg d_law_rule (topS 21) ["tape"] = true := by decide +kernel
theorem tab_law_rule : tab "_law_rule" = some d_law_rule := rfl
theorem ok_law_name : Q.okDef sg d_law_name (topS 22) ["tape"] = true := by decide +kernel
theorem tab_law_name : tab "_law_name" = some d_law_name := rfl
theorem ok_law_deed : Q.okDef sg d_law_deed (topS 23) ["tape"] = true := by decide +kernel
theorem tab_law_deed : tab "_law_deed" = some d_law_deed := rfl
theorem ok_law_row : Q.okDef sg d_law_row (topS 24) ["tape", "most"] = true := by decide +kernel
theorem tab_law_row : tab "_law_row" = some d_law_row := rfl
theorem ok_law_size : Q.okDef sg d_law_size (topS 25) ["tape", "most"] = true := by decide +kernel
theorem tab_law_size : tab "_law_size" = some d_law_size := rfl
theorem ok_law_turned : Q.okDef sg d_law_turned (topS 26) ["rule", "size", "place", "way"] = true := by decide +kernel
theorem tab_law_turned : tab "_law_turned" = some d_law_turned := rfl
theorem ok_law_other : Q.okDef sg d_law_other (topS 27) ["rule", "way"] = true := by decide +kernel
theorem tab_law_other : tab "_law_other" = some d_law_other := rfl
theorem ok_law : Q.okDef sg d_law (topS 28) ["script"] = true := by decide +kernel
theorem tab_law : tab "law" = some d_law := rfl
end K

namespace K
open PySem PySem.Spec L2 Q QL
abbrev depth : Nat := 60
def turns : Nat := 2000
theorem lt : LayTab tab := ⟨rfl, rfl, rfl, rfl, rfl, rfl, rfl, rfl, rfl, rfl, rfl, rfl, rfl, rfl, rfl, rfl, rfl⟩
theorem t_draw : tab "_law_draw" = some QL.d_law_draw := rfl
theorem t_rule : tab "_law_rule" = some QL.d_law_rule := rfl
theorem t_name : tab "_law_name" = some QL.d_law_name := rfl
theorem t_deed : tab "_law_deed" = some QL.d_law_deed := rfl
theorem t_row : tab "_law_row" = some QL.d_law_row := rfl
theorem t_size : tab "_law_size" = some QL.d_law_size := rfl
theorem hT : 1002 ≤ turns := by decide
section
variable {k : Nat} {st : Store}
theorem rev_p {p : Pl} {st : Store} : kRev (placeD p) st = some (.tup [.int p.2, .int p.1], st) := rfl
theorem rev_s {R C : Int} {st : Store} : kRev (sizeD R C) st = some (.tup [.int C, .int R], st) := rfl
theorem turned {r : Rule} {R C w : Int} (hw : Way w) {p : Option Pl} : callN cst turns tab (k + 1) "_law_turned" [ruleD r, sizeD R C, optD p, .int w] st = some (optD (p.map (turnP w R C)), st) := by
  rw [call_eq tab_law_turned rfl]
  cases p with
  | none => simp only [d_law_turned, List.map_cons, List.map_nil, List.length_cons, List.length_nil, Nat.reduceAdd, Nat.reduceSub, Nat.reduceLT, List.replicate, List.cons_append, List.nil_append, Go, Ev1, Ev2, Ev3, Ex1, Ex2, Q.Pl, Val1, set_name, kSet_name, kSet_tup, stTs_name, stTs_nil, setAll_cons, evl_cons, Sx, List.getElem?_cons_zero, List.getElem?_cons_succ, List.set_cons_zero, List.set_cons_succ, Option.map_some, Option.bind_some, decide_eq_true_eq, if_true, if_false, Bool.false_eq_true, asO_some, asO_no, noneX_t, noneX_i, noneX_v, noneX_n, kAug_add, kAug_sub, Isa, MkT, comp_eq, for_eq, lst_eq_nil, BEq.rfl, Nw, fStar_tup, fStar2_eq, OptE, IcE, RuleE, PlaceE]; rfl
  | some p =>
    have e0 : optD (some p) = placeD p := rfl
    rw [e0]
    rcases hw with rfl | rfl | rfl
    · simp only [d_law_turned, List.map_cons, List.map_nil, List.length_cons, List.length_nil, Nat.reduceAdd, Nat.reduceSub, Nat.reduceLT, List.replicate, List.cons_append, List.nil_append, Go, Ev1, Ev2, Ev3, Ex1, Ex2, Q.Pl, Val1, set_name, kSet_name, kSet_tup, stTs_name, stTs_nil, setAll_cons, evl_cons, Sx, List.getElem?_cons_zero, List.getElem?_cons_succ, List.set_cons_zero, List.set_cons_succ, Option.map_some, Option.bind_some, decide_eq_true_eq, if_true, if_false, Bool.false_eq_true, asO_some, asO_no, noneX_t, noneX_i, noneX_v, noneX_n, kAug_add, kAug_sub, Isa, MkT, comp_eq, for_eq, lst_eq_nil, BEq.rfl, Nw, fStar_tup, fStar2_eq, OptE, IcE, RuleE, PlaceE]; rfl
    · simp only [d_law_turned, List.map_cons, List.map_nil, List.length_cons, List.length_nil, Nat.reduceAdd, Nat.reduceSub, Nat.reduceLT, List.replicate, List.cons_append, List.nil_append, Go, Ev1, Ev2, Ev3, Ex1, Ex2, Q.Pl, Val1, set_name, kSet_name, kSet_tup, stTs_name, stTs_nil, setAll_cons, evl_cons, Sx, List.getElem?_cons_zero, List.getElem?_cons_succ, List.set_cons_zero, List.set_cons_succ, Option.map_some, Option.bind_some, decide_eq_true_eq, if_true, if_false, Bool.false_eq_true, asO_some, asO_no, noneX_t, noneX_i, noneX_v, noneX_n, kAug_add, kAug_sub, Isa, MkT, comp_eq, for_eq, lst_eq_nil, BEq.rfl, Nw, fStar_tup, fStar2_eq, OptE, IcE, RuleE, PlaceE, show ((1 : Int) == 0) = false from rfl]; rfl
    · simp only [d_law_turned, List.map_cons, List.map_nil, List.length_cons, List.length_nil, Nat.reduceAdd, Nat.reduceSub, Nat.reduceLT, List.replicate, List.cons_append, List.nil_append, Go, Ev1, Ev2, Ev3, Ex1, Ex2, Q.Pl, Val1, set_name, kSet_name, kSet_tup, stTs_name, stTs_nil, setAll_cons, evl_cons, Sx, List.getElem?_cons_zero, List.getElem?_cons_succ, List.set_cons_zero, List.set_cons_succ, Option.map_some, Option.bind_some, decide_eq_true_eq, if_true, if_false, Bool.false_eq_true, asO_some, asO_no, noneX_t, noneX_i, noneX_v, noneX_n, kAug_add, kAug_sub, Isa, MkT, comp_eq, for_eq, lst_eq_nil, BEq.rfl, Nw, fStar_tup, fStar2_eq, OptE, IcE, RuleE, PlaceE, show ((2 : Int) == 0) = false from rfl, show ((2 : Int) == 1) = false from rfl, rev_p]; rfl
theorem cat2 {x y z : Str} {st : Store} (h : x.length + y.length ≤ 1000000) (e : x ++ y = z) : binD .Add (.str x) (.str y) st = some (.str z, st) := by
  show (if x.length + y.length ≤ 1000000 then some (D.str (x ++ y), st) else none) = _
  rw [if_pos h, e]
theorem cat_s : (∀ st, binD .Add (.str "n") (.str "e") st = some (.str "ne", st)) ∧ (∀ st, binD .Add (.str "n") (.str "w") st = some (.str "nw", st)) ∧ (∀ st, binD .Add (.str "s") (.str "e") st = some (.str "se", st)) ∧ (∀ st, binD .Add (.str "s") (.str "w") st = some (.str "sw", st)) :=
  ⟨fun _ => cat2 (by decide +kernel) (by decide +kernel), fun _ => cat2 (by decide +kernel) (by decide +kernel), fun _ => cat2 (by decide +kernel) (by decide +kernel), fun _ => cat2 (by decide +kernel) (by decide +kernel)⟩
theorem sl_r1 {r : Rule} {st : Store} : sliceD (ruleD r) (some 1) none st = some (.tup [.str (wayS r.r), .str (memS r.m), .bl r.b], st) := rfl
theorem sl_r2 {r : Rule} {st : Store} : sliceD (ruleD r) (some 2) none st = some (.tup [.str (memS r.m), .bl r.b], st) := rfl
theorem add13 {a b c d : D} {st : Store} : binD .Add (.tup [a]) (.tup [b, c, d]) st = some (.tup [a, b, c, d], st) := rfl
theorem add22 {a b c d : D} {st : Store} : binD .Add (.tup [a, b]) (.tup [c, d]) st = some (.tup [a, b, c, d], st) := rfl
theorem signs : (("w" : Str) == ("w" : Str)) = true ∧ (("e" : Str) == ("w" : Str)) = false ∧ (("n" : Str) == ("n" : Str)) = true ∧ (("s" : Str) == ("n" : Str)) = false ∧ (wayS true == ("columns" : Str)) = false ∧ (wayS false == ("columns" : Str)) = true := by
  refine ⟨?_, ?_, ?_, ?_, ?_, ?_⟩ <;> decide +kernel
theorem mkT1' {a : D} {st : Store} : mkT [a] st = some (.tup [a], st) := rfl
theorem other_ok {r : Rule} {w : Int} (hw : Way w) : callN cst turns tab (k + 1) "_law_other" [ruleD r, .int w] st = some (ruleD (otherR w r), st) := by
  rw [call_eq tab_law_other rfl]
  obtain ⟨s, e, rr, m, b⟩ := r
  rcases hw with rfl | rfl | rfl
  · cases s <;> cases e <;> simp only [d_law_other, List.map_cons, List.map_nil, List.length_cons, List.length_nil, Nat.reduceAdd, Nat.reduceSub, Nat.reduceLT, List.replicate, List.cons_append, List.nil_append, Go, Ev1, Ev2, Ev3, Ex1, Ex2, Q.Pl, Val1, set_name, kSet_name, kSet_tup, stTs_name, stTs_nil, setAll_cons, evl_cons, Sx, List.getElem?_cons_zero, List.getElem?_cons_succ, List.set_cons_zero, List.set_cons_succ, Option.map_some, Option.bind_some, decide_eq_true_eq, if_true, if_false, Bool.false_eq_true, asO_some, asO_no, noneX_t, noneX_i, noneX_v, noneX_n, kAug_add, kAug_sub, Isa, MkT, comp_eq, for_eq, lst_eq_nil, BEq.rfl, Nw, fStar_tup, fStar2_eq, OptE, IcE, RuleE, PlaceE, signs, cat_s, sl_r1, add13, mkT1'] <;> rfl
  · cases s <;> cases e <;> simp only [d_law_other, List.map_cons, List.map_nil, List.length_cons, List.length_nil, Nat.reduceAdd, Nat.reduceSub, Nat.reduceLT, List.replicate, List.cons_append, List.nil_append, Go, Ev1, Ev2, Ev3, Ex1, Ex2, Q.Pl, Val1, set_name, kSet_name, kSet_tup, stTs_name, stTs_nil, setAll_cons, evl_cons, Sx, List.getElem?_cons_zero, List.getElem?_cons_succ, List.set_cons_zero, List.set_cons_succ, Option.map_some, Option.bind_some, decide_eq_true_eq, if_true, if_false, Bool.false_eq_true, asO_some, asO_no, noneX_t, noneX_i, noneX_v, noneX_n, kAug_add, kAug_sub, Isa, MkT, comp_eq, for_eq, lst_eq_nil, BEq.rfl, Nw, fStar_tup, fStar2_eq, OptE, IcE, RuleE, PlaceE, signs, cat_s, sl_r1, add13, mkT1', show ((1 : Int) == 0) = false from rfl] <;> rfl
  · cases s <;> cases e <;> cases rr <;> simp only [d_law_other, List.map_cons, List.map_nil, List.length_cons, List.length_nil, Nat.reduceAdd, Nat.reduceSub, Nat.reduceLT, List.replicate, List.cons_append, List.nil_append, Go, Ev1, Ev2, Ev3, Ex1, Ex2, Q.Pl, Val1, set_name, kSet_name, kSet_tup, stTs_name, stTs_nil, setAll_cons, evl_cons, Sx, List.getElem?_cons_zero, List.getElem?_cons_succ, List.set_cons_zero, List.set_cons_succ, Option.map_some, Option.bind_some, decide_eq_true_eq, if_true, if_false, Bool.false_eq_true, asO_some, asO_no, noneX_t, noneX_i, noneX_v, noneX_n, kAug_add, kAug_sub, Isa, MkT, comp_eq, for_eq, lst_eq_nil, BEq.rfl, Nw, fStar_tup, fStar2_eq, OptE, IcE, RuleE, PlaceE, signs, cat_s, sl_r2, add22, show ((2 : Int) == 0) = false from rfl, show ((2 : Int) == 1) = false from rfl] <;> rfl
end
/-! ### the law -/
theorem Tp.grow {cells : List Int} {n : Nat} {b : Int} {st0 st : Store} (ex : Store) (h : Tp cells n b st0 st) : Tp cells n b (st ++ ex) (st ++ ex) := by
  obtain ⟨⟨i, c, h1, h2, h3⟩, _⟩ := h
  refine ⟨⟨i, c, ?_, h2, h3⟩, rfl, fun _ _ => rfl⟩
  unfold tapeAt at h1 ⊢
  rw [List.getElem?_append_left (List.getElem?_eq_some_iff.mp h1).1]
  exact h1
theorem Tp.keep {cells : List Int} {b : Int} {st0 st st' : Store} (h : Tp cells 0 b st0 st) (e : st'[0]? = st[0]?) : Tp cells 0 b st' st' := by
  obtain ⟨⟨i, c, h1, h2, h3⟩, _⟩ := h
  refine ⟨⟨i, c, ?_, h2, h3⟩, rfl, fun _ _ => rfl⟩
  unfold tapeAt at h1 ⊢
  rw [e]
  exact h1
theorem Tp.pos {cells : List Int} {b : Int} {st0 st : Store} (h : Tp cells 0 b st0 st) : 0 < st.length := by
  obtain ⟨⟨i, c, h1, h2, h3⟩, _⟩ := h
  unfold tapeAt at h1
  exact (List.getElem?_eq_some_iff.mp h1).1
theorem app_m {st : Store} {n : Nat} {xs : List D} {d : D} (h : st[n]? = some (.lst xs)) (hl : xs.length ≤ 1000) : methD .append (.loc n) [d] st = some (.non, st.set n (.lst (xs ++ [d]))) := by
  simp only [methD, h]
  rw [if_pos (Nat.lt_of_lt_of_le (show xs.length < 1001 by omega) (by decide))]
theorem app_ok {st : Store} {n : Nat} {xs : List D} (h : st[n]? = some (.lst xs)) : meOk .append (.loc n) st = true := by
  show (lstOf st (.loc n)).isSome = true
  simp only [lstOf, h]; rfl
theorem meth_ev {C : Q.Ctx} {f : Me} {o : X} {es : List X} {env : Q.Env} {st : Store} : ev C (.meth f o es) env st = th (fMeth C f es env) (ev C o env st) := QL.meth_ev
abbrev lawB : List S := QL.bodyOf (d_law.body.getD 1 .pass)
abbrev duB : List S := fBodyOf (lawB.getD 3 .pass)
abbrev duT : Tt := fTgtOf (lawB.getD 3 .pass)
theorem du_loop {r : Rule} {R C w : Int} (hw : Way w) {n : Nat} {a0 a1 a2 a6 a7 a11 : Option D} : ∀ {l : Ics} {acc : List D} {x9 x10 : Option D} {st : Store}, st[n]? = some (.lst acc) → acc.length + l.length ≤ 500 →
    ∃ y9 y10 st', forLoop none (bindT duT) (exL (cx cst turns tab depth) duB) (l.map pairD) [a0, a1, a2, some (ruleD r), some (sizeD R C), some (.int w), a6, a7, some (.loc n), x9, x10, a11] st
      = some (.next, [a0, a1, a2, some (ruleD r), some (sizeD R C), some (.int w), a6, a7, some (.loc n), y9, y10, a11], st') ∧ st'[n]? = some (.lst (acc ++ l.map fun i => pairD (tI w R C i))) ∧ ∀ m, m ≠ n → st'[m]? = st[m]?
  | [], acc, x9, x10, st, h, _ => ⟨x9, x10, st, rfl, by rw [List.map_nil, List.append_nil]; exact h, fun _ _ => rfl⟩
  | i :: l, acc, x9, x10, st, h, hl => by
    rw [List.length_cons] at hl
    have hn : n < st.length := (List.getElem?_eq_some_iff.mp h).1
    have ap := app_m (d := pairD (tI w R C i)) h (by omega)
    have ap : methD .append (.loc n) [.tup [.str i.n, optD (i.p.map (turnP w R C))]] st = some (.non, st.set n (.lst (acc ++ [pairD (tI w R C i)]))) := ap
    have run : exL (cx cst turns tab depth) duB [a0, a1, a2, some (ruleD r), some (sizeD R C), some (.int w), a6, a7, some (.loc n), some (.str i.n), some (optD i.p), a11] st = some (.next, [a0, a1, a2, some (ruleD r), some (sizeD R C), some (.int w), a6, a7, some (.loc n), some (.str i.n), some (optD i.p), a11], st.set n (.lst (acc ++ [pairD (tI w R C i)]))) := by
      simp only [duB, lawB, QL.bodyOf, fBodyOf, d_law, List.getD_cons_succ, List.getD_cons_zero, List.map_cons, List.map_nil, List.length_cons, List.length_nil, Nat.reduceAdd, Nat.reduceSub, Nat.reduceLT, List.replicate, List.cons_append, List.nil_append, Go, Ev1, Ev2, Ev3, Ex1, Ex2, Q.Pl, Val1, set_name, kSet_name, kSet_tup, stTs_name, stTs_nil, setAll_cons, evl_cons, Sx, List.getElem?_cons_zero, List.getElem?_cons_succ, List.set_cons_zero, List.set_cons_succ, Option.map_some, Option.bind_some, decide_eq_true_eq, if_true, if_false, Bool.false_eq_true, asO_some, asO_no, noneX_t, noneX_i, noneX_v, noneX_n, kAug_add, kAug_sub, Isa, MkT, comp_eq, for_eq, lst_eq_nil, BEq.rfl, Nw, fStar_tup, fStar2_eq, OptE, IcE, RuleE, PlaceE, meth_ev, Ex2, app_ok h, turned (k := 59) hw, ap]
    obtain ⟨y9, y10, st', g, g2, g3⟩ := du_loop hw (r := r) (R := R) (C := C) (n := n) (a0 := a0) (a1 := a1) (a2 := a2) (a6 := a6) (a7 := a7) (a11 := a11) (l := l) (acc := acc ++ [pairD (tI w R C i)]) (x9 := some (.str i.n)) (x10 := some (optD i.p)) (st := st.set n (.lst (acc ++ [pairD (tI w R C i)]))) (List.getElem?_set_self hn) (by rw [List.length_append]; simp; omega)
    refine ⟨y9, y10, st', ?_, ?_, fun m hm => ?_⟩
    · rw [List.map_cons, for_next (env1 := [a0, a1, a2, some (ruleD r), some (sizeD R C), some (.int w), a6, a7, some (.loc n), some (.str i.n), some (optD i.p), a11]) rfl run, g]
    · rw [g2, List.map_cons, List.append_assoc]; rfl
    · rw [g3 m hm, List.getElem?_set_ne (fun z => hm z.symm)]
def wordV : Deed → Str
  | .add _ => "add"
  | .drop _ => "drop"
  | .put _ _ _ => "put"
  | .sort => "sort"
  | .size _ _ => "size"
theorem word_d {d : Deed} {st : Store} : subD st (deedD d) (.int 0) = some (.str (wordV d)) := by cases d <;> rfl
theorem word_in {d : Deed} {st : Store} : memD st (.str (wordV d)) (.tup [.str "add", .str "drop", .str "sort"]) = some (isAds d) := by
  cases d <;> (simp only [memD, flatD, List.all_cons, List.all_nil, Bool.and_self, if_true, List.any_cons, List.any_nil, D.eq, wordV, isAds]; decide +kernel)
theorem turn {ns : List Int} {b : Int} {st0 st : Store} {a2 a3 a4 a5 a6 a7 a8 a9 a10 a11 : Option D} (h : Tp ns 0 b st0 st) (hb : b ≤ 1000000) :
    ∃ env2 st2, exL (cx cst turns tab depth) lawB [some (.frz ns), some (.loc 0), a2, a3, a4, a5, a6, a7, a8, a9, a10, a11] st = some (.next, env2, st2) ∧
    ∃ c2 c3 c4 c5 c6 c7 c8 c9 c10 c11, env2 = [some (.frz ns), some (.loc 0), c2, c3, c4, c5, c6, c7, c8, c9, c10, c11] ∧ ∃ st1, Tp ns 0 (b + 60) st1 st2 := by
  obtain ⟨st1, r, e1, hm, t1⟩ := rule (cst := cst) (turns := turns) (k := 58) t_draw t_rule h (by omega)
  obtain ⟨st2, d2, e2, h2, t2⟩ := draw (cst := cst) (turns := turns) (k := 59) (m := 3) t_draw t1 (by omega) (by decide) (by decide)
  obtain ⟨m, hm1, hm2, hm3⟩ : ∃ m : Int, (∀ st, subD st (.lst [.int 3, .int 5, .int 1000000000000000]) (.int d2) = some (.int m)) ∧ 0 < m ∧ m ≤ 1000000000000000 := by
    have : d2 = 0 ∨ d2 = 1 ∨ d2 = 2 := by omega
    rcases this with rfl | rfl | rfl
    · exact ⟨3, fun _ => rfl, by decide, by decide⟩
    · exact ⟨5, fun _ => rfl, by decide, by decide⟩
    · exact ⟨1000000000000000, fun _ => rfl, by decide, by decide⟩
  have mb : m ≤ 2 ^ 200 := Int.le_trans hm3 (by decide +kernel)
  obtain ⟨st3, R, C, e3, hR, hC, t3⟩ := size (cst := cst) (turns := turns) (k := 58) (m := m) t_draw t_size t2 (by omega) hm2 mb
  obtain ⟨st4, w, e4, h4, t4⟩ := draw (cst := cst) (turns := turns) (k := 59) (m := 3) t_draw t3 (by omega) (by decide) (by decide)
  obtain ⟨st5, ds, e5, od, hl, t5⟩ := lawRow (cst := cst) (turns := turns) (k := 56) t_draw t_name t_deed t_row (m := 5) (by decide) t4 (by omega)
  have hw : Way w := by unfold Way; omega
  let row := ds.filter isAds
  have hrow : okRow row := ⟨fun d hd => od d (List.mem_filter.mp hd).1, Nat.le_trans (List.length_filter_le _ _) (by omega)⟩
  have ads : ∀ d ∈ row, isAds d = true := fun d hd => (List.mem_filter.mp hd).2
  have R2 : 1 ≤ rowsO w R C ∧ rowsO w R C ≤ 1000000000000000000000 := by unfold rowsO; split <;> omega
  have C2 : 1 ≤ colsO w R C ∧ colsO w R C ≤ 1000000000000000000000 := by unfold colsO; split <;> omega
  obtain ⟨ex6, g6⟩ := laid_s (cst := cst) (turns := turns) (tab := tab) (k := 53) (st := st5 ++ [.lst []]) lt hm hT (R := R) (C := C) ⟨hR.1, by omega⟩ ⟨hC.1, by omega⟩ hrow
  have len : (lastV r ⟨R, C, []⟩ row).is.length < 64 := (bd_all (r := r) (A := 1000000000000000000000000) (inv_empty hR.1 hC.1) hrow.1 (by have := hrow.2; show R + _ ≤ _; omega) (by have := hrow.2; show C + _ ≤ _; omega) (by decide) (by have := hrow.2; show 0 + _ < _; omega)).last.len
  have at5 : (st5 ++ [SO.lst []] ++ ex6)[st5.length]? = some (.lst []) := by
    rw [List.getElem?_append_left (by simp)]; exact get_last
  obtain ⟨y9, y10, st7, g7, q7, k7⟩ := du_loop hw (r := r) (R := R) (C := C) (n := st5.length) (a0 := some (.frz ns)) (a1 := some (.loc 0)) (a2 := a2) (a6 := some (rowD row)) (a7 := a7) (a11 := a11) (l := sortI (lastV r ⟨R, C, []⟩ row).is) (acc := []) (x9 := a9) (x10 := a10) at5 (by rw [sortI_len]; simp; omega)
  rw [List.nil_append] at q7
  have hm' : (otherR w r).m < 3 := by
    have : (otherR w r).m = r.m := by unfold otherR; split <;> (try split) <;> rfl
    omega
  obtain ⟨ex8, g8⟩ := laid_s (cst := cst) (turns := turns) (tab := tab) (k := 53) (st := st7) lt hm' hT (R := rowsO w R C) (C := colsO w R C) R2 C2 hrow
  rw [show_turn hw ads] at g8
  have show6 : showV r R C row = .tup [sizeD (lastV r ⟨R, C, []⟩ row).R (lastV r ⟨R, C, []⟩ row).C, .tup ((sortI (lastV r ⟨R, C, []⟩ row).is).map pairD)] := rfl
  rw [show6] at g6
  have q8 : (st7 ++ ex8)[st5.length]? = some (.lst ((sortI (lastV r ⟨R, C, []⟩ row).is).map fun i => pairD (tI w R C i))) := by
    rw [List.getElem?_append_left (List.getElem?_eq_some_iff.mp q7).1]; exact q7
  have tp8 : biD .tuple false [.loc st5.length] (st7 ++ ex8) = some (.tup ((sortI (lastV r ⟨R, C, []⟩ row).is).map fun i => pairD (tI w R C i)), st7 ++ ex8) := by
    show ((seqOf (st7 ++ ex8) (.loc st5.length)).bind fun xs => mkT xs (st7 ++ ex8)) = _
    simp only [seqOf, q8, Option.bind_some]
    exact mkT_ok (size_le (by rw [List.length_map, sortI_len]; omega))
  have wd : wid 4 (.tup [sizeD (rowsO w R C) (colsO w R C), .tup ((sortI (lastV r ⟨R, C, []⟩ row).is).map fun i => pairD (tI w R C i))]) := by
    refine ⟨by simp, fun d hd => ?_⟩
    simp only [List.mem_cons, List.not_mem_nil, or_false] at hd
    rcases hd with rfl | rfl
    · exact wid_place (p := (rowsO w R C, colsO w R C))
    · refine ⟨by rw [List.length_map, sortI_len]; omega, fun d hd => ?_⟩
      obtain ⟨i, _, rfl⟩ := List.mem_map.mp hd
      refine ⟨by simp, fun d hd => ?_⟩
      simp only [List.mem_cons, List.not_mem_nil, or_false] at hd
      rcases hd with rfl | rfl
      · simp [wid]
      · cases (tI w R C i).p with
        | none => simp [optD, wid]
        | some p => exact wid_place
  have ne := fun st => ne_self (st := st) wd (by decide)
  have ot : ∀ st, callN cst turns tab 60 "_law_other" [ruleD r, .int w] st = some (ruleD (otherR w r), st) := fun st => other_ok (k := 59) hw
  have mk : ∀ st, mkL true [] st = some (.loc st.length, st ++ [.lst []]) := fun st => mkL_t (by simp)
  have three : ∀ st, mkL false [.int 3, .int 5, .int 1000000000000000] st = some (.lst [.int 3, .int 5, .int 1000000000000000], st) := fun st => mkL_f (by simp [sizeLine])
  have sz : (if (w == 2) = true then (.tup [.int C, .int R] : D) else sizeD R C) = sizeD (rowsO w R C) (colsO w R C) := by
    rcases hw with rfl | rfl | rfl <;> rfl
  simp only [duB, duT, lawB, QL.bodyOf, fBodyOf, fTgtOf, d_law, List.getD_cons_succ, List.getD_cons_zero] at g7
  simp only [lawB, QL.bodyOf, d_law, List.getD_cons_succ, List.getD_cons_zero, List.map_cons, List.map_nil, List.length_cons, List.length_nil, Nat.reduceAdd, Nat.reduceSub, Nat.reduceLT, List.replicate, List.cons_append, List.nil_append, Go, Ev1, Ev2, Ev3, Ex1, Ex2, Q.Pl, Val1, set_name, kSet_name, kSet_tup, stTs_name, stTs_nil, setAll_cons, evl_cons, Sx, List.getElem?_cons_zero, List.getElem?_cons_succ, List.set_cons_zero, List.set_cons_succ, Option.map_some, Option.bind_some, decide_eq_true_eq, if_true, if_false, Bool.false_eq_true, asO_some, asO_no, noneX_t, noneX_i, noneX_v, noneX_n, kAug_add, kAug_sub, Isa, MkT, comp_eq, for_eq, lst_eq_nil, BEq.rfl, Nw, fStar_tup, fStar2_eq, OptE, IcE, RuleE, PlaceE, e1, pow15, three, e2, hm1, e3, e4, e5, src_row]
  rw [loop_flat (F := deedD) (G := fun d => if isAds d = true then [deedD d] else []) fun d _ => by
    rw [one1_bind (env1 := [some (.frz ns), some (.loc 0), a2, some (ruleD r), some (sizeD R C), some (.int w), a6, some (deedD d), a8, a9, a10, a11]) rfl]
    simp only [List.map_cons, List.map_nil, List.length_cons, List.length_nil, Nat.reduceAdd, Nat.reduceSub, Nat.reduceLT, List.replicate, List.cons_append, List.nil_append, Go, Ev1, Ev2, Ev3, Ex1, Ex2, Q.Pl, Val1, set_name, kSet_name, kSet_tup, stTs_name, stTs_nil, setAll_cons, evl_cons, Sx, List.getElem?_cons_zero, List.getElem?_cons_succ, List.set_cons_zero, List.set_cons_succ, Option.map_some, Option.bind_some, decide_eq_true_eq, if_true, if_false, Bool.false_eq_true, asO_some, asO_no, noneX_t, noneX_i, noneX_v, noneX_n, kAug_add, kAug_sub, Isa, MkT, comp_eq, for_eq, lst_eq_nil, BEq.rfl, Nw, fStar_tup, fStar2_eq, OptE, IcE, RuleE, PlaceE, word_d, word_in]
    cases isAds d <;> simp only [kBl_bl, List.map_cons, List.map_nil, List.length_cons, List.length_nil, Nat.reduceAdd, Nat.reduceSub, Nat.reduceLT, List.replicate, List.cons_append, List.nil_append, Go, Ev1, Ev2, Ev3, Ex1, Ex2, Q.Pl, Val1, set_name, kSet_name, kSet_tup, stTs_name, stTs_nil, setAll_cons, evl_cons, Sx, List.getElem?_cons_zero, List.getElem?_cons_succ, List.set_cons_zero, List.set_cons_succ, Option.map_some, Option.bind_some, decide_eq_true_eq, if_true, if_false, Bool.false_eq_true, asO_some, asO_no, noneX_t, noneX_i, noneX_v, noneX_n, kAug_add, kAug_sub, Isa, MkT, comp_eq, for_eq, lst_eq_nil, BEq.rfl, Nw, fStar_tup, fStar2_eq, OptE, IcE, RuleE, PlaceE]]
  rw [flat_if (f := deedD) (c := isAds), endC_ok (size_le (by rw [List.length_map]; exact Nat.le_trans (List.length_filter_le _ _) (by omega)))]
  have tr : ∀ st, biD .tuple false [.lst ((ds.filter isAds).map deedD)] st = some (rowD row, st) := fun st => tup_of (by rw [List.length_map]; exact Nat.le_trans (List.length_filter_le _ _) (by omega))
  simp only [List.map_cons, List.map_nil, List.length_cons, List.length_nil, Nat.reduceAdd, Nat.reduceSub, Nat.reduceLT, List.replicate, List.cons_append, List.nil_append, Go, Ev1, Ev2, Ev3, Ex1, Ex2, Q.Pl, Val1, set_name, kSet_name, kSet_tup, stTs_name, stTs_nil, setAll_cons, evl_cons, Sx, List.getElem?_cons_zero, List.getElem?_cons_succ, List.set_cons_zero, List.set_cons_succ, Option.map_some, Option.bind_some, decide_eq_true_eq, if_true, if_false, Bool.false_eq_true, asO_some, asO_no, noneX_t, noneX_i, noneX_v, noneX_n, kAug_add, kAug_sub, Isa, MkT, comp_eq, for_eq, lst_eq_nil, BEq.rfl, Nw, fStar_tup, fStar2_eq, OptE, IcE, RuleE, PlaceE, tr, evl_nil, mk, g6, g7]
  have fin : st7[0]? = st5[0]? := by
    have p5 := Tp.pos t5
    rw [k7 0 (by omega), List.getElem?_append_left (by simp), List.getElem?_append_left p5]
  have t7 : Tp ns 0 (b + 60) st7 st7 := (Tp.keep t5 fin).mono (by omega)
  by_cases c : w = 2
  · have sz2 : (.tup [.int C, .int R] : D) = sizeD (rowsO w R C) (colsO w R C) := by subst c; rfl
    have b2 : (w == 2) = true := by simpa using c
    simp only [List.map_cons, List.map_nil, List.length_cons, List.length_nil, Nat.reduceAdd, Nat.reduceSub, Nat.reduceLT, List.replicate, List.cons_append, List.nil_append, Go, Ev1, Ev2, Ev3, Ex1, Ex2, Q.Pl, Val1, set_name, kSet_name, kSet_tup, stTs_name, stTs_nil, setAll_cons, evl_cons, Sx, List.getElem?_cons_zero, List.getElem?_cons_succ, List.set_cons_zero, List.set_cons_succ, Option.map_some, Option.bind_some, decide_eq_true_eq, if_true, if_false, Bool.false_eq_true, asO_some, asO_no, noneX_t, noneX_i, noneX_v, noneX_n, kAug_add, kAug_sub, Isa, MkT, comp_eq, for_eq, lst_eq_nil, BEq.rfl, Nw, fStar_tup, fStar2_eq, OptE, IcE, RuleE, PlaceE, b2, rev_s, sz2, ot, g8, tp8, ne]
    exact ⟨_, _, rfl, _, _, _, _, _, _, _, _, _, _, rfl, _, Tp.grow ex8 t7⟩
  · have sz2 : sizeD R C = sizeD (rowsO w R C) (colsO w R C) := by unfold rowsO colsO; rw [if_neg c, if_neg c]
    have b2 : (w == 2) = false := by simpa using c
    simp only [List.map_cons, List.map_nil, List.length_cons, List.length_nil, Nat.reduceAdd, Nat.reduceSub, Nat.reduceLT, List.replicate, List.cons_append, List.nil_append, Go, Ev1, Ev2, Ev3, Ex1, Ex2, Q.Pl, Val1, set_name, kSet_name, kSet_tup, stTs_name, stTs_nil, setAll_cons, evl_cons, Sx, List.getElem?_cons_zero, List.getElem?_cons_succ, List.set_cons_zero, List.set_cons_succ, Option.map_some, Option.bind_some, decide_eq_true_eq, if_true, if_false, Bool.false_eq_true, asO_some, asO_no, noneX_t, noneX_i, noneX_v, noneX_n, kAug_add, kAug_sub, Isa, MkT, comp_eq, for_eq, lst_eq_nil, BEq.rfl, Nw, fStar_tup, fStar2_eq, OptE, IcE, RuleE, PlaceE, b2]
    rw [show (sizeD R C) = sizeD (rowsO w R C) (colsO w R C) from sz2]
    simp only [List.map_cons, List.map_nil, List.length_cons, List.length_nil, Nat.reduceAdd, Nat.reduceSub, Nat.reduceLT, List.replicate, List.cons_append, List.nil_append, Go, Ev1, Ev2, Ev3, Ex1, Ex2, Q.Pl, Val1, set_name, kSet_name, kSet_tup, stTs_name, stTs_nil, setAll_cons, evl_cons, Sx, List.getElem?_cons_zero, List.getElem?_cons_succ, List.set_cons_zero, List.set_cons_succ, Option.map_some, Option.bind_some, decide_eq_true_eq, if_true, if_false, Bool.false_eq_true, asO_some, asO_no, noneX_t, noneX_i, noneX_v, noneX_n, kAug_add, kAug_sub, Isa, MkT, comp_eq, for_eq, lst_eq_nil, BEq.rfl, Nw, fStar_tup, fStar2_eq, OptE, IcE, RuleE, PlaceE, ot, g8, tp8, ne]
    exact ⟨_, _, rfl, _, _, _, _, _, _, _, _, _, _, rfl, _, Tp.grow ex8 t7⟩
theorem law_true (ns : List Int) (h : ns.length ≤ 63) : ∃ st', Q.callN cst turns tab (depth + 1) "law" [.frz ns] [] = some (.bl true, st') := by
  rw [call_eq tab_law rfl]
  obtain ⟨env2, st2, g1, c2, c3, c4, c5, c6, c7, c8, c9, c10, c11, rfl, stx, g3⟩ := forLoop_ix (bd := bindT (.name 2)) (body := exL (cx cst turns tab depth) lawB) (ds := rangeD 0 24) (j := 0)
      (I := fun j env st => ∃ c2 c3 c4 c5 c6 c7 c8 c9 c10 c11, env = [some (.frz ns), some (.loc 0), c2, c3, c4, c5, c6, c7, c8, c9, c10, c11] ∧ ∃ st0, Tp ns 0 (60 * j) st0 st)
      (env := [some (.frz ns), some (.loc 0), none, none, none, none, none, none, none, none, none, none]) (st := [.lst [.lst (ns.map D.int), .int 0, .int 0]]) ⟨_, _, _, _, _, _, _, _, _, _, rfl, _, Tp.start⟩ fun i d hd env st ⟨c2, c3, c4, c5, c6, c7, c8, c9, c10, c11, e, st0, t⟩ => by
        have hi : i < (rangeD 0 24).length := (List.getElem?_eq_some_iff.mp hd).1
        have hl : (rangeD 0 24).length = 24 := by simp [rangeD]
        subst e
        refine ⟨_, rfl, ?_⟩
        obtain ⟨env2, st2, g1, c2, c3, c4, c5, c6, c7, c8, c9, c10, c11, g2, st1, g3⟩ := turn (a2 := some d) (a3 := c3) (a4 := c4) (a5 := c5) (a6 := c6) (a7 := c7) (a8 := c8) (a9 := c9) (a10 := c10) (a11 := c11) t (by omega)
        exact ⟨env2, st2, g1, c2, c3, c4, c5, c6, c7, c8, c9, c10, c11, g2, st1, g3.mono (by omega)⟩
  have q1 : ∀ st, callN cst turns tab 60 "_law_other" [.tup [.str "ne", .str "rows", .str "stay", .bl true], .int 2] st = some (.tup [.str "sw", .str "columns", .str "stay", .bl true], st) := fun st => other_ok (k := 59) (r := ⟨false, true, true, 1, true⟩) (w := 2) (.inr (.inr rfl))
  have z1 : ∀ st, cmpD st .Eq (.tup [.str "sw", .str "columns", .str "stay", .bl true]) (.tup [.str "sw", .str "columns", .str "stay", .bl true]) = some true := fun st => by simp [cmpD, deq, pure1, D.ok, D.okL, D.eq, D.eqL]
  have lf := list_frz (st := []) h
  simp only [lawB, d_law, QL.bodyOf, List.getD_cons_succ, List.getD_cons_zero] at g1
  simp only [d_law, List.map_cons, List.map_nil, List.length_cons, List.length_nil, Nat.reduceAdd, Nat.reduceSub, Nat.reduceLT, List.replicate, List.cons_append, List.nil_append, Go, Ev1, Ev2, Ev3, Ex1, Ex2, Q.Pl, Val1, set_name, kSet_name, kSet_tup, stTs_name, stTs_nil, setAll_cons, evl_cons, Sx, List.getElem?_cons_zero, List.getElem?_cons_succ, List.set_cons_zero, List.set_cons_succ, Option.map_some, Option.bind_some, decide_eq_true_eq, if_true, if_false, Bool.false_eq_true, asO_some, asO_no, noneX_t, noneX_i, noneX_v, noneX_n, kAug_add, kAug_sub, Isa, MkT, comp_eq, for_eq, lst_eq_nil, BEq.rfl, Nw, fStar_tup, fStar2_eq, OptE, IcE, RuleE, PlaceE, lf, tape0, lim_of (show -1000000000000000000 ≤ (24 : Int) by decide) (show (24 : Int) ≤ 1000000000000000000 by decide), g1, q1, z1]
  exact ⟨_, rfl⟩
end K

namespace K
open PySem PySem.Spec PyProof.Rows L2
section
variable {w : World} {K : PySem.W.Frag} {h : Heap} {mg : Str → Option Value}
set_option maxHeartbeats 0 in
theorem all_mk {l : PySem.W.OpenLaw} {fa f0 f1 f2 f3 f4 f5 f6 f7 f8 f9 f10 f11 f12 f13 f14 f15 f16 f17 f18 f19 f20 f21 f22 f23 f24 f25 : Addr} (X : K.In h) (G : h.Ns mainGlobals mg) (hfa : mg "law" = some (.ref fa))
    {od0 an0 : Option Addr} {sl0 : Array (Option Value)} {oc0 kV0 dc0 pm0 ct0 : Value} {cd0 : Value}
    (a0 : PySem.W.nsIn K mainGlobals "law" = some (some (.ref f0))) (l0 : K.lookup f0 = some ⟨oc0, od0, .func (PySem.W.fnOf "law" "law" (defArgs (topS 28)) (defBody (topS 28)) (defScope (topS 28)) .none kV0 dc0 pm0 an0 cd0 ct0), sl0⟩)
    (c0 : PySem.W.codeIn K cd0 "law" = true) (k0 : PySem.W.keepIn K (.ref f0) = true)
    {od1 an1 : Option Addr} {sl1 : Array (Option Value)} {oc1 kV1 dc1 pm1 ct1 : Value} {cd1 : Value}
    (a1 : PySem.W.nsIn K mainGlobals "cell_at" = some (some (.ref f1))) (l1 : K.lookup f1 = some ⟨oc1, od1, .func (PySem.W.fnOf "cell_at" "cell_at" (defArgs (topS 1)) (defBody (topS 1)) (defScope (topS 1)) .none kV1 dc1 pm1 an1 cd1 ct1), sl1⟩)
    (c1 : PySem.W.codeIn K cd1 "cell_at" = true) (k1 : PySem.W.keepIn K (.ref f1) = true)
    {od2 an2 : Option Addr} {sl2 : Array (Option Value)} {oc2 kV2 dc2 pm2 ct2 : Value} {cd2 : Value}
    (a2 : PySem.W.nsIn K mainGlobals "index_of" = some (some (.ref f2))) (l2 : K.lookup f2 = some ⟨oc2, od2, .func (PySem.W.fnOf "index_of" "index_of" (defArgs (topS 2)) (defBody (topS 2)) (defScope (topS 2)) .none kV2 dc2 pm2 an2 cd2 ct2), sl2⟩)
    (c2 : PySem.W.codeIn K cd2 "index_of" = true) (k2 : PySem.W.keepIn K (.ref f2) = true)
    {od3 an3 : Option Addr} {sl3 : Array (Option Value)} {oc3 kV3 dc3 pm3 ct3 : Value} {cd3 : Value}
    (a3 : PySem.W.nsIn K mainGlobals "is_on" = some (some (.ref f3))) (l3 : K.lookup f3 = some ⟨oc3, od3, .func (PySem.W.fnOf "is_on" "is_on" (defArgs (topS 3)) (defBody (topS 3)) (defScope (topS 3)) .none kV3 dc3 pm3 an3 cd3 ct3), sl3⟩)
    (c3 : PySem.W.codeIn K cd3 "is_on" = true) (k3 : PySem.W.keepIn K (.ref f3) = true)
    {od4 an4 : Option Addr} {sl4 : Array (Option Value)} {oc4 kV4 dc4 pm4 ct4 : Value} {cd4 : Value}
    (a4 : PySem.W.nsIn K mainGlobals "first_free" = some (some (.ref f4))) (l4 : K.lookup f4 = some ⟨oc4, od4, .func (PySem.W.fnOf "first_free" "first_free" (defArgs (topS 4)) (defBody (topS 4)) (defScope (topS 4)) .none kV4 dc4 pm4 an4 cd4 ct4), sl4⟩)
    (c4 : PySem.W.codeIn K cd4 "first_free" = true) (k4 : PySem.W.keepIn K (.ref f4) = true)
    {od5 an5 : Option Addr} {sl5 : Array (Option Value)} {oc5 kV5 dc5 pm5 ct5 : Value} {cd5 : Value}
    (a5 : PySem.W.nsIn K mainGlobals "taken" = some (some (.ref f5))) (l5 : K.lookup f5 = some ⟨oc5, od5, .func (PySem.W.fnOf "taken" "taken" (defArgs (topS 6)) (defBody (topS 6)) (defScope (topS 6)) .none kV5 dc5 pm5 an5 cd5 ct5), sl5⟩)
    (c5 : PySem.W.codeIn K cd5 "taken" = true) (k5 : PySem.W.keepIn K (.ref f5) = true)
    {od6 an6 : Option Addr} {sl6 : Array (Option Value)} {oc6 kV6 dc6 pm6 ct6 : Value} {cd6 : Value}
    (a6 : PySem.W.nsIn K mainGlobals "called_back" = some (some (.ref f6))) (l6 : K.lookup f6 = some ⟨oc6, od6, .func (PySem.W.fnOf "called_back" "called_back" (defArgs (topS 7)) (defBody (topS 7)) (defScope (topS 7)) .none kV6 dc6 pm6 an6 cd6 ct6), sl6⟩)
    (c6 : PySem.W.codeIn K cd6 "called_back" = true) (k6 : PySem.W.keepIn K (.ref f6) = true)
    {od7 an7 : Option Addr} {sl7 : Array (Option Value)} {oc7 kV7 dc7 pm7 ct7 : Value} {cd7 : Value}
    (a7 : PySem.W.nsIn K mainGlobals "filled" = some (some (.ref f7))) (l7 : K.lookup f7 = some ⟨oc7, od7, .func (PySem.W.fnOf "filled" "filled" (defArgs (topS 8)) (defBody (topS 8)) (defScope (topS 8)) .none kV7 dc7 pm7 an7 cd7 ct7), sl7⟩)
    (c7 : PySem.W.codeIn K cd7 "filled" = true) (k7 : PySem.W.keepIn K (.ref f7) = true)
    {od8 an8 : Option Addr} {sl8 : Array (Option Value)} {oc8 kV8 dc8 pm8 ct8 : Value} {cd8 : Value}
    (a8 : PySem.W.nsIn K mainGlobals "resized" = some (some (.ref f8))) (l8 : K.lookup f8 = some ⟨oc8, od8, .func (PySem.W.fnOf "resized" "resized" (defArgs (topS 9)) (defBody (topS 9)) (defScope (topS 9)) .none kV8 dc8 pm8 an8 cd8 ct8), sl8⟩)
    (c8 : PySem.W.codeIn K cd8 "resized" = true) (k8 : PySem.W.keepIn K (.ref f8) = true)
    {od9 an9 : Option Addr} {sl9 : Array (Option Value)} {oc9 kV9 dc9 pm9 ct9 : Value} {cd9 : Value}
    (a9 : PySem.W.nsIn K mainGlobals "added" = some (some (.ref f9))) (l9 : K.lookup f9 = some ⟨oc9, od9, .func (PySem.W.fnOf "added" "added" (defArgs (topS 10)) (defBody (topS 10)) (defScope (topS 10)) .none kV9 dc9 pm9 an9 cd9 ct9), sl9⟩)
    (c9 : PySem.W.codeIn K cd9 "added" = true) (k9 : PySem.W.keepIn K (.ref f9) = true)
    {od10 an10 : Option Addr} {sl10 : Array (Option Value)} {oc10 kV10 dc10 pm10 ct10 : Value} {cd10 : Value}
    (a10 : PySem.W.nsIn K mainGlobals "dropped" = some (some (.ref f10))) (l10 : K.lookup f10 = some ⟨oc10, od10, .func (PySem.W.fnOf "dropped" "dropped" (defArgs (topS 11)) (defBody (topS 11)) (defScope (topS 11)) .none kV10 dc10 pm10 an10 cd10 ct10), sl10⟩)
    (c10 : PySem.W.codeIn K cd10 "dropped" = true) (k10 : PySem.W.keepIn K (.ref f10) = true)
    {od11 an11 : Option Addr} {sl11 : Array (Option Value)} {oc11 kV11 dc11 pm11 ct11 : Value} {cd11 : Value}
    (a11 : PySem.W.nsIn K mainGlobals "with_places" = some (some (.ref f11))) (l11 : K.lookup f11 = some ⟨oc11, od11, .func (PySem.W.fnOf "with_places" "with_places" (defArgs (topS 12)) (defBody (topS 12)) (defScope (topS 12)) .none kV11 dc11 pm11 an11 cd11 ct11), sl11⟩)
    (c11 : PySem.W.codeIn K cd11 "with_places" = true) (k11 : PySem.W.keepIn K (.ref f11) = true)
    {od12 an12 : Option Addr} {sl12 : Array (Option Value)} {oc12 kV12 dc12 pm12 ct12 : Value} {cd12 : Value}
    (a12 : PySem.W.nsIn K mainGlobals "put" = some (some (.ref f12))) (l12 : K.lookup f12 = some ⟨oc12, od12, .func (PySem.W.fnOf "put" "put" (defArgs (topS 13)) (defBody (topS 13)) (defScope (topS 13)) .none kV12 dc12 pm12 an12 cd12 ct12), sl12⟩)
    (c12 : PySem.W.codeIn K cd12 "put" = true) (k12 : PySem.W.keepIn K (.ref f12) = true)
    {od13 an13 : Option Addr} {sl13 : Array (Option Value)} {oc13 kV13 dc13 pm13 ct13 : Value} {cd13 : Value}
    (a13 : PySem.W.nsIn K mainGlobals "sorted_by_name" = some (some (.ref f13))) (l13 : K.lookup f13 = some ⟨oc13, od13, .func (PySem.W.fnOf "sorted_by_name" "sorted_by_name" (defArgs (topS 14)) (defBody (topS 14)) (defScope (topS 14)) .none kV13 dc13 pm13 an13 cd13 ct13), sl13⟩)
    (c13 : PySem.W.codeIn K cd13 "sorted_by_name" = true) (k13 : PySem.W.keepIn K (.ref f13) = true)
    {od14 an14 : Option Addr} {sl14 : Array (Option Value)} {oc14 kV14 dc14 pm14 ct14 : Value} {cd14 : Value}
    (a14 : PySem.W.nsIn K mainGlobals "after" = some (some (.ref f14))) (l14 : K.lookup f14 = some ⟨oc14, od14, .func (PySem.W.fnOf "after" "after" (defArgs (topS 15)) (defBody (topS 15)) (defScope (topS 15)) .none kV14 dc14 pm14 an14 cd14 ct14), sl14⟩)
    (c14 : PySem.W.codeIn K cd14 "after" = true) (k14 : PySem.W.keepIn K (.ref f14) = true)
    {od15 an15 : Option Addr} {sl15 : Array (Option Value)} {oc15 kV15 dc15 pm15 ct15 : Value} {cd15 : Value}
    (a15 : PySem.W.nsIn K mainGlobals "last_state" = some (some (.ref f15))) (l15 : K.lookup f15 = some ⟨oc15, od15, .func (PySem.W.fnOf "last_state" "last_state" (defArgs (topS 16)) (defBody (topS 16)) (defScope (topS 16)) .none kV15 dc15 pm15 an15 cd15 ct15), sl15⟩)
    (c15 : PySem.W.codeIn K cd15 "last_state" = true) (k15 : PySem.W.keepIn K (.ref f15) = true)
    {od16 an16 : Option Addr} {sl16 : Array (Option Value)} {oc16 kV16 dc16 pm16 ct16 : Value}
    {lc0 : Addr}
    (a16 : PySem.W.nsIn K mainGlobals "shown" = some (some (.ref f16))) (l16 : K.lookup f16 = some ⟨oc16, od16, .func (PySem.W.fnOf "shown" "shown" (defArgs (topS 17)) (defBody (topS 17)) (defScope (topS 17)) .none kV16 dc16 pm16 an16 (.ref lc0) ct16), sl16⟩)
    (c16 : PySem.W.codeIn K (.ref lc0) "shown" = true) (k16 : PySem.W.keepIn K (.ref f16) = true)
    {od17 an17 : Option Addr} {sl17 : Array (Option Value)} {oc17 kV17 dc17 pm17 ct17 : Value} {cd17 : Value}
    (a17 : PySem.W.nsIn K mainGlobals "laid" = some (some (.ref f17))) (l17 : K.lookup f17 = some ⟨oc17, od17, .func (PySem.W.fnOf "laid" "laid" (defArgs (topS 18)) (defBody (topS 18)) (defScope (topS 18)) .none kV17 dc17 pm17 an17 cd17 ct17), sl17⟩)
    (c17 : PySem.W.codeIn K cd17 "laid" = true) (k17 : PySem.W.keepIn K (.ref f17) = true)
    {od18 an18 : Option Addr} {sl18 : Array (Option Value)} {oc18 kV18 dc18 pm18 ct18 : Value} {cd18 : Value}
    (a18 : PySem.W.nsIn K mainGlobals "_law_draw" = some (some (.ref f18))) (l18 : K.lookup f18 = some ⟨oc18, od18, .func (PySem.W.fnOf "_law_draw" "_law_draw" (defArgs (topS 20)) (defBody (topS 20)) (defScope (topS 20)) .none kV18 dc18 pm18 an18 cd18 ct18), sl18⟩)
    (c18 : PySem.W.codeIn K cd18 "_law_draw" = true) (k18 : PySem.W.keepIn K (.ref f18) = true)
    {od19 an19 : Option Addr} {sl19 : Array (Option Value)} {oc19 kV19 dc19 pm19 ct19 : Value} {cd19 : Value}
    (a19 : PySem.W.nsIn K mainGlobals "_law_rule" = some (some (.ref f19))) (l19 : K.lookup f19 = some ⟨oc19, od19, .func (PySem.W.fnOf "_law_rule" "_law_rule" (defArgs (topS 21)) (defBody (topS 21)) (defScope (topS 21)) .none kV19 dc19 pm19 an19 cd19 ct19), sl19⟩)
    (c19 : PySem.W.codeIn K cd19 "_law_rule" = true) (k19 : PySem.W.keepIn K (.ref f19) = true)
    {od20 an20 : Option Addr} {sl20 : Array (Option Value)} {oc20 kV20 dc20 pm20 ct20 : Value} {cd20 : Value}
    (a20 : PySem.W.nsIn K mainGlobals "_law_name" = some (some (.ref f20))) (l20 : K.lookup f20 = some ⟨oc20, od20, .func (PySem.W.fnOf "_law_name" "_law_name" (defArgs (topS 22)) (defBody (topS 22)) (defScope (topS 22)) .none kV20 dc20 pm20 an20 cd20 ct20), sl20⟩)
    (c20 : PySem.W.codeIn K cd20 "_law_name" = true) (k20 : PySem.W.keepIn K (.ref f20) = true)
    {od21 an21 : Option Addr} {sl21 : Array (Option Value)} {oc21 kV21 dc21 pm21 ct21 : Value} {cd21 : Value}
    (a21 : PySem.W.nsIn K mainGlobals "_law_deed" = some (some (.ref f21))) (l21 : K.lookup f21 = some ⟨oc21, od21, .func (PySem.W.fnOf "_law_deed" "_law_deed" (defArgs (topS 23)) (defBody (topS 23)) (defScope (topS 23)) .none kV21 dc21 pm21 an21 cd21 ct21), sl21⟩)
    (c21 : PySem.W.codeIn K cd21 "_law_deed" = true) (k21 : PySem.W.keepIn K (.ref f21) = true)
    {od22 an22 : Option Addr} {sl22 : Array (Option Value)} {oc22 kV22 dc22 pm22 ct22 : Value} {cd22 : Value}
    (a22 : PySem.W.nsIn K mainGlobals "_law_row" = some (some (.ref f22))) (l22 : K.lookup f22 = some ⟨oc22, od22, .func (PySem.W.fnOf "_law_row" "_law_row" (defArgs (topS 24)) (defBody (topS 24)) (defScope (topS 24)) .none kV22 dc22 pm22 an22 cd22 ct22), sl22⟩)
    (c22 : PySem.W.codeIn K cd22 "_law_row" = true) (k22 : PySem.W.keepIn K (.ref f22) = true)
    {od23 an23 : Option Addr} {sl23 : Array (Option Value)} {oc23 kV23 dc23 pm23 ct23 : Value} {cd23 : Value}
    (a23 : PySem.W.nsIn K mainGlobals "_law_size" = some (some (.ref f23))) (l23 : K.lookup f23 = some ⟨oc23, od23, .func (PySem.W.fnOf "_law_size" "_law_size" (defArgs (topS 25)) (defBody (topS 25)) (defScope (topS 25)) .none kV23 dc23 pm23 an23 cd23 ct23), sl23⟩)
    (c23 : PySem.W.codeIn K cd23 "_law_size" = true) (k23 : PySem.W.keepIn K (.ref f23) = true)
    {od24 an24 : Option Addr} {sl24 : Array (Option Value)} {oc24 kV24 dc24 pm24 ct24 : Value} {cd24 : Value}
    (a24 : PySem.W.nsIn K mainGlobals "_law_turned" = some (some (.ref f24))) (l24 : K.lookup f24 = some ⟨oc24, od24, .func (PySem.W.fnOf "_law_turned" "_law_turned" (defArgs (topS 26)) (defBody (topS 26)) (defScope (topS 26)) .none kV24 dc24 pm24 an24 cd24 ct24), sl24⟩)
    (c24 : PySem.W.codeIn K cd24 "_law_turned" = true) (k24 : PySem.W.keepIn K (.ref f24) = true)
    {od25 an25 : Option Addr} {sl25 : Array (Option Value)} {oc25 kV25 dc25 pm25 ct25 : Value} {cd25 : Value}
    (a25 : PySem.W.nsIn K mainGlobals "_law_other" = some (some (.ref f25))) (l25 : K.lookup f25 = some ⟨oc25, od25, .func (PySem.W.fnOf "_law_other" "_law_other" (defArgs (topS 27)) (defBody (topS 27)) (defScope (topS 27)) .none kV25 dc25 pm25 an25 cd25 ct25), sl25⟩)
    (c25 : PySem.W.codeIn K cd25 "_law_other" = true) (k25 : PySem.W.keepIn K (.ref f25) = true)
    (z0 : PySem.W.nsIn K mainGlobals "len" = some none)
    (z1 : PySem.W.nsIn K mainGlobals "int" = some none)
    (z2 : PySem.W.nsIn K mainGlobals "bool" = some none)
    (z3 : PySem.W.nsIn K mainGlobals "abs" = some none)
    (z4 : PySem.W.nsIn K mainGlobals "max" = some none)
    (z5 : PySem.W.nsIn K mainGlobals "min" = some none)
    (z6 : PySem.W.nsIn K mainGlobals "all" = some none)
    (z7 : PySem.W.nsIn K mainGlobals "any" = some none)
    (z8 : PySem.W.nsIn K mainGlobals "tuple" = some none)
    (z9 : PySem.W.nsIn K mainGlobals "list" = some none)
    (z10 : PySem.W.nsIn K mainGlobals "range" = some none)
    (z11 : PySem.W.nsIn K mainGlobals "sorted" = some none)
    (z12 : PySem.W.nsIn K mainGlobals "dict" = some none)
    (z13 : PySem.W.nsIn K mainGlobals "enumerate" = some none)
    (z14 : PySem.W.nsIn K mainGlobals "zip" = some none)
    (z15 : PySem.W.nsIn K mainGlobals "isinstance" = some none)
    (z16 : PySem.W.nsIn K mainGlobals "set" = some none)
    (z17 : PySem.W.nsIn K mainGlobals "str" = some none)
    {lp0 : Addr} {to0 : Value} {td0 : Option Addr} {tv0 : Array Value} {ts0 : Array (Option Value)} (t0 : K.lookup lc0 = some ⟨to0, td0, .fields tv0, ts0⟩) (p0 : tv0[11]? = some (.ref lp0)) (u0 : PySem.W.codeHdIn K lc0 lp0 = true) (n0 : K.lookup lp0 = none) (y0 : h.get? lp0 = some { cls := .none, data := .fields #[] })
    : LamX.LawAtS l w K CX0 (depth + 1) 63 "script" mg fa h := by
  have e := hfa.symm.trans (PySem.W.mg_of X G a0)
  cases e
  have F0 := fun_mk (st := topS 28) l0 c0 k0
  have t : Q.Top K mg sg tab cst [(lp0, Q.lamQ "shown")] [(lc0, lp0)] := by
    refine ⟨fun p hp => ?_, fun x hx => ?_, fun x hx => ?_, fun f hf => ?_, fun p hp => ?_⟩
    · simp only [sg, List.mem_cons, List.not_mem_nil, or_false] at hp
      rcases hp with rfl | rfl | rfl | rfl | rfl | rfl | rfl | rfl | rfl | rfl | rfl | rfl | rfl | rfl | rfl | rfl | rfl | rfl | rfl | rfl | rfl | rfl | rfl | rfl | rfl
      · exact Q.has_mk (ps := ["rule", "size", "index"]) X G a1 l1 c1 k1 (fun _ _ _ _ _ _ us hl => match us, hl with | [_, _, _], _ => rfl) rfl tab_cell_at ok_cell_at rfl
      · exact Q.has_mk (ps := ["rule", "size", "place"]) X G a2 l2 c2 k2 (fun _ _ _ _ _ _ us hl => match us, hl with | [_, _, _], _ => rfl) rfl tab_index_of ok_index_of rfl
      · exact Q.has_mk (ps := ["size", "place"]) X G a3 l3 c3 k3 (fun _ _ _ _ _ _ us hl => match us, hl with | [_, _], _ => rfl) rfl tab_is_on ok_is_on rfl
      · exact Q.has_mk (ps := ["rule", "size", "taken", "start"]) X G a4 l4 c4 k4 (fun _ _ _ _ _ _ us hl => match us, hl with | [_, _, _, _], _ => rfl) rfl tab_first_free ok_first_free rfl
      · exact Q.has_mk (ps := ["icons"]) X G a5 l5 c5 k5 (fun _ _ _ _ _ _ us hl => match us, hl with | [_], _ => rfl) rfl tab_taken ok_taken rfl
      · exact Q.has_mk (ps := ["size", "icons"]) X G a6 l6 c6 k6 (fun _ _ _ _ _ _ us hl => match us, hl with | [_, _], _ => rfl) rfl tab_called_back ok_called_back rfl
      · exact Q.has_mk (ps := ["rule", "size", "icons"]) X G a7 l7 c7 k7 (fun _ _ _ _ _ _ us hl => match us, hl with | [_, _, _], _ => rfl) rfl tab_filled ok_filled rfl
      · exact Q.has_mk (ps := ["rule", "state", "more"]) X G a8 l8 c8 k8 (fun _ _ _ _ _ _ us hl => match us, hl with | [_, _, _], _ => rfl) rfl tab_resized ok_resized rfl
      · exact Q.has_mk (ps := ["rule", "state", "name"]) X G a9 l9 c9 k9 (fun _ _ _ _ _ _ us hl => match us, hl with | [_, _, _], _ => rfl) rfl tab_added ok_added rfl
      · exact Q.has_mk (ps := ["rule", "state", "name"]) X G a10 l10 c10 k10 (fun _ _ _ _ _ _ us hl => match us, hl with | [_, _, _], _ => rfl) rfl tab_dropped ok_dropped rfl
      · exact Q.has_mk (ps := ["icons", "places"]) X G a11 l11 c11 k11 (fun _ _ _ _ _ _ us hl => match us, hl with | [_, _], _ => rfl) rfl tab_with_places ok_with_places rfl
      · exact Q.has_mk (ps := ["rule", "state", "name", "place"]) X G a12 l12 c12 k12 (fun _ _ _ _ _ _ us hl => match us, hl with | [_, _, _, _], _ => rfl) rfl tab_put ok_put rfl
      · exact Q.has_mk (ps := ["rule", "state"]) X G a13 l13 c13 k13 (fun _ _ _ _ _ _ us hl => match us, hl with | [_, _], _ => rfl) rfl tab_sorted_by_name ok_sorted_by_name rfl
      · exact Q.has_mk (ps := ["rule", "state", "deed"]) X G a14 l14 c14 k14 (fun _ _ _ _ _ _ us hl => match us, hl with | [_, _, _], _ => rfl) rfl tab_after ok_after rfl
      · exact Q.has_mk (ps := ["rule", "size", "row"]) X G a15 l15 c15 k15 (fun _ _ _ _ _ _ us hl => match us, hl with | [_, _, _], _ => rfl) rfl tab_last_state ok_last_state rfl
      · exact Q.has_mk (ps := ["state"]) X G a16 l16 c16 k16 (fun _ _ _ _ _ _ us hl => match us, hl with | [_], _ => rfl) rfl tab_shown ok_shown rfl
      · exact Q.has_mk (ps := ["rule", "size", "row"]) X G a17 l17 c17 k17 (fun _ _ _ _ _ _ us hl => match us, hl with | [_, _, _], _ => rfl) rfl tab_laid ok_laid rfl
      · exact Q.has_mk (ps := ["tape", "many"]) X G a18 l18 c18 k18 (fun _ _ _ _ _ _ us hl => match us, hl with | [_, _], _ => rfl) rfl tab_law_draw ok_law_draw rfl
      · exact Q.has_mk (ps := ["tape"]) X G a19 l19 c19 k19 (fun _ _ _ _ _ _ us hl => match us, hl with | [_], _ => rfl) rfl tab_law_rule ok_law_rule rfl
      · exact Q.has_mk (ps := ["tape"]) X G a20 l20 c20 k20 (fun _ _ _ _ _ _ us hl => match us, hl with | [_], _ => rfl) rfl tab_law_name ok_law_name rfl
      · exact Q.has_mk (ps := ["tape"]) X G a21 l21 c21 k21 (fun _ _ _ _ _ _ us hl => match us, hl with | [_], _ => rfl) rfl tab_law_deed ok_law_deed rfl
      · exact Q.has_mk (ps := ["tape", "most"]) X G a22 l22 c22 k22 (fun _ _ _ _ _ _ us hl => match us, hl with | [_, _], _ => rfl) rfl tab_law_row ok_law_row rfl
      · exact Q.has_mk (ps := ["tape", "most"]) X G a23 l23 c23 k23 (fun _ _ _ _ _ _ us hl => match us, hl with | [_, _], _ => rfl) rfl tab_law_size ok_law_size rfl
      · exact Q.has_mk (ps := ["rule", "size", "place", "way"]) X G a24 l24 c24 k24 (fun _ _ _ _ _ _ us hl => match us, hl with | [_, _, _, _], _ => rfl) rfl tab_law_turned ok_law_turned rfl
      · exact Q.has_mk (ps := ["rule", "way"]) X G a25 l25 c25 k25 (fun _ _ _ _ _ _ us hl => match us, hl with | [_, _], _ => rfl) rfl tab_law_other ok_law_other rfl
    · exact absurd hx (by simp [sg])
    · simp only [Q.blts, List.mem_cons, List.not_mem_nil, or_false] at hx
      rcases hx with rfl | rfl | rfl | rfl | rfl | rfl | rfl | rfl | rfl | rfl | rfl | rfl | rfl | rfl | rfl | rfl | rfl | rfl
      · exact PySem.W.mg_none_of X G z0
      · exact PySem.W.mg_none_of X G z1
      · exact PySem.W.mg_none_of X G z2
      · exact PySem.W.mg_none_of X G z3
      · exact PySem.W.mg_none_of X G z4
      · exact PySem.W.mg_none_of X G z5
      · exact PySem.W.mg_none_of X G z6
      · exact PySem.W.mg_none_of X G z7
      · exact PySem.W.mg_none_of X G z8
      · exact PySem.W.mg_none_of X G z9
      · exact PySem.W.mg_none_of X G z10
      · exact PySem.W.mg_none_of X G z11
      · exact PySem.W.mg_none_of X G z12
      · exact PySem.W.mg_none_of X G z13
      · exact PySem.W.mg_none_of X G z14
      · exact PySem.W.mg_none_of X G z15
      · exact PySem.W.mg_none_of X G z16
      · exact PySem.W.mg_none_of X G z17
    · simp only [sg, List.mem_cons, List.not_mem_nil, or_false] at hf
      rcases hf with rfl
      · refine Q.lam_mk (Pt := lp0) X G a16 l16 rfl (by simp) (by simp) fun p hp hq => ?_
        simp only [List.mem_cons, List.not_mem_nil, or_false] at hp
        rcases hp with rfl
        · rfl
    · exact absurd hp (by simp [sg])
  refine ⟨_, [(lc0, lp0)], Q.spC K [(lp0, Q.lamQ "shown")] (Q.callN cst turns tab (depth + 1) "law"), ?_, ?_, ?_, fun s v => .of_eq rfl, fun H a ns hl _ hT hS => Q.script_ok ?_ hS (law_true ns hl).choose_spec, fun base _ _ TB => Q.law_ok t TB hfa rfl F0 ok_law tab_law⟩
  · intro p hp
    simp only [List.mem_cons, List.not_mem_nil, or_false] at hp
    rcases hp with rfl
    · exact y0
  · intro p hp
    simp only [List.mem_cons, List.not_mem_nil, or_false] at hp
    rcases hp with rfl
    · exact n0
  · intro p hp
    simp only [List.mem_cons, List.not_mem_nil, or_false] at hp
    rcases hp with rfl
    · exact PySem.W.codeHd_of_K X u0
  · intro p hp
    simp only [List.mem_cons, List.not_mem_nil, or_false] at hp
    rcases hp with rfl
    · exact hT (lc0, lp0) (by simp)
end
end K
open PySem PySem.W PyProof.Rows
set_option maxHeartbeats 0 in
theorem PySem.Challenge.cw_layicons_k15_whole_desks_turned_holds : PySem.Challenge.rw_layicons_k15_whole_desks_turned.Holds := by
  w_on; o_law; k_head; (case hw => w_witness2)
  k_fill
  refine LamX.walk_ofTs (l := PySem.Challenge.rw_layicons_k15_whole_desks_turned) (n := 63) (k := K.depth + 1) (x := "script") (CX := fun _ => L2.CX0) rfl (by decide) rfl ⟨rfl, by decide, by decide⟩ (fun w h Y => PySem.W.km_in_of Y) ?F (fun _ _ _ _ _ h => h)
  case F =>
    intro w mg fa h Y KX G hmg
    refine' K.all_mk KX G hmg ?a0 ?l0 ?c0 ?k0 ?a1 ?l1 ?c1 ?k1 ?a2 ?l2 ?c2 ?k2 ?a3 ?l3 ?c3 ?k3 ?a4 ?l4 ?c4 ?k4 ?a5 ?l5 ?c5 ?k5 ?a6 ?l6 ?c6 ?k6 ?a7 ?l7 ?c7 ?k7 ?a8 ?l8 ?c8 ?k8 ?a9 ?l9 ?c9 ?k9 ?a10 ?l10 ?c10 ?k10 ?a11 ?l11 ?c11 ?k11 ?a12 ?l12 ?c12 ?k12 ?a13 ?l13 ?c13 ?k13 ?a14 ?l14 ?c14 ?k14 ?a15 ?l15 ?c15 ?k15 ?a16 ?l16 ?c16 ?k16 ?a17 ?l17 ?c17 ?k17 ?a18 ?l18 ?c18 ?k18 ?a19 ?l19 ?c19 ?k19 ?a20 ?l20 ?c20 ?k20 ?a21 ?l21 ?c21 ?k21 ?a22 ?l22 ?c22 ?k22 ?a23 ?l23 ?c23 ?k23 ?a24 ?l24 ?c24 ?k24 ?a25 ?l25 ?c25 ?k25 ?z0 ?z1 ?z2 ?z3 ?z4 ?z5 ?z6 ?z7 ?z8 ?z9 ?z10 ?z11 ?z12 ?z13 ?z14 ?z15 ?z16 ?z17 ?t0 ?p0 ?u0 ?n0 ?y0
    (case a0 => k_is); (case l0 => k_is); (case c0 => k_is); (case k0 => k_is); (case a1 => k_is); (case l1 => k_is); (case c1 => k_is); (case k1 => k_is); (case a2 => k_is); (case l2 => k_is); (case c2 => k_is); (case k2 => k_is); (case a3 => k_is); (case l3 => k_is); (case c3 => k_is); (case k3 => k_is); (case a4 => k_is); (case l4 => k_is); (case c4 => k_is); (case k4 => k_is); (case a5 => k_is); (case l5 => k_is); (case c5 => k_is); (case k5 => k_is); (case a6 => k_is); (case l6 => k_is); (case c6 => k_is); (case k6 => k_is); (case a7 => k_is); (case l7 => k_is); (case c7 => k_is); (case k7 => k_is); (case a8 => k_is); (case l8 => k_is); (case c8 => k_is); (case k8 => k_is); (case a9 => k_is); (case l9 => k_is); (case c9 => k_is); (case k9 => k_is); (case a10 => k_is); (case l10 => k_is); (case c10 => k_is); (case k10 => k_is); (case a11 => k_is); (case l11 => k_is); (case c11 => k_is); (case k11 => k_is); (case a12 => k_is); (case l12 => k_is); (case c12 => k_is); (case k12 => k_is); (case a13 => k_is); (case l13 => k_is); (case c13 => k_is); (case k13 => k_is); (case a14 => k_is); (case l14 => k_is); (case c14 => k_is); (case k14 => k_is); (case a15 => k_is); (case l15 => k_is); (case c15 => k_is); (case k15 => k_is); (case a16 => k_is); (case l16 => k_is); (case c16 => k_is); (case k16 => k_is); (case a17 => k_is); (case l17 => k_is); (case c17 => k_is); (case k17 => k_is); (case a18 => k_is); (case l18 => k_is); (case c18 => k_is); (case k18 => k_is); (case a19 => k_is); (case l19 => k_is); (case c19 => k_is); (case k19 => k_is); (case a20 => k_is); (case l20 => k_is); (case c20 => k_is); (case k20 => k_is); (case a21 => k_is); (case l21 => k_is); (case c21 => k_is); (case k21 => k_is); (case a22 => k_is); (case l22 => k_is); (case c22 => k_is); (case k22 => k_is); (case a23 => k_is); (case l23 => k_is); (case c23 => k_is); (case k23 => k_is); (case a24 => k_is); (case l24 => k_is); (case c24 => k_is); (case k24 => k_is); (case a25 => k_is); (case l25 => k_is); (case c25 => k_is); (case k25 => k_is); (case z0 => k_is); (case z1 => k_is); (case z2 => k_is); (case z3 => k_is); (case z4 => k_is); (case z5 => k_is); (case z6 => k_is); (case z7 => k_is); (case z8 => k_is); (case z9 => k_is); (case z10 => k_is); (case z11 => k_is); (case z12 => k_is); (case z13 => k_is); (case z14 => k_is); (case z15 => k_is); (case z16 => k_is); (case z17 => k_is); (case t0 => k_is); (case p0 => exact rfl); (case u0 => kernel_rfl); (case n0 => kernel_rfl); (case y0 => exact PySem.W.km_tabs_of Y _ (by decide))
