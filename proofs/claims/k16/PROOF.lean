import PyProof.Rows.All
import HandS.Style
import HandS.TupAny
import HandS.Text
import Wide.All
import OpenK.AllK
import Wide.FinOn
import HandS.ForMost
import HandS.Deep
import HandS.RaiseMore
import HandS.IsInst
import HandS.Flow
import KE.DataCmp
import KE.DataEq
import KE.SortData
import HandS.CallSlots
import HandS.Zip
import PyProof.DictUpdate
import PyProof.FactsAll.dict_3
import PyProof.FactsAll.dict_4
import HandS.DictTup
import HandS.Set
import HandS.SetFor
import PyProof.StrWalks
import HandS.More
import HandS.Small
import HandS.Words
import HandS.Defaults
import HandS.Head0
import HandS.Head1
import HandS.Head2
import HandS.HeadEnd
import HandS.HeadHook1
import HandS.HeadHook2
import HandS.HeadHook4
import HandS.HeadHook3
import PySem.Challenge.RW_meaningsled_k16_whole_tables_and_analyse
import KE.KStateDown
import PyProof.StrLaws
section
set_option Elab.async false
set_option linter.all false
set_option maxRecDepth 100000
set_option maxHeartbeats 4000000
/-! EvR1: t[::-1] of a tuple. -/
namespace HT
open PySem PySem.Spec PyProof.Rows L2
section
variable {prog : Program} {w : World} {A : Around} {E : Value → Shared → Prop} {s : Shared}
theorem adjust_rev (n : Nat) : Builtin.Slice.sliceAdjust none none (-1) (n : Int) = ((n : Int) - 1, -1) := rfl
theorem places_rev (n : Nat) : Builtin.Slice.slicePlaces ((n : Int) - 1) (-1) (-1) = n := by
  unfold Builtin.Slice.slicePlaces
  have h1 : ¬ ((-1 : Int) > 0) := by omega
  have h2 : (- -1 : Int) = 1 := by omega
  simp only [h1, if_false, h2, Int.ediv_one]
  split <;> omega
theorem fm_congr {α β : Type} {f g : α → Option β} : ∀ {l : List α}, (∀ x ∈ l, f x = g x) → l.filterMap f = l.filterMap g
  | [], _ => rfl
  | x :: l, h => by rw [List.filterMap_cons, List.filterMap_cons, h x (by simp), fm_congr fun y hy => h y (List.mem_cons_of_mem _ hy)]
theorem pick_rev (xs : Array Value) : ((List.range xs.size).filterMap fun (m : Nat) => xs[((((xs.size : Nat) : Int) - 1) + (m : Int) * (-1)).toNat]?).toArray = xs.toList.reverse.toArray := by
  have e : (List.range xs.size).filterMap (fun (m : Nat) => xs[((((xs.size : Nat) : Int) - 1) + (m : Int) * (-1)).toNat]?) = ((List.range xs.size).map fun k => xs.size - 1 - k).filterMap (xs[·]?) := by
    rw [List.filterMap_map]
    refine fm_congr fun k hk => ?_
    have := List.mem_range.mp hk
    have e : ((((xs.size : Nat) : Int) - 1) + (k : Int) * (-1)).toNat = xs.size - 1 - k := by omega
    rw [e]; rfl
  rw [e, PySem.W.krv_range, List.filterMap_reverse, PySem.W.krv_all]
theorem sliceApplied_rev {sl : Addr} {t : Tok} {n : Nat} {Q : Int × Int × Nat → Shared → Prop} (hs : s.heap.IsSliceOf sl .none .none (.int (-1) t))
    (h : Q ((n : Int) - 1, -1, n) s) : wpAny (model prog w) A (Builtin.Slice.sliceApplied (.ref sl) (pure (n : Int))) Q E s := by
  obtain ⟨os, hos, hcs, hds⟩ := id hs
  unfold Builtin.Slice.sliceApplied Builtin.Slice.sliceFields
  refine wpAny_bind (wpAny_bind (wpAny_field hos hds (x := .none) rfl (wpAny_bind (wpAny_field hos hds (x := .none) rfl (wpAny_bind (wpAny_field hos hds (x := .int (-1) t) rfl (wpAny_pure ?_)))))))
  refine wpAny_bind (slicePart_int ?_)
  show wpAny _ _ (if ((-1 : Int) == 0) = true then _ else _) _ _ s
  rw [if_neg (by decide)]
  refine wpAny_bind (slicePart_none (wpAny_bind (slicePart_none (wpAny_bind (wpAny_pure ?_)))))
  show wpAny _ _ (match Builtin.Slice.sliceAdjust none none (-1) (n : Int) with | (lo, hi) => pure (lo, (-1 : Int), Builtin.Slice.slicePlaces lo hi (-1))) _ _ s
  rw [adjust_rev n]
  show wpAny _ _ (pure ((n : Int) - 1, (-1 : Int), Builtin.Slice.slicePlaces ((n : Int) - 1) (-1) (-1))) _ _ s
  rw [places_rev]
  exact wpAny_pure h
theorem getItem_tuple_rev {t sl : Addr} {items : Array Value} {u : Tok} {Q : Value → Shared → Prop} (ht : IsTup s.heap t items) (hs : s.heap.IsSliceOf sl .none .none (.int (-1) u))
    (h : Q (.ref s.heap.objs.size) { s with heap := s.heap.push { cls := .type "tuple", data := .seq items.toList.reverse.toArray } })
    (hsz : items.size ≤ sizeLine) : wpAny (model prog w) A (getItem (.ref t) (.ref sl)) Q E s := by
  have htake : sizeOk (.seq items.toList.reverse.toArray) := by
    show items.toList.reverse.toArray.size ≤ sizeLine
    rw [List.size_toArray, List.length_reverse, Array.length_toList]
    exact hsz
  obtain ⟨os, hos, hcs, hds⟩ := id hs
  have hTs : s.TypeIs (.ref sl) "slice" := ⟨os, hos, hcs⟩
  unfold getItem
  try with_reducible refine wpAny_holding ?_
  first | refine wpAny_bind (wpAny_pure ?_) | skip
  refine wpAny_bind (wpAny_sequenceKey ht.typeIs (by decide) ?_)
  refine wpAny_bind (wpAny_callSpecial?_slot (name := Str.ofString "__getitem__") ht.typeIs PyProof.Rows.slot_tuple_getitem
    (wpAny_call_entry PyProof.Rows.slot_tuple_getitem ht.typeIs entry_tuple_getitem ?_ (args_tuple_getitem _ _)))
  show wpAny _ _ (Builtin.Tuple.tupleItemsOf (.ref t) >>= _) _ _ s
  refine wpAny_bind (tupleItemsOf_ ht ?_)
  refine wpAny_bind (wpAny_typeOf hTs ?_)
  rw [if_pos (by decide)]
  refine wpAny_bind (sliceApplied_rev hs ?_)
  have hno : ¬ ((((items.size : Nat) : Int) - 1 == 0 && (-1 : Int) == 1 && items.size == items.size) = true) := by
    intro q
    rw [Bool.and_eq_true, Bool.and_eq_true] at q
    exact absurd q.1.2 (by decide)
  show wpAny _ _ (if (((items.size : Nat) : Int) - 1 == 0 && (-1 : Int) == 1 && items.size == items.size) = true then _ else _) _ _ s
  rw [if_neg hno, pick_rev]
  first
    | exact wpAny_bind (m := Builtin.Tuple.tupleExact _) (wpAny_newObj_type (wpAny_pure ⟨_, rfl, wpAny_pure h⟩) htake)
    | exact wpAny_bind (m := Builtin.Tuple.tupleExact _) (wpAny_newObj_type (wpAny_bind (wpAny_pure (wpAny_pure ⟨_, rfl, wpAny_pure h⟩))) htake)
    | exact wpAny_bind (wpAny_bind (m := Builtin.Tuple.tupleExact _) (wpAny_newObj_type (wpAny_pure (wpAny_pure ⟨_, rfl, wpAny_pure h⟩)) htake))
    | exact wpAny_bind (wpAny_bind (m := Builtin.Tuple.tupleExact _) (wpAny_newObj_type (wpAny_pure ⟨_, rfl, wpAny_pure h⟩) htake))
end
end HT
namespace L2
open PySem PySem.Spec PyProof.Rows
/-- e[::-1], of a list or of a tuple -/
def tRevA (K : PySem.W.Frag) (te : TE) : TE := fun σ H Q => te σ H fun x H1 => ∃ a xs, x = .ref a ∧ ((SqL K H1 a xs ∧ ∀ p, H1 p = none → Q (.ref p) (upd H1 p (.lst xs.reverse))) ∨ (SqT K H1 a xs ∧ ∀ p, H1 p = none → Q (.ref p) (upd H1 p (.tup xs.reverse))))
theorem pe_revA {X : Cx} {e : Expr} {te : TE} {k : Nat} {p1 p2 p3 pos : Pos} (he : PE X e te) : PE X (.Subscript e (.Slice none none (some (.UnaryOp .USub (.Constant (.int 1) k p1) p2)) p3) pos) (tRevA X.K te) := by
  refine ⟨fun pins s σ H Q I h => ?_⟩
  refine Subscript_ (thn (he.run pins s σ H _ I h) fun v s1 ⟨x, H1, I1, r1, q1⟩ => ?_)
  obtain ⟨a, xs, ex, hq⟩ := q1
  subst ex
  cases r1
  have hst : PO X (some (.UnaryOp .USub (.Constant (.int 1) k p1) p2)) (tPart (tUn (rU fun i => .int (-i)) (tC (.int 1)))) := po_some (pe_un un_neg pe_int)
  refine wpAny_Slice (thn (po_none.run pins s1 σ H1 (fun o H2 => o = none ∧ H2 = H1) I1 ⟨rfl, rfl⟩) fun vl s2 ⟨l, H2, I2, pl, el, e2⟩ => ?_)
  subst el e2
  refine thn (po_none.run pins s2 σ H2 (fun o H3 => o = none ∧ H3 = H2) I2 ⟨rfl, rfl⟩) fun vu s3 ⟨u, H3, I3, pu, eu, e3⟩ => ?_
  subst eu e3
  refine thn (hst.run pins s3 σ H3 (fun o H4 => o = some (-1) ∧ H4 = H3) I3 ⟨1, rfl, -1, rfl, rfl, rfl⟩) fun vs s4 ⟨o, H4, I4, ps, eo, e4⟩ => ?_
  subst eo e4
  have I5 : Inv X pins σ H4 { s4 with heap := s4.heap.push { cls := .type "slice", data := .fields #[vl, vu, vs] } } := I4.kept (t' := s4.toks) fun b ob q => Heap.get?_push_of_some _ q
  show wpAny (model X.prog X.w) X.A (subscriptTail e (.Slice none none (some (.UnaryOp .USub (.Constant (.int 1) k p1) p2)) p3) (.ref a) (.ref s4.heap.objs.size)) (EP X pins σ Q) X.xe { s4 with heap := s4.heap.push { cls := .type "slice", data := .fields #[vl, vu, vs] } }
  rcases hq with ⟨hx, q⟩ | ⟨hx, q⟩
  · obtain ⟨its, r, ht, hz⟩ := I5.list hx
    have hlen := r.length
    refine tail_any (ops := [.ref a, .ref s4.heap.objs.size]) ht.isList.typeIs (PySem.slot_list_getitem.lookup) ?_ (by with_unfolding_all rfl)
    refine wpAny_getItem_list_slice ht.isList (Heap.IsSliceOf.new _ vl vu vs) pl pu ps (by decide) ?_ (by rw [List.size_toArray]; omega)
    rw [PySem.W.krv_pick]
    refine ⟨.ref _, _, I5.laid (t' := s4.toks) (o := .lst xs.reverse) (fun b ob q => Heap.get?_push_of_some _ q) (Nat.le_refl _) ?_, rfl, q _ (I5.hok.fresh (Nat.le_refl _))⟩
    exact ⟨by rw [List.length_reverse]; exact hz, _, 0, r.reverse, Heap.get?_push_size _ rfl⟩
  · obtain ⟨its, r, ht, hz⟩ := I5.tuple hx
    have hlen := r.length
    cases pl
    cases pu
    cases ps
    refine tail_any (ops := [.ref a, .ref s4.heap.objs.size]) ht.typeIs (PyProof.Rows.slot_tuple_getitem.lookup) ?_ (by with_unfolding_all rfl)
    refine HT.getItem_tuple_rev ht (Heap.IsSliceOf.new _ _ _ _) ?_ (by rw [List.size_toArray]; omega)
    refine ⟨.ref _, _, I5.laid (t' := s4.toks) (o := .tup xs.reverse) (fun b ob q => Heap.get?_push_of_some _ q) (Nat.le_refl _) ?_, rfl, q _ (I5.hok.fresh (Nat.le_refl _))⟩
    exact ⟨by rw [List.length_reverse]; exact hz, _, r.reverse, IsTup.new _ _⟩
end L2
end
section
set_option linter.all false
/-! EvA: plain data, the small syntax, the evaluator. -/
namespace Ev

abbrev Tx := List Nat
abbrev mostLen : Nat := 16777216

/-- plain data -/
inductive D where
  | non | bl (b : Bool) | int (i : Int) | str (x : Tx)
  | tup (l : List D) | lst (l : List D) | dct (l : List (D × D)) | fn (k : Nat) | scr (l : List Int)
deriving Inhabited, Repr

def b2i (b : Bool) : Int := if b then 1 else 0

mutual
/-- Python's == (no dicts, no functions: those never compare here) -/
def D.eq : D → D → Bool
  | .non, .non => true
  | .bl a, .bl b => a == b
  | .bl a, .int j => decide (b2i a = j)
  | .int i, .bl b => decide (i = b2i b)
  | .int i, .int j => decide (i = j)
  | .str x, .str y => decide (x = y)
  | .tup l, .tup m => D.eqs l m
  | .lst l, .lst m => D.eqs l m
  | _, _ => false
def D.eqs : List D → List D → Bool
  | [], [] => true
  | d :: l, e :: m => D.eq d e && D.eqs l m
  | _, _ => false
end
mutual
/-- data that may be compared: no dicts, no functions within, not too deep -/
def D.flat (n : Nat) : D → Bool
  | .dct _ => false
  | .fn _ => false
  | .scr _ => false
  | .tup l => (match n with | 0 => false | n + 1 => D.flats n l)
  | .lst l => (match n with | 0 => false | n + 1 => D.flats n l)
  | _ => true
def D.flats (n : Nat) : List D → Bool
  | [] => true
  | d :: l => D.flat n d && D.flats n l
end
abbrev D.ok (d : D) : Bool := D.flat 30 d

mutual
/-- data that may be set in order -/
def D.alike : D → D → Bool
  | .bl _, .bl _ => true
  | .int _, .int _ => true
  | .str _, .str _ => true
  | .non, .non => true
  | .tup l, .tup m => D.alikes l m
  | .lst l, .lst m => D.alikes l m
  | _, _ => false
def D.alikes : List D → List D → Bool
  | d :: l, e :: m => D.alike d e && D.alikes l m
  | [], _ => true
  | _ :: _, [] => true
end
mutual
def D.ltB : D → D → Bool
  | .bl a, .bl b => decide (b2i a < b2i b)
  | .int i, .int j => decide (i < j)
  | .str x, .str y => decide (x < y)
  | .tup l, .tup m => D.ltsB l m
  | .lst l, .lst m => D.ltsB l m
  | _, _ => false
def D.ltsB : List D → List D → Bool
  | [], [] => false
  | [], _ :: _ => true
  | _ :: _, [] => false
  | d :: l, e :: m => if D.eq d e then D.ltsB l m else D.ltB d e
end
/-- Python's <, where it is promised -/
def D.lt (d e : D) : Option Bool := if D.alike d e && !d.eq .non && d.ok && e.ok then some (D.ltB d e) else none

def keyOk : D → Bool
  | .int _ => true
  | .str _ => true
  | _ => false
/-- dict by keys -/
def dGet : List (D × D) → D → Option D
  | [], _ => none
  | (k, v) :: r, x => if D.eq k x then some v else dGet r x
def dPut (l : List (D × D)) (x y : D) : List (D × D) := if (l.any fun p => D.eq p.1 x) = true then l.map (fun p => if D.eq p.1 x = true then (p.1, y) else p) else l ++ [(x, y)]

/-- an index: of a length, where it lies -/
def ixOf (n : Nat) (i : Int) : Option Nat := if 0 ≤ i then (if i < n then some i.toNat else none) else if -(n : Int) ≤ i then some (i + n).toNat else none
def atI {α : Type} (xs : List α) (i : Int) : Option α := (ixOf xs.length i).bind fun j => xs[j]?
/-- a slice's end: of a length n, d where it is left out -/
def slIx (n d : Nat) : Option Int → Nat
  | none => d
  | some i => if i < 0 then (i + n).toNat else min i.toNat n
def cut {α : Type} (xs : List α) (lo hi : Option Int) : List α :=
  (xs.drop (slIx xs.length 0 lo)).take (slIx xs.length xs.length hi - slIx xs.length 0 lo)

/-- a value with what of it is owned by whoever holds it -/
inductive OV where
  | fz (d : D) | lst (l : List D) | dct (l : List (D × D))
deriving Inhabited, Repr
def OV.d : OV → D
  | .fz d => d
  | .lst l => .lst l
  | .dct l => .dct l
abbrev Env := List (Option OV)
def Env.at (ρ : Env) (i : Nat) : Option OV := match ρ[i]? with | some (some o) => some o | _ => none
def Env.put (ρ : Env) (i : Nat) (o : OV) : Env := ρ.set i (some o)

inductive Op2 | add | sub | mul | fdv | mod | pow deriving DecidableEq, Repr, Inhabited
inductive Cp | eq | ne | lt | le | gt | ge | is | isnot | isin | notin deriving DecidableEq, Repr, Inhabited
inductive Ty | int | bool | str | tuple | list | dict deriving DecidableEq, Repr, Inhabited
inductive BI | len | abs | int | str | tuple | list | all | any | sorted | sortset | sum | rev | sortdk deriving DecidableEq, Repr, Inhabited
inductive MT | split | join | ends | starts | get | count | index deriving DecidableEq, Repr, Inhabited
inductive MU | append | extend | pop deriving DecidableEq, Repr, Inhabited

mutual
inductive Tg where | nm (i : Nat) | tp (l : Tgs)
deriving Repr
inductive Tgs where | nil | cons (t : Tg) (l : Tgs)
deriving Repr
end
mutual
inductive E where
  | var (i : Nat) | mov (i : Nat) | cst (d : D) | glb (d : D)
  | tup (l : Es) | lst (l : Es) | dct (l : Ps)
  | bin (o : Op2) (a b : E) | neg (a : E) | cmp (c : Cp) (a b : E) | chn (c : Cp) (a b : E) (c' : Cp) (e : E)
  | and (a b : E) | or (a b : E) | not (a : E) | ite (t a b : E)
  | idx (a b : E) | slc (a lo hi : E)
  | bi (b : BI) (a : E) | isi (a : E) (ts : List Ty)
  | mt0 (m : MT) (o : E) | mt1 (m : MT) (o a : E) | mt2 (m : MT) (o a b : E)
  | mu0 (m : MU) (i : Nat) | mu1 (m : MU) (i : Nat) (a : E) | upd (i : Nat) (a : E)
  | df (k : Nat) (l : As)
  | lc (elt : E) (g : Tg) (it : It) (ifs : Es) (own : List Nat)
  | lc2 (elt : E) (g : Tg) (it : It) (g1 : Tg) (it1 : It) (ifs : Es) (own own1 : List Nat)
  | lcx (elt : E) (g : Tg) (i : Nat) (ifs : Es) (own : List Nat)
  | frz (a : E)
deriving Repr
inductive Es where | nil | cons (e : E) (l : Es)
deriving Repr
inductive Ps where | nil | cons (k v : E) (l : Ps)
deriving Repr
inductive As where | nil | val (e : E) (l : As) | bor (i : Nat) (l : As)
deriving Repr
inductive It where | ev (e : E) | rng1 (a : E) | rng2 (a b : E) | dwn (a b : E) | enum (e : E) | zip (a b : E) | items (e : E) | vals (e : E)
deriving Repr
end
mutual
inductive S where
  | ex (e : E) | set (g : Tg) (e : E) | par (i j : Nat) (a b : E) | aug (i : Nat) (o : Op2) (e : E)
  | sidx (i : Nat) (k e : E) | saug (i : Nat) (k : E) (o : Op2) (e : E) | sslc (i : Nat) (lo hi e : E)
  | ret (e : E) | retn | ifs (t : E) (a b : Ss) | fors (g : Tg) (it : It) (b : Ss) | whl (t : E) (b : Ss)
  | pass | brk | cnt
deriving Repr
inductive Ss where | nil | cons (s : S) (l : Ss)
deriving Repr
end

inductive Res (α : Type) where
  | ok (a : α) (ρ : Env) | exc (x : D) (ρ : Env) | bad
deriving Inhabited, Repr
def Res.bd {α β : Type} : Res α → (α → Env → Res β) → Res β
  | .ok a ρ, f => f a ρ
  | .exc x ρ, _ => .exc x ρ
  | .bad, _ => .bad
/-- a pure step that may fail -/
def Res.of {α : Type} (o : Option α) (ρ : Env) : Res α := match o with | some a => .ok a ρ | none => .bad
inductive Flow where | nx | brk | cnt | ret (o : OV)
deriving Inhabited, Repr
/-- what a def hands back: its value, and what stands in its parameters then -/
inductive CRes where
  | ok (r : OV) (outs : List (Option OV)) | exc (x : D) | bad
deriving Inhabited, Repr
abbrev CL := Nat → List OV → CRes

inductive Opd where | tmp (o : OV) | slot (i : Nat)
def opd (e : E) (r : Res OV) (ρ : Env) : Res Opd := match e with
  | .var i => (match ρ.at i with | some _ => .ok (.slot i) ρ | none => .bad)
  | _ => r.bd fun o ρ => .ok (.tmp o) ρ
def Opd.view (ρ : Env) : Opd → Option D
  | .tmp o => some o.d
  | .slot i => (ρ.at i).map OV.d

def bin2 : Op2 → D → D → Option OV
  | .add, .int i, .int j => some (.fz (.int (i + j)))
  | .add, .str x, .str y => if x.length + y.length ≤ mostLen then some (.fz (.str (x ++ y))) else none
  | .add, .lst x, .lst y => if x.length + y.length ≤ mostLen then some (.lst (x ++ y)) else none
  | .add, .tup x, .tup y => if x.length + y.length ≤ mostLen then some (.fz (.tup (x ++ y))) else none
  | .sub, .int i, .int j => some (.fz (.int (i - j)))
  | .mul, .int i, .int j => if i.natAbs < 2 ^ 64 ∨ j.natAbs < 2 ^ 64 then some (.fz (.int (i * j))) else none
  | .mul, .str x, .int j => if 0 ≤ j ∧ j < 100 ∧ x.length < 100 then some (.fz (.str (List.replicate j.toNat x).flatten)) else none
  | .fdv, .int i, .int j => if j ≠ 0 ∧ j.natAbs < 1073741824 then some (.fz (.int (i.fdiv j))) else none
  | .mod, .int i, .int j => if j ≠ 0 then some (.fz (.int (i.fmod j))) else none
  | .pow, .int i, .int j => if 0 ≤ j ∧ j ≤ 1000000 ∧ i.natAbs < 2 ^ 64 then some (.fz (.int (i ^ j.toNat))) else none
  | _, _, _ => none

def truth : D → Option Bool
  | .non => some false
  | .bl b => some b
  | .int i => some (i != 0)
  | .str x => if x.length ≤ mostLen then some (!x.isEmpty) else none
  | .tup l => some (!l.isEmpty)
  | .lst l => some (!l.isEmpty)
  | .dct _ => none
  | .fn _ => none
  | .scr _ => none

def isNon : D → Bool
  | .non => true
  | _ => false
def isIn : D → D → Option Bool
  | x, .lst l => if x.ok && D.flats 29 l then some (l.any fun y => D.eq y x) else none
  | x, .tup l => if x.ok && D.flats 29 l then some (l.any fun y => D.eq y x) else none
  | .str [c], .str y => some (decide (c ∈ y))
  | x, .dct l => if keyOk x then some (dGet l x).isSome else none
  | _, _ => none
def cmp2 : Cp → D → D → Option Bool
  | .eq, x, y => if x.ok && y.ok then some (D.eq x y) else none
  | .ne, x, y => if x.ok && y.ok then some (!D.eq x y) else none
  | .lt, x, y => D.lt x y
  | .gt, x, y => D.lt y x
  | .le, x, y => (D.lt y x).map (!·)
  | .ge, x, y => (D.lt x y).map (!·)
  | .is, x, .non => some (isNon x)
  | .isnot, x, .non => some (!isNon x)
  | .is, .bl a, .bl b => some (a == b)
  | .isnot, .bl a, .bl b => some (!(a == b))
  | .isin, x, y => isIn x y
  | .notin, x, y => (isIn x y).map (!·)
  | _, _, _ => none

def idx2 : D → D → Option D
  | .tup l, .int i => atI l i
  | .lst l, .int i => atI l i
  | .scr l, .int i => (atI l i).map .int
  | .str x, .int i => if x.length ≤ mostLen then (atI x i).map fun c => .str [c] else none
  | .dct l, k => if keyOk k then dGet l k else none
  | _, _ => none
def endOf : D → Option (Option Int)
  | .non => some none
  | .int i => some (some i)
  | _ => none
def slc3 (x : D) (a b : Option Int) : Option OV := match x with
  | .str x => if x.length ≤ mostLen then some (.fz (.str (cut x a b))) else none
  | .tup l => some (.fz (.tup (cut l a b)))
  | .lst l => some (.lst (cut l a b))
  | _ => none

/-- a text of figures -/
def intOf? (x : Tx) : Option Int := if x.length ≤ 640 then PySem.intText? ⟨x.toArray⟩ else none

def allAlike (l : List D) : Bool := l.all fun d => l.all fun e => D.alike d e
def isTupC : D → Bool
  | .tup (_ :: _) => true
  | _ => false
def isTup : D → Bool
  | .tup _ => true
  | _ => false
def D.le (d e : D) : Bool := !D.ltB e d
def sortOk (l : List D) : Bool := l.all D.ok && allAlike l && (l.all isTupC || l.all fun d => !isTup d && !d.eq .non)
/-- sorted: of data that are alike -/
def sortD (l : List D) : Option (List D) := if sortOk l && decide (l.length ≤ mostLen) then some (l.mergeSort D.le) else none
/-- each once, the first ones -/
def once {α : Type} [DecidableEq α] : List α → List α
  | [] => []
  | x :: r => x :: (once r).filter fun y => decide (y ≠ x)

def allB : List D → Option (List Bool)
  | [] => some []
  | .bl b :: r => (allB r).map (b :: ·)
  | _ => none
def allI : List D → Option (List Int)
  | [] => some []
  | .int i :: r => (allI r).map (i :: ·)
  | _ => none
def allS : List D → Option (List Tx)
  | [] => some []
  | .str x :: r => (allS r).map (x :: ·)
  | _ => none
/-- what a walk may go through here -/
def itemsV : D → Option (List D)
  | .lst l => some l
  | .tup l => some l
  | .str x => some (x.map fun c => .str [c])
  | .scr l => some (l.map .int)
  | _ => none
def lstOf : D → Option (List D)
  | .lst l => some l
  | _ => none
def bi1 : BI → D → Option OV
  | .len, .str x => if x.length ≤ mostLen then some (.fz (.int x.length)) else none
  | .len, .tup l => some (.fz (.int l.length))
  | .len, .lst l => some (.fz (.int l.length))
  | .len, .scr l => some (.fz (.int l.length))
  | .len, .dct l => some (.fz (.int l.length))
  | .abs, .int i => some (.fz (.int (if i < 0 then -i else i)))
  | .int, .int i => some (.fz (.int i))
  | .int, .bl b => some (.fz (.int (b2i b)))
  | .int, .str x => (intOf? x).map fun i => .fz (.int i)
  | .str, .int i => if 0 ≤ i ∧ i < 2 ^ 64 then some (.fz (.str (TL.numL i.toNat))) else none
  | .str, .str x => some (.fz (.str x))
  | .tuple, .lst l => some (.fz (.tup l))
  | .tuple, .tup l => some (.fz (.tup l))
  | .list, .lst l => some (.lst l)
  | .list, .tup l => some (.lst l)
  | .all, .lst l => (allB l).map fun bs => .fz (.bl (bs.all id))
  | .any, .lst l => (allB l).map fun bs => .fz (.bl (bs.any id))
  | .sum, .lst l => (allI l).map fun is => .fz (.int is.sum)
  | .sorted, .lst l => (sortD l).map .lst
  | .sortset, x => (itemsV x).bind fun l => if l.length ≤ 4000 then (match allI l with
    | some is => some (.lst (((once is).mergeSort fun a b => decide (a ≤ b)).map .int))
    | none => (allS l).bind fun ts => some (.lst (((once ts).mergeSort fun a b => decide (a ≤ b)).map .str))) else none
  | .sortdk, .dct l => (match allI (l.map (·.1)) with
    | some is => some (.lst ((is.mergeSort fun a b => decide (a ≤ b)).map .int))
    | none => (allS (l.map (·.1))).bind fun ts => some (.lst ((ts.mergeSort fun a b => decide (a ≤ b)).map .str)))
  | .rev, .lst l => some (.lst l.reverse)
  | .rev, .tup l => some (.fz (.tup l.reverse))
  | _, _ => none

def isTy : D → Ty → Bool
  | .bl _, .bool => true
  | .bl _, .int => true
  | .int _, .int => true
  | .str _, .str => true
  | .tup _, .tuple => true
  | .lst _, .list => true
  | .dct _, .dict => true
  | .scr _, .list => true
  | _, _ => false

def mth0 : MT → D → Option OV
  | _, _ => none
def mth1 : MT → D → D → Option OV
  | .split, .str x, .str y => if y ≠ [] ∧ y.all (· < 256) = true ∧ x.length + 2 ≤ mostLen then some (.lst ((TL.spl y 0 [] x).map .str)) else none
  | .join, .str x, .lst l => (allS l).bind fun ts => if (ts.map (·.length)).sum + ts.length * x.length ≤ mostLen then some (.fz (.str (TL.joinL x ts))) else none
  | .join, .str x, .tup l => (allS l).bind fun ts => if (ts.map (·.length)).sum + ts.length * x.length ≤ mostLen then some (.fz (.str (TL.joinL x ts))) else none
  | .ends, .str x, .str y => some (.fz (.bl (PySem.Txt.endswith ⟨x.toArray⟩ ⟨y.toArray⟩)))
  | .starts, .str x, .str y => some (.fz (.bl (PySem.Txt.startswith ⟨x.toArray⟩ ⟨y.toArray⟩)))
  | .get, .dct l, k => if keyOk k then some (.fz ((dGet l k).getD .non)) else none
  | _, _, _ => none
def mth2 : MT → D → D → D → Option OV
  | .get, .dct l, k, v => if keyOk k then some (.fz ((dGet l k).getD v)) else none
  | _, _, _, _ => none

def mut0 : MU → List D → Option (D × List D)
  | .pop, l => (l.getLast?).map fun x => (x, l.dropLast)
  | _, _ => none
def mut1 : MU → List D → D → Option (List D)
  | .append, l, x => if l.length < mostLen then some (l ++ [x]) else none
  | .extend, l, .lst m => if l.length + m.length ≤ mostLen then some (l ++ m) else none
  | _, _, _ => none

def isFn : D → Bool
  | .fn _ => true
  | _ => false
def isi2 (ts : List Ty) (x : D) : Option OV := if isFn x then none else some (.fz (.bl (ts.any fun t => isTy x t)))
/-- what a method is called of -/
def recvOk : MT → D → Option Unit
  | .get, .dct _ => some ()
  | .get, _ => none
  | _, .str _ => some ()
  | _, _ => none

/-! store at a target -/
mutual
def Tg.put : Tg → OV → Env → Option Env
  | .nm i, o, ρ => some (ρ.put i o)
  | .tp l, .fz (.tup ds), ρ => Tgs.put l ds ρ
  | .tp _, _, _ => none
def Tgs.put : Tgs → List D → Env → Option Env
  | .nil, [], ρ => some ρ
  | .cons t l, d :: ds, ρ => (Tg.put t (.fz d) ρ).bind (Tgs.put l ds)
  | _, _, _ => none
end

/-- the slots of a block's own names forgotten; put back -/
def wipe (ρ : Env) : List Nat → Env
  | [] => ρ
  | v :: vs => (wipe ρ vs).set v none
def keepFz : Option OV → Option OV
  | some (.fz d) => some (.fz d)
  | _ => none
def unwipe (ρ0 ρ : Env) : List Nat → Env
  | [] => ρ
  | v :: vs => (unwipe ρ0 ρ vs).set v (keepFz (ρ0.at v))

def rngOf (lo : Int) (n : Nat) : List D := (List.range n).map fun (i : Nat) => D.int (lo + i)
def rngC (lo c : Int) (n : Nat) : List D := (List.range n).map fun (i : Nat) => D.int (lo + i * c)
def okRng (i : Int) : Bool := decide (-(2 ^ 62) ≤ i) && decide (i < 2 ^ 62)

/-- a comprehension's turns: test, element, over the items; acc so far -/
def lcGo (f : D → Env → Res (Option D)) : List D → List D → Env → Res (List D)
  | [], acc, ρ => .ok acc ρ
  | d :: r, acc, ρ => (f d ρ).bd fun o ρ => match o with
    | none => lcGo f r acc ρ
    | some y => if acc.length < mostLen then lcGo f r (acc ++ [y]) ρ else .bad
/-- the outer turns: the list so far goes through -/
def lcGo2 (f : D → List D → Env → Res (List D)) : List D → List D → Env → Res (List D)
  | [], acc, ρ => .ok acc ρ
  | d :: r, acc, ρ => (f d acc ρ).bd fun acc ρ => lcGo2 f r acc ρ
/-- a for's turns -/
def forGo (f : D → Env → Res Flow) : List D → Env → Res Flow
  | [], ρ => .ok .nx ρ
  | d :: r, ρ => (f d ρ).bd fun o ρ => match o with
    | .nx => forGo f r ρ
    | .cnt => forGo f r ρ
    | .brk => .ok .nx ρ
    | .ret v => .ok (.ret v) ρ
def whlGo (t : Env → Res Bool) (f : Env → Res Flow) : Nat → Env → Res Flow
  | 0, _ => .bad
  | n + 1, ρ => (t ρ).bd fun b ρ => if b then (f ρ).bd fun o ρ => match o with
      | .nx => whlGo t f n ρ
      | .cnt => whlGo t f n ρ
      | .brk => .ok .nx ρ
      | .ret v => .ok (.ret v) ρ
    else .ok .nx ρ
def mostTurns : Nat := 1000000

/-- the arguments taken: of a slot what it holds, once -/
def takeAs : List Opd → Env → Option (List OV × Env)
  | [], ρ => some ([], ρ)
  | .tmp o :: r, ρ => (takeAs r ρ).map fun p => (o :: p.1, p.2)
  | .slot i :: r, ρ => (ρ.at i).bind fun o => (takeAs r (ρ.set i none)).map fun p => (o :: p.1, p.2)
/-- the borrowed slots take back what the def left in its parameters -/
def backTo : List Opd → List (Option OV) → Env → Option Env
  | [], _, ρ => some ρ
  | .tmp _ :: r, _ :: os, ρ => backTo r os ρ
  | .slot i :: r, some o :: os, ρ => backTo r os (ρ.put i o)
  | _, _, _ => none

/-- behind a call: the value, the borrowed slots as they are now -/
def CRes.back (c : CRes) (bs : List Opd) (ρ : Env) : Res OV := match c with
  | .ok r outs => (match backTo bs outs ρ with
    | some ρ' => .ok r ρ'
    | none => .bad)
  | .exc x => .exc x ρ
  | .bad => .bad
def callAs (f : List OV → CRes) (bs : List Opd) (ρ : Env) : Res OV := match takeAs bs ρ with
  | some (os, ρ') => (f os).back bs ρ'
  | none => .bad

mutual
def evE (cl : CL) : E → Env → Res OV
  | .var i, ρ => (match ρ.at i with
    | some o => .ok (.fz o.d) (ρ.put i (.fz o.d))
    | none => .bad)
  | .mov i, ρ => (match ρ.at i with
    | some o => .ok o (ρ.set i none)
    | none => .bad)
  | .cst d, ρ => .ok (.fz d) ρ
  | .glb d, ρ => .ok (.fz d) ρ
  | .tup l, ρ => (evEs cl l ρ).bd fun ds ρ => if ds.length ≤ mostLen then .ok (.fz (.tup ds)) ρ else .bad
  | .lst l, ρ => (evEs cl l ρ).bd fun ds ρ => if ds.length ≤ mostLen then .ok (.lst ds) ρ else .bad
  | .dct l, ρ => (evPs cl l ρ).bd fun ps ρ => if ps.length ≤ 15 && ps.all (fun p => keyOk p.1) then .ok (.dct (ps.foldl (fun m p => dPut m p.1 p.2) [])) ρ else .bad
  | .bin o a b, ρ => (opd a (evE cl a ρ) ρ).bd fun x ρ => (opd b (evE cl b ρ) ρ).bd fun y ρ => .of ((x.view ρ).bind fun x => (y.view ρ).bind fun y => bin2 o x y) ρ
  | .neg a, ρ => (opd a (evE cl a ρ) ρ).bd fun x ρ => .of ((x.view ρ).bind fun x => match x with | .int i => some (.fz (.int (-i))) | _ => none) ρ
  | .cmp c a b, ρ => (opd a (evE cl a ρ) ρ).bd fun x ρ => (opd b (evE cl b ρ) ρ).bd fun y ρ => .of ((x.view ρ).bind fun x => (y.view ρ).bind fun y => (cmp2 c x y).map fun b => .fz (.bl b)) ρ
  | .chn c a b c' e, ρ => (opd a (evE cl a ρ) ρ).bd fun x ρ => (opd b (evE cl b ρ) ρ).bd fun y ρ =>
      (Res.of ((x.view ρ).bind fun x => (y.view ρ).bind fun y => cmp2 c x y) ρ).bd fun k ρ => if k then
        (opd e (evE cl e ρ) ρ).bd fun z ρ => .of ((y.view ρ).bind fun y => (z.view ρ).bind fun z => (cmp2 c' y z).map fun b => .fz (.bl b)) ρ
      else .ok (.fz (.bl false)) ρ
  | .and a b, ρ => (evE cl a ρ).bd fun x ρ => (match x with
    | .fz (.bl true) => evE cl b ρ
    | .fz (.bl false) => .ok (.fz (.bl false)) ρ
    | _ => .bad)
  | .or a b, ρ => (evE cl a ρ).bd fun x ρ => (match x with
    | .fz (.bl true) => .ok (.fz (.bl true)) ρ
    | .fz (.bl false) => evE cl b ρ
    | _ => .bad)
  | .not a, ρ => (opd a (evE cl a ρ) ρ).bd fun x ρ => .of ((x.view ρ).bind fun x => (truth x).map fun b => .fz (.bl (!b))) ρ
  | .ite t a b, ρ => (evT cl t ρ).bd fun k ρ => if k then evE cl a ρ else evE cl b ρ
  | .idx a b, ρ => (opd a (evE cl a ρ) ρ).bd fun x ρ => (opd b (evE cl b ρ) ρ).bd fun y ρ => .of ((x.view ρ).bind fun x => (y.view ρ).bind fun y => (idx2 x y).map .fz) ρ
  | .slc a lo hi, ρ => (opd a (evE cl a ρ) ρ).bd fun x ρ => (opd lo (evE cl lo ρ) ρ).bd fun y ρ => (Res.of ((y.view ρ).bind endOf) ρ).bd fun i ρ => (opd hi (evE cl hi ρ) ρ).bd fun z ρ =>
      (Res.of ((z.view ρ).bind endOf) ρ).bd fun j ρ => .of ((x.view ρ).bind fun x => slc3 x i j) ρ
  | .bi b a, ρ => (opd a (evE cl a ρ) ρ).bd fun x ρ => .of ((x.view ρ).bind fun x => bi1 b x) ρ
  | .isi a ts, ρ => (opd a (evE cl a ρ) ρ).bd fun x ρ => .of ((x.view ρ).bind fun x => isi2 ts x) ρ
  | .mt0 m o, ρ => (opd o (evE cl o ρ) ρ).bd fun x ρ => .of ((x.view ρ).bind fun x => mth0 m x) ρ
  | .mt1 m o a, ρ => (opd o (evE cl o ρ) ρ).bd fun x ρ => (Res.of ((x.view ρ).bind (recvOk m)) ρ).bd fun _ ρ => (opd a (evE cl a ρ) ρ).bd fun y ρ => .of ((x.view ρ).bind fun x => (y.view ρ).bind fun y => mth1 m x y) ρ
  | .mt2 m o a b, ρ => (opd o (evE cl o ρ) ρ).bd fun x ρ => (Res.of ((x.view ρ).bind (recvOk m)) ρ).bd fun _ ρ => (opd a (evE cl a ρ) ρ).bd fun y ρ => (evE cl b ρ).bd fun z ρ =>
      .of ((x.view ρ).bind fun x => (y.view ρ).bind fun y => mth2 m x y z.d) ρ
  | .mu0 m i, ρ => (match ρ.at i with
    | some (.lst l) => (match mut0 m l with
      | some (r, l') => .ok (.fz r) (ρ.put i (.lst l'))
      | none => .bad)
    | _ => .bad)
  | .mu1 m i a, ρ => (match ρ.at i with
    | some (.lst _) => (evE cl a ρ).bd fun x ρ => (match ρ.at i with
      | some (.lst l) => (match mut1 m l x.d with
        | some l' => .ok (.fz .non) (ρ.put i (.lst l'))
        | none => .bad)
      | _ => .bad)
    | _ => .bad)
  | .upd i a, ρ => (match ρ.at i with
    | some (.dct _) => (evE cl a ρ).bd fun x ρ => (match ρ.at i, x.d with
      | some (.dct l), .dct m => if l.length + m.length ≤ mostLen then .ok (.fz .non) (ρ.put i (.dct (m.foldl (fun acc p => dPut acc p.1 p.2) l))) else .bad
      | _, _ => .bad)
    | _ => .bad)
  | .df k l, ρ => (evAs cl l ρ).bd fun p ρ => callAs (cl k) p ρ
  | .lc elt g it ifs own, ρ => (evIt cl it ρ).bd fun ds ρ => (lcGo (fun d ρb => (Res.of (Tg.put g (.fz d) (wipe ρb own)) ρb).bd fun ρg _ =>
        (evTs cl ifs ρg).bd fun b ρ => if b then (evE cl elt ρ).bd fun o ρ => .ok (some o.d) (unwipe ρb ρ own) else .ok none (unwipe ρb ρ own)) ds [] ρ).bd fun l ρ' => .ok (.lst l) ρ'
  | .lc2 elt g it g1 it1 ifs own own1, ρ => (evIt cl it ρ).bd fun ds ρ => (lcGo2 (fun d acc ρb => (Res.of (Tg.put g (.fz d) (wipe ρb own)) ρb).bd fun ρg _ => (evIt cl it1 ρg).bd fun ds1 ρ1 =>
        (lcGo (fun d1 ρc => (Res.of (Tg.put g1 (.fz d1) (wipe ρc own1)) ρc).bd fun ρh _ => (evTs cl ifs ρh).bd fun b ρ => if b then (evE cl elt ρ).bd fun o ρ => .ok (some o.d) (unwipe ρc ρ own1) else .ok none (unwipe ρc ρ own1)) ds1 acc ρ1).bd fun acc ρ2 =>
          .ok acc (unwipe ρb ρ2 own)) ds [] ρ).bd fun l ρ' => .ok (.lst l) ρ'
  | .lcx elt g i ifs own, ρ => (match ρ.at i with
    | some (.lst ds) => (lcGo (fun d ρb => (Res.of (Tg.put g (.fz d) (wipe ρb own)) ρb).bd fun ρg _ =>
        (evTs cl ifs ρg).bd fun b ρ => if b then (evE cl elt ρ).bd fun o ρ => .ok (some o.d) (unwipe ρb ρ own) else .ok none (unwipe ρb ρ own)) ds [] (ρ.set i none)).bd fun l ρ' => .ok (.lst l) (ρ'.put i (.lst ds))
    | _ => .bad)
  | .frz a, ρ => (evE cl a ρ).bd fun o ρ => .ok (.fz o.d) ρ
/-- as a test -/
def evT (cl : CL) : E → Env → Res Bool
  | .and a b, ρ => (evT cl a ρ).bd fun k ρ => if k then evT cl b ρ else .ok false ρ
  | .or a b, ρ => (evT cl a ρ).bd fun k ρ => if k then .ok true ρ else evT cl b ρ
  | .not a, ρ => (evT cl a ρ).bd fun b ρ => .ok (!b) ρ
  | .var i, ρ => .of ((ρ.at i).bind fun o => truth o.d) ρ
  | .cmp c a b, ρ => (opd a (evE cl a ρ) ρ).bd fun x ρ => (opd b (evE cl b ρ) ρ).bd fun y ρ => .of ((x.view ρ).bind fun x => (y.view ρ).bind fun y => cmp2 c x y) ρ
  | .chn c a b c' e, ρ => (opd a (evE cl a ρ) ρ).bd fun x ρ => (opd b (evE cl b ρ) ρ).bd fun y ρ =>
      (Res.of ((x.view ρ).bind fun x => (y.view ρ).bind fun y => cmp2 c x y) ρ).bd fun k ρ => if k then
        (opd e (evE cl e ρ) ρ).bd fun z ρ => .of ((y.view ρ).bind fun y => (z.view ρ).bind fun z => cmp2 c' y z) ρ
      else .ok false ρ
  | .idx a b, ρ => (opd a (evE cl a ρ) ρ).bd fun x ρ => (opd b (evE cl b ρ) ρ).bd fun y ρ => .of ((x.view ρ).bind fun x => (y.view ρ).bind fun y => (idx2 x y).bind truth) ρ
  | .bi b a, ρ => (opd a (evE cl a ρ) ρ).bd fun x ρ => .of ((x.view ρ).bind fun x => (bi1 b x).bind fun o => truth o.d) ρ
  | .isi a ts, ρ => (opd a (evE cl a ρ) ρ).bd fun x ρ => .of ((x.view ρ).bind fun x => (isi2 ts x).bind fun o => truth o.d) ρ
  | .mt0 m o, ρ => (opd o (evE cl o ρ) ρ).bd fun x ρ => .of ((x.view ρ).bind fun x => (mth0 m x).bind fun o => truth o.d) ρ
  | .mt1 m o a, ρ => (opd o (evE cl o ρ) ρ).bd fun x ρ => (Res.of ((x.view ρ).bind (recvOk m)) ρ).bd fun _ ρ => (opd a (evE cl a ρ) ρ).bd fun y ρ => .of ((x.view ρ).bind fun x => (y.view ρ).bind fun y => (mth1 m x y).bind fun o => truth o.d) ρ
  | .df k l, ρ => ((evAs cl l ρ).bd fun p ρ => callAs (cl k) p ρ).bd fun o ρ => .of (truth o.d) ρ
  | _, _ => .bad
def evEs (cl : CL) : Es → Env → Res (List D)
  | .nil, ρ => .ok [] ρ
  | .cons e l, ρ => (evE cl e ρ).bd fun x ρ => (evEs cl l ρ).bd fun xs ρ => .ok (x.d :: xs) ρ
def evTs (cl : CL) : Es → Env → Res Bool
  | .nil, ρ => .ok true ρ
  | .cons e l, ρ => (evT cl e ρ).bd fun b ρ => if b then evTs cl l ρ else .ok false ρ
def evPs (cl : CL) : Ps → Env → Res (List (D × D))
  | .nil, ρ => .ok [] ρ
  | .cons k v l, ρ => (evE cl k ρ).bd fun x ρ => (evE cl v ρ).bd fun y ρ => (evPs cl l ρ).bd fun r ρ => .ok ((x.d, y.d) :: r) ρ
def evAs (cl : CL) : As → Env → Res (List Opd)
  | .nil, ρ => .ok [] ρ
  | .val e l, ρ => (evE cl e ρ).bd fun x ρ => (evAs cl l ρ).bd fun p ρ => .ok (.tmp x :: p) ρ
  | .bor i l, ρ => (match ρ.at i with
    | some _ => (evAs cl l ρ).bd fun p ρ => .ok (.slot i :: p) ρ
    | none => .bad)
def evIt (cl : CL) : It → Env → Res (List D)
  | .ev e, ρ => (evE cl e ρ).bd fun x ρ => .of (itemsV x.d) ρ
  | .rng1 a, ρ => (opd a (evE cl a ρ) ρ).bd fun x ρ => .of ((x.view ρ).bind fun x => match x with | .int j => if okRng j then some (rngOf 0 j.toNat) else none | _ => none) ρ
  | .rng2 a b, ρ => (opd a (evE cl a ρ) ρ).bd fun x ρ => (opd b (evE cl b ρ) ρ).bd fun y ρ => .of ((x.view ρ).bind fun x => (y.view ρ).bind fun y => match x, y with
      | .int i, .int j => if okRng i && okRng j then some (rngOf i (j - i).toNat) else none | _, _ => none) ρ
  | .dwn a b, ρ => (opd a (evE cl a ρ) ρ).bd fun x ρ => (opd b (evE cl b ρ) ρ).bd fun y ρ => .of ((x.view ρ).bind fun x => (y.view ρ).bind fun y => match x, y with
      | .int i, .int j => if okRng i && okRng j then some (rngC i (-1) (i - j).toNat) else none | _, _ => none) ρ
  | .enum e, ρ => (evE cl e ρ).bd fun x ρ => .of ((lstOf x.d).map fun l => l.zipIdx.map fun p => .tup [.int p.2, p.1]) ρ
  | .zip a b, ρ => (evE cl a ρ).bd fun x ρ => (evE cl b ρ).bd fun y ρ => .of (match x.d, y.d with
      | .lst l, .lst m => some ((l.zip m).map fun p => .tup [p.1, p.2])
      | .tup l, .tup m => some ((l.zip m).map fun p => .tup [p.1, p.2])
      | _, _ => none) ρ
  | .items e, ρ => (evE cl e ρ).bd fun x ρ => .of (match x.d with | .dct l => some (l.map fun p => .tup [p.1, p.2]) | _ => none) ρ
  | .vals e, ρ => (evE cl e ρ).bd fun x ρ => .of (match x.d with | .dct l => some (l.map (·.2)) | _ => none) ρ
end

/-- x op= y of ints -/
def augF (o : Op2) : OV → D → Option OV
  | .fz (.int i), .int j => bin2 o (.int i) (.int j)
  | _, _ => none
/-- d[k] = v -/
def setD : OV → D → D → Option OV
  | .dct l, k, v => if keyOk k && decide (l.length < mostLen) then some (.dct (dPut l k v)) else none
  | _, _, _ => none
/-- o[k] = v -/
def setF : OV → D → D → Option OV
  | .dct l, k, v => setD (.dct l) k v
  | .lst l, .int j, v => (ixOf l.length j).map fun n => .lst (l.set n v)
  | _, _, _ => none
/-- d[k], to be changed -/
def getF : OV → D → Option D
  | .dct l, k => if keyOk k then dGet l k else none
  | _, _ => none
/-- o[a:b] = l -/
def cutF : OV → Option Int → Option Int → D → Option OV
  | .lst l, some a, some b, .lst m => if 0 ≤ a ∧ a ≤ b ∧ b ≤ l.length ∧ l.length + m.length ≤ mostLen then some (.lst (l.take a.toNat ++ m ++ l.drop b.toNat)) else none
  | _, _, _, _ => none
mutual
def evS (cl : CL) : S → Env → Res Flow
  | .ex e, ρ => (evE cl e ρ).bd fun _ ρ => .ok .nx ρ
  | .set g e, ρ => (evE cl e ρ).bd fun o ρ => (Res.of (Tg.put g o ρ) ρ).bd fun ρ' _ => .ok .nx ρ'
  | .par i j a b, ρ => (evE cl a ρ).bd fun x ρ => (evE cl b ρ).bd fun y ρ => .ok .nx ((ρ.put i x).put j y)
  | .aug i o e, ρ => (match ρ.at i with
    | some x => (opd e (evE cl e ρ) ρ).bd fun y ρ => (Res.of ((y.view ρ).bind fun y => augF o x y) ρ).bd fun r ρ => .ok .nx (ρ.put i r)
    | none => .bad)
  | .sidx i k e, ρ => (evE cl e ρ).bd fun v ρ => (match ρ.at i with
    | some _ => (evE cl k ρ).bd fun k ρ => (Res.of ((ρ.at i).bind fun o => setF o k.d v.d) ρ).bd fun o ρ => .ok .nx (ρ.put i o)
    | none => .bad)
  | .saug i k o e, ρ => (match ρ.at i with
    | some _ => (evE cl k ρ).bd fun k ρ => (Res.of ((ρ.at i).bind fun m => getF m k.d) ρ).bd fun x ρ => (evE cl e ρ).bd fun y ρ => (Res.of (augF o (.fz x) y.d) ρ).bd fun r ρ =>
        (Res.of ((ρ.at i).bind fun m => setD m k.d r.d) ρ).bd fun m ρ => .ok .nx (ρ.put i m)
    | none => .bad)
  | .sslc i lo hi e, ρ => (evE cl e ρ).bd fun v ρ => (match ρ.at i with
    | some _ => (opd lo (evE cl lo ρ) ρ).bd fun y ρ => (Res.of ((y.view ρ).bind endOf) ρ).bd fun a ρ => (opd hi (evE cl hi ρ) ρ).bd fun z ρ => (Res.of ((z.view ρ).bind endOf) ρ).bd fun b ρ =>
        (Res.of ((ρ.at i).bind fun m => cutF m a b v.d) ρ).bd fun m ρ => .ok .nx (ρ.put i m)
    | none => .bad)
  | .ret e, ρ => (evE cl e ρ).bd fun o ρ => .ok (.ret o) ρ
  | .retn, ρ => .ok (.ret (.fz .non)) ρ
  | .ifs t a b, ρ => (evT cl t ρ).bd fun k ρ => if k then evSs cl a ρ else evSs cl b ρ
  | .fors g it b, ρ => (evIt cl it ρ).bd fun ds ρ => forGo (fun d ρ => (Res.of (Tg.put g (.fz d) ρ) ρ).bd fun ρ' _ => evSs cl b ρ') ds ρ
  | .whl t b, ρ => whlGo (evT cl t) (evSs cl b) mostTurns ρ
  | .pass, ρ => .ok .nx ρ
  | .brk, ρ => .ok .brk ρ
  | .cnt, ρ => .ok .cnt ρ
def evSs (cl : CL) : Ss → Env → Res Flow
  | .nil, ρ => .ok .nx ρ
  | .cons s l, ρ => (evS cl s ρ).bd fun f ρ => (match f with
    | .nx => evSs cl l ρ
    | .brk => .ok .brk ρ
    | .cnt => .ok .cnt ρ
    | .ret v => .ok (.ret v) ρ)
end

/-- a def: how many parameters, how many slots, its body -/
structure Df where
  np : Nat
  ns : Nat
  body : Ss
mutual
def Tg.sets : Tg → List Nat
  | .nm i => [i]
  | .tp l => Tgs.sets l
def Tgs.sets : Tgs → List Nat
  | .nil => []
  | .cons t l => Tg.sets t ++ Tgs.sets l
end
mutual
/-- the slots that a statement may assign -/
def S.sets : S → List Nat
  | .set g _ => g.sets
  | .par i j _ _ => [i, j]
  | .aug i _ _ => [i]
  | .ifs _ a b => Ss.sets a ++ Ss.sets b
  | .fors g _ b => g.sets ++ Ss.sets b
  | .whl _ b => Ss.sets b
  | _ => []
def Ss.sets : Ss → List Nat
  | .nil => []
  | .cons s l => S.sets s ++ Ss.sets l
end
def Df.outs (d : Df) (ρ : Env) : List (Option OV) := (List.range d.np).map fun j => if j ∈ Ss.sets d.body then none else ρ.at j
def Df.start (d : Df) (args : List OV) : Env := args.map some ++ List.replicate (d.ns - args.length) none
def Df.end (d : Df) : Res Flow → CRes
  | .ok (.ret o) ρ => .ok o (d.outs ρ)
  | .ok .nx ρ => .ok (.fz .non) (d.outs ρ)
  | .exc x _ => .exc x
  | _ => .bad
def callD (P : Nat → Option Df) : Nat → CL
  | 0 => fun _ _ => .bad
  | n + 1 => fun k args => match P k with
    | some d => if args.length = d.np then d.end (evSs (callD P n) d.body (d.start args)) else .bad
    | none => .bad
end Ev
end
section
set_option Elab.async false
set_option linter.all false
set_option maxRecDepth 100000
/-! EvB: how plain data lies in the abstract heap. -/
namespace Ev
open PySem L2

/-- what is known for good at an address -/
inductive FO where | lst (xs : List V) | tup (xs : List V) | dK (kvs : List (Key × V)) | scr (o : Obj) (xs : List V)
abbrev Fz := Addr → Option FO
def FO.In (H : Hp) (a : Addr) : FO → Prop
  | .lst xs => H a = some (.lst xs)
  | .tup xs => H a = some (.tup xs)
  | .dK kvs => Rd H a (.dK kvs)
  | .scr o xs => H a = some (.frz o (.lst xs))
def Le (F : Fz) (H : Hp) : Prop := ∀ a u, F a = some u → u.In H a
def FLe (F F' : Fz) : Prop := ∀ a u, F a = some u → F' a = some u
theorem FLe.refl {F : Fz} : FLe F F := fun _ _ h => h
theorem FLe.trans {F G H : Fz} (h : FLe F G) (h' : FLe G H) : FLe F H := fun a u e => h' a u (h a u e)
def fput (F : Fz) (a : Addr) (u : FO) : Fz := fun b => if b = a then some u else F b
theorem fput_same {F : Fz} {a : Addr} {u : FO} : fput F a u a = some u := by unfold fput; rw [if_pos rfl]
theorem fput_ne {F : Fz} {a b : Addr} {u : FO} (h : b ≠ a) : fput F a u b = F b := by unfold fput; rw [if_neg h]
theorem FLe.put {F : Fz} {a : Addr} {u : FO} (h : F a = none) : FLe F (fput F a u) := fun b v e => by
  by_cases hb : b = a
  · subst hb; rw [h] at e; cases e
  · rw [fput_ne hb]; exact e

abbrev sv (x : Tx) : Str := ⟨x.toArray⟩
def keyD : Key → D
  | .inl i => .int i
  | .inr x => .str x.cps.toList
theorem sv_list {x : Str} : sv x.cps.toList = x := by cases x; simp [sv]
theorem sv_cps {x : Tx} : (sv x).cps.toList = x := by simp [sv]
theorem sv_inj {x y : Tx} (h : sv x = sv y) : x = y := by
  have := congrArg (fun s : Str => s.cps.toList) h
  simpa [sv] using this
theorem sv_len {x : Tx} : (sv x).length = x.length := by simp [sv, Str.length]

/-- what the text's own part says: the tuples that it writes, where defs stand -/
structure Gx where
  K : PySem.W.Frag
  fnA : Nat → Option Addr

def TupW (K : PySem.W.Frag) (a : Addr) (xs : List V) : Prop :=
  ∃ (o : Obj) (its : Array Value) (n : Nat), K.lookup a = some o ∧ o.cls = .type "tuple" ∧ o.data = .seq its n ∧ its.size ≤ sizeLine ∧ Vals xs its.toList

def LstW (K : PySem.W.Frag) (a : Addr) (xs : List V) : Prop :=
  ∃ (o : Obj) (its : Array Value) (n : Nat), K.lookup a = some o ∧ o.cls = .type "list" ∧ o.dict = none ∧ o.data = .seq its n ∧ its.size ≤ sizeLine ∧ Vals xs its.toList
section
variable (G : Gx) (F : Fz)
mutual
/-- a value stands for data, for good -/
inductive Rf : V → D → Prop
  | non : Rf .non .non
  | bl (b : Bool) : Rf (.bl b) (.bl b)
  | int (i : Int) : Rf (.int i) (.int i)
  | str (x : Tx) : Rf (.str (sv x)) (.str x)
  | tup {a : Addr} {xs : List V} {ds : List D} : F a = some (.tup xs) → Rfs xs ds → Rf (.ref a) (.tup ds)
  | tupW {a : Addr} {xs : List V} {ds : List D} : TupW G.K a xs → Rfs xs ds → Rf (.ref a) (.tup ds)
  | lst {a : Addr} {xs : List V} {ds : List D} : F a = some (.lst xs) → Rfs xs ds → Rf (.ref a) (.lst ds)
  | dct {a : Addr} {kvs : List (Key × V)} {ds : List (D × D)} : F a = some (.dK kvs) → Rkv kvs ds → Rf (.ref a) (.dct ds)
  | fn {a : Addr} {k : Nat} : G.fnA k = some a → Rf (.ref a) (.fn k)
  | scr {a : Addr} {o : Obj} {ns : List Int} : F a = some (.scr o (ns.map V.int)) → Rf (.ref a) (.scr ns)
  | scrW {a : Addr} {ns : List Int} : LstW G.K a (ns.map V.int) → Rf (.ref a) (.scr ns)
inductive Rfs : List V → List D → Prop
  | nil : Rfs [] []
  | cons {v : V} {vs : List V} {d : D} {ds : List D} : Rf v d → Rfs vs ds → Rfs (v :: vs) (d :: ds)
inductive Rkv : List (Key × V) → List (D × D) → Prop
  | nil : Rkv [] []
  | cons {k : Key} {v : V} {kvs : List (Key × V)} {d : D} {ds : List (D × D)} : Rf v d → Rkv kvs ds → Rkv ((k, v) :: kvs) ((keyD k, d) :: ds)
end
end

section
variable {G : Gx} {F F' : Fz}
mutual
theorem Rf.mono (h : FLe F F') : ∀ {v : V} {d : D}, Rf G F v d → Rf G F' v d
  | _, _, .non => .non
  | _, _, .bl b => .bl b
  | _, _, .int i => .int i
  | _, _, .str x => .str x
  | _, _, .tup e r => .tup (h _ _ e) (Rfs.mono h r)
  | _, _, .tupW e r => .tupW e (Rfs.mono h r)
  | _, _, .lst e r => .lst (h _ _ e) (Rfs.mono h r)
  | _, _, .dct e r => .dct (h _ _ e) (Rkv.mono h r)
  | _, _, .fn e => .fn e
  | _, _, .scr e => .scr (h _ _ e)
  | _, _, .scrW e => .scrW e
theorem Rfs.mono (h : FLe F F') : ∀ {v : List V} {d : List D}, Rfs G F v d → Rfs G F' v d
  | _, _, .nil => .nil
  | _, _, .cons r t => .cons (Rf.mono h r) (Rfs.mono h t)
theorem Rkv.mono (h : FLe F F') : ∀ {v : List (Key × V)} {d : List (D × D)}, Rkv G F v d → Rkv G F' v d
  | _, _, .nil => .nil
  | _, _, .cons r t => .cons (Rf.mono h r) (Rkv.mono h t)
end
theorem Rfs.length : ∀ {vs : List V} {ds : List D}, Rfs G F vs ds → vs.length = ds.length
  | _, _, .nil => rfl
  | _, _, .cons _ t => by simp [Rfs.length t]
theorem Rfs.append : ∀ {vs ws : List V} {ds es : List D}, Rfs G F vs ds → Rfs G F ws es → Rfs G F (vs ++ ws) (ds ++ es)
  | _, _, _, _, .nil, q => q
  | _, _, _, _, .cons r t, q => .cons r (Rfs.append t q)
theorem Rfs.get : ∀ {vs : List V} {ds : List D} {i : Nat} {d : D}, Rfs G F vs ds → ds[i]? = some d → ∃ v, vs[i]? = some v ∧ Rf G F v d
  | _, _, _, _, .nil, e => by simp at e
  | _, _, 0, _, .cons r _, e => by simp at e; subst e; exact ⟨_, rfl, r⟩
  | _, _, i + 1, _, .cons _ t, e => by
    obtain ⟨v, h1, h2⟩ := Rfs.get (i := i) t (by simpa using e)
    exact ⟨v, by simpa using h1, h2⟩
theorem Rfs.get' : ∀ {vs : List V} {ds : List D} {i : Nat} {v : V}, Rfs G F vs ds → vs[i]? = some v → ∃ d, ds[i]? = some d ∧ Rf G F v d
  | _, _, _, _, .nil, e => by simp at e
  | _, _, 0, _, .cons r _, e => by simp at e; subst e; exact ⟨_, rfl, r⟩
  | _, _, i + 1, _, .cons _ t, e => by
    obtain ⟨v, h1, h2⟩ := Rfs.get' (i := i) t (by simpa using e)
    exact ⟨v, by simpa using h1, h2⟩
theorem Rfs.take : ∀ {vs : List V} {ds : List D} (n : Nat), Rfs G F vs ds → Rfs G F (vs.take n) (ds.take n)
  | _, _, 0, _ => by simp; exact .nil
  | _, _, n + 1, .nil => by simp; exact .nil
  | _, _, n + 1, .cons r t => by simp; exact .cons r (Rfs.take n t)
theorem Rfs.drop : ∀ {vs : List V} {ds : List D} (n : Nat), Rfs G F vs ds → Rfs G F (vs.drop n) (ds.drop n)
  | _, _, 0, r => r
  | _, _, n + 1, .nil => by simp; exact .nil
  | _, _, n + 1, .cons r t => by simp; exact Rfs.drop n t
theorem Rfs.reverse : ∀ {vs : List V} {ds : List D}, Rfs G F vs ds → Rfs G F vs.reverse ds.reverse
  | _, _, .nil => .nil
  | _, _, .cons r t => by rw [List.reverse_cons, List.reverse_cons]; exact Rfs.append (Rfs.reverse t) (.cons r .nil)
theorem Rfs.dropLast {vs : List V} {ds : List D} (r : Rfs G F vs ds) : Rfs G F vs.dropLast ds.dropLast := by
  rw [List.dropLast_eq_take, List.dropLast_eq_take, r.length]
  exact r.take _
theorem Rfs.set : ∀ {vs : List V} {ds : List D} {v : V} {d : D} (i : Nat), Rfs G F vs ds → Rf G F v d → Rfs G F (vs.set i v) (ds.set i d)
  | _, _, _, _, _, .nil, _ => by simp; exact .nil
  | _, _, _, _, 0, .cons _ t, q => .cons q t
  | _, _, _, _, i + 1, .cons r t, q => .cons r (Rfs.set i t q)
theorem Rfs.ints : ∀ {vs : List V} {is : List Int}, Rfs G F vs (is.map .int) → vs = is.map V.int
  | _, [], .nil => rfl
  | _, i :: is, .cons (.int _) t => by rw [Rfs.ints t]; rfl
theorem Rfs.bls : ∀ {vs : List V} {bs : List Bool}, Rfs G F vs (bs.map .bl) → vs = bs.map V.bl
  | _, [], .nil => rfl
  | _, i :: is, .cons (.bl _) t => by rw [Rfs.bls t]; rfl
theorem Rfs.strs : ∀ {vs : List V} {xs : List Tx}, Rfs G F vs (xs.map .str) → vs = (xs.map sv).map V.str
  | _, [], .nil => rfl
  | _, i :: is, .cons (.str _) t => by rw [Rfs.strs t]; rfl
theorem Rfs.of_strs : ∀ {xs : List Tx}, Rfs G F ((xs.map sv).map V.str) (xs.map .str)
  | [] => .nil
  | x :: xs => .cons (.str x) (Rfs.of_strs (xs := xs))
theorem Rfs.of_ints : ∀ {xs : List Int}, Rfs G F (xs.map V.int) (xs.map .int)
  | [] => .nil
  | x :: xs => .cons (.int x) (Rfs.of_ints (xs := xs))

/-! ### what is owned -/
variable (G F) in
inductive Ro (H : Hp) : V → OV → List Addr → Prop
  | fz {v : V} {d : D} : Rf G F v d → Ro H v (.fz d) []
  | lst {a : Addr} {xs : List V} {ds : List D} : H a = some (.lst xs) → Rfs G F xs ds → Ro H (.ref a) (.lst ds) [a]
  | dct {a : Addr} {kvs : List (Key × V)} {ds : List (D × D)} : H a = some (.dK kvs) → Rkv G F kvs ds → Ro H (.ref a) (.dct ds) [a]
/-- the addresses of L are owned, each once; F stands in H -/
structure Own (F : Fz) (H : Hp) (L : List Addr) : Prop where
  le : Le F H
  one : ∀ a, L.count a ≤ 1
  fr : ∀ a ∈ L, F a = none ∧ H a ≠ none
/-- the slots -/
inductive St' (G : Gx) (F : Fz) (H : Hp) : List (Option V) → Env → List Addr → Prop
  | nil : St' G F H [] [] []
  | un {s : Option V} {σ : List (Option V)} {ρ : Env} {S : List Addr} : St' G F H σ ρ S → St' G F H (s :: σ) (none :: ρ) S
  | at {v : V} {o : OV} {σ : List (Option V)} {ρ : Env} {Sv S : List Addr} : Ro G F H v o Sv → St' G F H σ ρ S → St' G F H (some v :: σ) (some o :: ρ) (Sv ++ S)

theorem Ro.mono {H H' : Hp} {v : V} {o : OV} {S : List Addr} (h : FLe F F') (k : ∀ a ∈ S, H' a = H a) (r : Ro G F H v o S) : Ro G F' H' v o S := by
  cases r with
  | fz r => exact .fz (r.mono h)
  | lst e r => exact .lst ((k _ (by simp)).trans e) (r.mono h)
  | dct e r => exact .dct ((k _ (by simp)).trans e) (r.mono h)
theorem St'.mono {H H' : Hp} {σ : List (Option V)} {ρ : Env} {S : List Addr} (h : FLe F F') (r : St' G F H σ ρ S) (k : ∀ a ∈ S, H' a = H a) : St' G F' H' σ ρ S := by
  induction r with
  | nil => exact .nil
  | un _ ih => exact .un (ih k)
  | «at» r _ ih => exact .at (r.mono h fun a ha => k a (List.mem_append_left _ ha)) (ih fun a ha => k a (List.mem_append_right _ ha))
theorem St'.length {H : Hp} {σ : List (Option V)} {ρ : Env} {S : List Addr} (r : St' G F H σ ρ S) : σ.length = ρ.length := by
  induction r with
  | nil => rfl
  | un _ ih => simp [ih]
  | «at» _ _ ih => simp [ih]

/-! ### counting -/
theorem Own.sub {H : Hp} {L L' : List Addr} (w : Own F H L) (h : ∀ a, L'.count a ≤ L.count a) : Own F H L' :=
  ⟨w.le, fun a => Nat.le_trans (h a) (w.one a), fun a ha => w.fr a (by
    have := List.count_pos_iff.mpr ha
    exact List.count_pos_iff.mp (Nat.lt_of_lt_of_le this (h a)))⟩
theorem Own.new {H : Hp} {L : List Addr} {p : Addr} {o : HO} (w : Own F H L) (hp : H p = none) : Own F (upd H p o) (p :: L) := by
  have hpL : p ∉ L := fun z => (w.fr p z).2 hp
  refine ⟨fun a u e => ?_, fun a => ?_, fun a ha => ?_⟩
  · have q := w.le a u e
    have hne : a ≠ p := fun z => by
      subst z
      cases u with
      | lst xs => rw [show H a = _ from q] at hp; cases hp
      | tup xs => rw [show H a = _ from q] at hp; cases hp
      | dK kvs => rcases q with q | ⟨_, q⟩ <;> (rw [q] at hp; cases hp)
      | scr o xs => rw [show H a = _ from q] at hp; cases hp
    cases u with
    | lst xs => exact (upd_ne hne).trans q
    | tup xs => exact (upd_ne hne).trans q
    | dK kvs => rcases q with q | ⟨o', q⟩
                · exact .inl ((upd_ne hne).trans q)
                · exact .inr ⟨o', (upd_ne hne).trans q⟩
    | scr o xs => exact (upd_ne hne).trans q
  · rw [List.count_cons]
    by_cases e : p = a
    · subst e; rw [List.count_eq_zero.mpr hpL]; simp
    · have : (p == a) = false := by simpa using e
      rw [this]; simpa using w.one a
  · rcases List.mem_cons.mp ha with e | ha
    · subst e
      refine ⟨?_, by rw [upd_same]; simp⟩
      cases q : F a with
      | none => rfl
      | some u =>
        have q := w.le a u q
        cases u with
        | lst xs => rw [show H a = _ from q] at hp; cases hp
        | tup xs => rw [show H a = _ from q] at hp; cases hp
        | dK kvs => rcases q with q | ⟨_, q⟩ <;> (rw [q] at hp; cases hp)
        | scr o xs => rw [show H a = _ from q] at hp; cases hp
    · have := w.fr a ha
      refine ⟨this.1, ?_⟩
      rw [upd_ne (fun (z : a = p) => hpL (by rw [← z]; exact ha))]
      exact this.2
theorem Own.fnone {H : Hp} {L : List Addr} {p : Addr} (w : Own F H L) (hp : H p = none) : F p = none := ((w.new (o := .lst []) hp).fr p (by simp)).1
/-- a new tuple, known for good -/
theorem Own.newT {H : Hp} {L : List Addr} {p : Addr} {xs : List V} (w : Own F H L) (hp : H p = none) : FLe F (fput F p (.tup xs)) ∧ Own (fput F p (.tup xs)) (upd H p (.tup xs)) L := by
  have w' := w.new (o := .tup xs) hp
  have hF := w.fnone hp
  have hpL : p ∉ L := fun z => (w.fr p z).2 hp
  refine ⟨FLe.put hF, fun a u e => ?_, w.one, fun a ha => ?_⟩
  · by_cases z : a = p
    · subst z; rw [fput_same] at e; cases e; exact upd_same
    · rw [fput_ne z] at e; exact w'.le a u e
  · have hne : a ≠ p := fun z => hpL (z ▸ ha)
    rw [fput_ne hne, upd_ne hne]
    exact w.fr a ha
/-- what is owned becomes known for good -/
theorem Ro.freeze {H : Hp} {L S : List Addr} {v : V} {o : OV} (r : Ro G F H v o S) (w : Own F H (S ++ L)) : ∃ F', FLe F F' ∧ Rf G F' v o.d ∧ Own F' H L := by
  cases r with
  | fz r => exact ⟨F, .refl, r, w⟩
  | @lst a xs ds e r =>
    have hF := (w.fr a (by simp)).1
    have haL : a ∉ L := fun z => by
      have h1 := w.one a
      have h2 := List.count_pos_iff.mpr z
      have h3 : ([a] ++ L).count a = 1 + L.count a := by rw [List.count_append]; simp
      omega
    refine ⟨fput F a (.lst xs), FLe.put hF, .lst fput_same (r.mono (FLe.put hF)), fun b u q => ?_, fun b => ?_, fun b hb => ?_⟩
    · by_cases z : b = a
      · subst z; rw [fput_same] at q; cases q; exact e
      · rw [fput_ne z] at q; exact w.le b u q
    · have := w.one b; rw [List.count_append] at this; omega
    · have hne : b ≠ a := fun z => haL (z ▸ hb)
      rw [fput_ne hne]
      exact w.fr b (List.mem_append_right _ hb)
  | @dct a kvs ds e r =>
    have hF := (w.fr a (by simp)).1
    have haL : a ∉ L := fun z => by
      have h1 := w.one a
      have h2 := List.count_pos_iff.mpr z
      have h3 : ([a] ++ L).count a = 1 + L.count a := by rw [List.count_append]; simp
      omega
    refine ⟨fput F a (.dK kvs), FLe.put hF, .dct fput_same (r.mono (FLe.put hF)), fun b u q => ?_, fun b => ?_, fun b hb => ?_⟩
    · by_cases z : b = a
      · subst z; rw [fput_same] at q; cases q; exact .inl e
      · rw [fput_ne z] at q; exact w.le b u q
    · have := w.one b; rw [List.count_append] at this; omega
    · have hne : b ≠ a := fun z => haL (z ▸ hb)
      rw [fput_ne hne]
      exact w.fr b (List.mem_append_right _ hb)

/-! ### slots -/
theorem St'.get {H : Hp} {σ : List (Option V)} {ρ : Env} {S : List Addr} (r : St' G F H σ ρ S) : ∀ {i : Nat} {o : OV}, ρ.at i = some o → ∃ v S1 Sv S2, σ[i]? = some (some v) ∧ Ro G F H v o Sv ∧ S = S1 ++ (Sv ++ S2) ∧
    (∀ (F' : Fz) (H' : Hp) (v' : V) (o' : OV) (Sv' : List Addr), FLe F F' → (∀ a ∈ S1 ++ S2, H' a = H a) → Ro G F' H' v' o' Sv' → St' G F' H' (σ.set i (some v')) (ρ.put i o') (S1 ++ (Sv' ++ S2))) ∧
    (∀ (F' : Fz) (H' : Hp), FLe F F' → (∀ a ∈ S1 ++ S2, H' a = H a) → St' G F' H' σ (ρ.set i none) (S1 ++ S2)) := by
  induction r with
  | nil => intro i o e; simp [Env.at] at e
  | @un s σ ρ S r ih =>
    intro i o e
    cases i with
    | zero => simp [Env.at] at e
    | succ i =>
      obtain ⟨v, S1, Sv, S2, h1, h2, h3, h4, h5⟩ := ih (i := i) (o := o) (by simpa [Env.at] using e)
      exact ⟨v, S1, Sv, S2, by simpa using h1, h2, h3, fun F' H' v' o' Sv' a b c => .un (h4 F' H' v' o' Sv' a b c), fun F' H' a b => .un (h5 F' H' a b)⟩
  | @«at» v0 o0 σ ρ Sv0 S r0 r ih =>
    intro i o e
    cases i with
    | zero =>
      have e : o0 = o := by simpa [Env.at] using e
      subst e
      refine ⟨v0, [], Sv0, S, rfl, r0, rfl, fun F' H' v' o' Sv' a b c => ?_, fun F' H' a b => .un (r.mono a fun x hx => b x (by simpa using hx))⟩
      show St' G F' H' (some v' :: σ) (some o' :: ρ) (Sv' ++ S)
      exact St'.at c (r.mono a fun x hx => b x (by simpa using hx))
    | succ i =>
      obtain ⟨v, S1, Sv, S2, h1, h2, h3, h4, h5⟩ := ih (i := i) (o := o) (by simpa [Env.at] using e)
      refine ⟨v, Sv0 ++ S1, Sv, S2, by simpa using h1, h2, by rw [h3]; simp, fun F' H' v' o' Sv' a b c => ?_, fun F' H' a b => ?_⟩
      · have := St'.at (r0.mono a fun x hx => b x (by simp [hx])) (h4 F' H' v' o' Sv' a (fun x hx => b x (by simp only [List.mem_append] at hx ⊢; rcases hx with h | h <;> simp [h])) c)
        rw [List.append_assoc]
        exact this
      · have := St'.at (r0.mono a fun x hx => b x (by simp [hx])) (h5 F' H' a (fun x hx => b x (by simp only [List.mem_append] at hx ⊢; rcases hx with h | h <;> simp [h])))
        rw [List.append_assoc]
        exact this
/-- a slot is written, whatever it held -/
theorem St'.put {H : Hp} {σ : List (Option V)} {ρ : Env} {S : List Addr} (r : St' G F H σ ρ S) {i : Nat} (hi : i < σ.length) {v : V} {o : OV} {Sv : List Addr} (q : Ro G F H v o Sv) :
    ∃ S', St' G F H (σ.set i (some v)) (ρ.put i o) S' ∧ ∀ a, S'.count a ≤ Sv.count a + S.count a := by
  induction r generalizing i with
  | nil => simp at hi
  | @un s σ ρ S r ih =>
    cases i with
    | zero => exact ⟨Sv ++ S, .at q r, fun a => by rw [List.count_append]; exact Nat.le_refl _⟩
    | succ i =>
      obtain ⟨S', h1, h2⟩ := ih (i := i) (by simpa using hi)
      exact ⟨S', .un h1, h2⟩
  | @«at» v0 o0 σ ρ Sv0 S r0 r ih =>
    cases i with
    | zero => exact ⟨Sv ++ S, .at q r, fun a => by rw [List.count_append, List.count_append]; omega⟩
    | succ i =>
      obtain ⟨S', h1, h2⟩ := ih (i := i) (by simpa using hi)
      exact ⟨Sv0 ++ S', .at r0 h1, fun a => by have := h2 a; rw [List.count_append, List.count_append]; omega⟩
end
end Ev
end
section
set_option Elab.async false
set_option linter.all false
set_option maxRecDepth 100000
/-! EvC: the steps: how a part of an expression is read, and what goes on behind it. -/
namespace Ev
open PySem L2 PyProof.Rows

section
variable {G : Gx} {α β W W2 : Type}

/-- behind a part: the slots as they are then, the part's value, what is owned; R stands as it stood -/
def Post (G : Gx) (rep : Fz → Hp → W → α → List Addr → Prop) (σ : L2.St) (R : List Addr) (F : Fz) (H : Hp) (Q : W → Hp → Prop) : Res α → Prop
  | .ok a ρ' => ∀ w F' H' S' Sv, FLe F F' → (∀ x ∈ R, H' x = H x) → St' G F' H' σ ρ' S' → rep F' H' w a Sv → Own F' H' (Sv ++ (S' ++ R)) → Q w H'
  | _ => False
def TR (G : Gx) (rep : Fz → Hp → W → α → List Addr → Prop) (g : Env → Res α) : L2.St → Hp → (W → Hp → Prop) → Prop :=
  fun σ H Q => ∃ ρ F S R, St' G F H σ ρ S ∧ Own F H (S ++ R) ∧ Post G rep σ R F H Q (g ρ)
abbrev repE (G : Gx) : Fz → Hp → V → OV → List Addr → Prop := fun F H v o S => Ro G F H v o S
def OpdR (G : Gx) (σ : L2.St) (F : Fz) (H : Hp) (v : V) : Opd → List Addr → Prop
  | .tmp o, S => Ro G F H v o S
  | .slot i, S => S = [] ∧ σ[i]? = some (some v)
abbrev repO (G : Gx) (σ : L2.St) : Fz → Hp → V → Opd → List Addr → Prop := fun F H v o S => OpdR G σ F H v o S
abbrev repT : Fz → Hp → Bool → Bool → List Addr → Prop := fun _ _ b c S => b = c ∧ S = []
abbrev repA (G : Gx) : Fz → Hp → List V → List D → List Addr → Prop := fun F _ vs ds S => Rfs G F vs ds ∧ S = []
abbrev TEo (G : Gx) (g : Env → Res OV) : TE := TR G (repE G) g
def TOo (G : Gx) (g : Env → Res Opd) : TE := fun σ H Q => TR G (repO G σ) g σ H Q
abbrev TTo (G : Gx) (g : Env → Res Bool) : TT := TR G repT g
abbrev TAo (G : Gx) (g : Env → Res (List D)) : TA := TR G (repA G) g

theorem Post.rebase {rep : Fz → Hp → W → α → List Addr → Prop} {σ : L2.St} {R : List Addr} {F F1 : Fz} {H H1 : Hp} {Q : W → Hp → Prop} {r : Res α} (h : Post G rep σ R F H Q r) (hF : FLe F F1) (hR : ∀ x ∈ R, H1 x = H x) : Post G rep σ R F1 H1 Q r := by
  cases r with
  | ok a ρ => exact fun w F' H' S' Sv a1 a2 a3 a4 a5 => h w F' H' S' Sv (hF.trans a1) (fun x hx => (a2 x hx).trans (hR x hx)) a3 a4 a5
  | exc x ρ => exact h
  | bad => exact h
theorem Post.imp {rep : Fz → Hp → W → α → List Addr → Prop} {σ : L2.St} {R : List Addr} {F : Fz} {H : Hp} {Q Q' : W → Hp → Prop} {r : Res α} (h : Post G rep σ R F H Q r) (hq : ∀ w H, Q w H → Q' w H) : Post G rep σ R F H Q' r := by
  cases r with
  | ok a ρ => exact fun w F' H' S' Sv a1 a2 a3 a4 a5 => hq _ _ (h w F' H' S' Sv a1 a2 a3 a4 a5)
  | exc x ρ => exact h
  | bad => exact h

/-- THE STEP: a part runs while the temporaries at T wait -/
theorem step {rep : Fz → Hp → W → α → List Addr → Prop} {rep2 : Fz → Hp → W2 → β → List Addr → Prop} {g : Env → Res α} {k : α → Env → Res β} {σ : L2.St} {ρ : Env} {F : Fz} {H : Hp} {S T R : List Addr} {Q : W2 → Hp → Prop}
    (hs : St' G F H σ ρ S) (hw : Own F H (T ++ (S ++ R))) (hp : Post G rep2 σ R F H Q ((g ρ).bd k)) :
    TR G rep g σ H fun w H1 => ∃ a ρ1 F1 S1 Sv, FLe F F1 ∧ (∀ x ∈ T, H1 x = H x) ∧ St' G F1 H1 σ ρ1 S1 ∧ rep F1 H1 w a Sv ∧ Own F1 H1 (Sv ++ (T ++ (S1 ++ R))) ∧ Post G rep2 σ R F1 H1 Q (k a ρ1) := by
  cases e : g ρ with
  | bad => rw [e] at hp; exact False.elim hp
  | exc x ρ' => rw [e] at hp; exact False.elim hp
  | ok a ρ1 =>
    rw [e] at hp
    refine ⟨ρ, F, S, T ++ R, hs, hw.sub (by intro a; simp only [List.count_append]; omega), ?_⟩
    rw [e]
    intro w F1 H1 S1 Sv h1 h2 h3 h4 h5
    exact ⟨a, ρ1, F1, S1, Sv, h1, fun x hx => h2 x (List.mem_append_left _ hx), h3, h4, h5.sub (by intro a; simp only [List.count_append]; omega), Post.rebase hp h1 fun x hx => h2 x (List.mem_append_right _ hx)⟩

/-- what a value's making may do: new things laid, nothing else -/
def Done (G : Gx) (F : Fz) (H : Hp) (L : List Addr) (o : OV) (Q : VK) : Prop :=
  ∀ v F' H' Sv, FLe F F' → (∀ a, H a ≠ none → H' a = H a) → Ro G F' H' v o Sv → Own F' H' (Sv ++ L) → Q v H'
theorem Post.done {σ : L2.St} {R : List Addr} {F : Fz} {H : Hp} {Q : VK} {o : OV} {ρ : Env} {S T : List Addr} (h : Post G (repE G) σ R F H Q (.ok o ρ)) (hs : St' G F H σ ρ S) (hw : Own F H (T ++ (S ++ R))) : Done G F H (T ++ (S ++ R)) o Q := by
  intro v F' H' Sv h1 h2 h3 h4
  have k : ∀ a ∈ T ++ (S ++ R), H' a = H a := fun a ha => h2 a (hw.fr a ha).2
  exact h v F' H' S Sv h1 (fun a ha => k a (by simp [ha])) (hs.mono h1 fun a ha => k a (by simp [ha])) h3 (h4.sub (by intro a; simp only [List.count_append]; omega))
/-- a value that stands already -/
theorem Done.now {F : Fz} {H : Hp} {L : List Addr} {d : D} {Q : VK} {v : V} (h : Done G F H L (.fz d) Q) (w : Own F H L) (r : Rf G F v d) : Q v H :=
  h v F H [] .refl (fun _ _ => rfl) (.fz r) w
/-- a new list -/
theorem Done.lst {F : Fz} {H : Hp} {L : List Addr} {ds : List D} {xs : List V} {Q : VK} {p : Addr} (h : Done G F H L (.lst ds) Q) (w : Own F H L) (hp : H p = none) (r : Rfs G F xs ds) : Q (.ref p) (upd H p (.lst xs)) :=
  h _ F _ [p] .refl (fun a ha => upd_ne (fun z => ha (z ▸ hp))) (.lst upd_same r) (w.new hp)
theorem Done.dct {F : Fz} {H : Hp} {L : List Addr} {ds : List (D × D)} {xs : List (Key × V)} {Q : VK} {p : Addr} (h : Done G F H L (.dct ds) Q) (w : Own F H L) (hp : H p = none) (r : Rkv G F xs ds) : Q (.ref p) (upd H p (.dK xs)) :=
  h _ F _ [p] .refl (fun a ha => upd_ne (fun z => ha (z ▸ hp))) (.dct upd_same r) (w.new hp)
/-- a new tuple -/
theorem Done.tup {F : Fz} {H : Hp} {L : List Addr} {ds : List D} {xs : List V} {Q : VK} {p : Addr} (h : Done G F H L (.fz (.tup ds)) Q) (w : Own F H L) (hp : H p = none) (r : Rfs G F xs ds) : Q (.ref p) (upd H p (.tup xs)) := by
  obtain ⟨h1, h2⟩ := w.newT (xs := xs) hp
  exact h _ _ _ [] h1 (fun a ha => upd_ne (fun z => ha (z ▸ hp))) (.fz (.tup fput_same (r.mono h1))) h2

/-! ### an operand -/
theorem OpdR.mono {σ : L2.St} {F F' : Fz} {H H' : Hp} {v : V} {o : Opd} {S : List Addr} (r : OpdR G σ F H v o S) (h : FLe F F') (k : ∀ a ∈ S, H' a = H a) : OpdR G σ F' H' v o S := by
  cases o with
  | tmp o => exact Ro.mono h k r
  | slot i => exact r
/-- what an operand shows -/
theorem OpdR.view {σ : L2.St} {F : Fz} {H : Hp} {v : V} {o : Opd} {S S' : List Addr} {ρ : Env} {d : D} (r : OpdR G σ F H v o S) (hs : St' G F H σ ρ S') (e : o.view ρ = some d) : ∃ ov Sx, Ro G F H v ov Sx ∧ ov.d = d := by
  cases o with
  | tmp o => exact ⟨o, S, r, Option.some.inj e⟩
  | slot i =>
    have e : (ρ.at i).map OV.d = some d := e
    cases q : ρ.at i with
    | none => rw [q] at e; cases e
    | some ov =>
      rw [q] at e
      obtain ⟨v', S1, Sv, S2, h1, h2, _⟩ := hs.get q
      have := r.2
      rw [h1] at this
      cases this
      exact ⟨ov, Sv, h2, Option.some.inj e⟩

theorem pe_weak {X : Cx} {e : Expr} {t t' : TE} (h : PE X e t) (k : ∀ σ H Q, t' σ H Q → t σ H Q) : PE X e t' := ⟨fun pins s σ H Q I q => h.run pins s σ H Q I (k σ H Q q)⟩
theorem pt_weak {X : Cx} {e : Expr} {t t' : TT} (h : PT X e t) (k : ∀ σ H Q, t' σ H Q → t σ H Q) : PT X e t' := ⟨fun pins s σ H Q I q => h.run pins s σ H Q I (k σ H Q q)⟩
theorem pe_or {X : Cx} {e : Expr} {t t' : TE} (h : PE X e t) (h' : PE X e t') : PE X e fun σ H Q => t σ H Q ∨ t' σ H Q := ⟨fun pins s σ H Q I q => q.elim (h.run pins s σ H Q I) (h'.run pins s σ H Q I)⟩
theorem pt_or {X : Cx} {e : Expr} {t t' : TT} (h : PT X e t) (h' : PT X e t') : PT X e fun σ H Q => t σ H Q ∨ t' σ H Q := ⟨fun pins s σ H Q I q => q.elim (h.run pins s σ H Q I) (h'.run pins s σ H Q I)⟩
theorem pe_none {X : Cx} {e : Expr} : PE X e fun _ _ _ => False := ⟨fun _ _ _ _ _ _ q => q.elim⟩

/-- an expression's two readings -/
structure Snd (G : Gx) (X : Cx) (e : Expr) (g : Env → Res OV) (e' : E) : Prop where
  pe : PE X e (TEo G g)
  pv : ∀ i, e' = .var i → PE X e (tVar i)
theorem Snd.po {X : Cx} {e : Expr} {g : Env → Res OV} {e' : E} (h : Snd G X e g e') : PE X e (TOo G fun ρ => opd e' (g ρ) ρ) := by
  by_cases hv : ∃ i, e' = .var i
  · obtain ⟨i, rfl⟩ := hv
    refine pe_weak (h.pv i rfl) fun σ H Q ⟨ρ, F, S, R, hs, hw, hp⟩ => ?_
    unfold opd at hp
    cases q : ρ.at i with
    | none => simp only [q] at hp; exact False.elim hp
    | some ov =>
      simp only [q] at hp
      obtain ⟨v, S1, Sv, S2, h1, h2, _⟩ := hs.get q
      exact ⟨v, h1, hp v F H S [] .refl (fun _ _ => rfl) hs ⟨rfl, h1⟩ hw⟩
  · refine pe_weak h.pe fun σ H Q ⟨ρ, F, S, R, hs, hw, hp⟩ => ?_
    have e1 : opd e' (g ρ) ρ = (g ρ).bd fun o ρ => .ok (.tmp o) ρ := by
      unfold opd
      cases e' <;> first | rfl | exact absurd ⟨_, rfl⟩ hv
    have hp : Post G (repO G σ) σ R F H Q (opd e' (g ρ) ρ) := hp
    rw [e1] at hp
    refine ⟨ρ, F, S, R, hs, hw, ?_⟩
    cases q : g ρ with
    | bad => rw [q] at hp; exact hp
    | exc x ρ' => rw [q] at hp; exact hp
    | ok o ρ' =>
      rw [q] at hp
      exact fun w F' H' S' Sv a1 a2 a3 a4 a5 => hp w F' H' S' Sv a1 a2 a3 a4 a5

/-! ### operators by values -/
def Op2Ok (G : Gx) (r : R2) (f : D → D → Option OV) : Prop := ∀ (F : Fz) (H : Hp) (x y : V) (ox oy : OV) (Sx Sy L : List Addr) (o : OV) (Q : VK), Ro G F H x ox Sx → Ro G F H y oy Sy → Own F H L → f ox.d oy.d = some o → Done G F H L o Q → r x y H Q
def Op1Ok (G : Gx) (r : V → Hp → VK → Prop) (f : D → Option OV) : Prop := ∀ (F : Fz) (H : Hp) (x : V) (ox : OV) (Sx L : List Addr) (o : OV) (Q : VK), Ro G F H x ox Sx → Own F H L → f ox.d = some o → Done G F H L o Q → r x H Q
theorem op2 {r : R2} {f : D → D → Option OV} {ga gb : Env → Res Opd} (hf : Op2Ok G r f) : ∀ σ H Q, TEo G (fun ρ => (ga ρ).bd fun x ρ => (gb ρ).bd fun y ρ => .of ((x.view ρ).bind fun x => (y.view ρ).bind fun y => f x y) ρ) σ H Q → tOp r (TOo G ga) (TOo G gb) σ H Q := by
  rintro σ H Q ⟨ρ, F, S, R, hs, hw, hp⟩
  show TOo G ga σ H _
  obtain ⟨ρ', F', S', R', a1, a2, a3⟩ := step (G := G) (rep := repO G σ) (T := []) hs hw hp
  refine ⟨ρ', F', S', R', a1, a2, a3.imp ?_⟩
  rintro x H1 ⟨ox, ρ1, F1, S1, Sx, hF1, _, hs1, rx, hw1, hp1⟩
  obtain ⟨ρ', F', S', R', a1, a2, a3⟩ := step (G := G) (rep := repO G σ) (T := Sx) hs1 (by simpa using hw1) hp1
  refine ⟨ρ', F', S', R', a1, a2, a3.imp ?_⟩
  rintro y H2 ⟨oy, ρ2, F2, S2, Sy, hF2, hT2, hs2, ry, hw2, hp2⟩
  cases e : ((ox.view ρ2).bind fun x => (oy.view ρ2).bind fun y => f x y) with
  | none => simp only [e, Res.of] at hp2; exact False.elim hp2
  | some o =>
    simp only [e, Res.of] at hp2
    obtain ⟨dx, e1, e⟩ := Option.bind_eq_some_iff.mp e
    obtain ⟨dy, e2, e⟩ := Option.bind_eq_some_iff.mp e
    obtain ⟨vx, Sx', qx, rfl⟩ := (rx.mono hF2 hT2).view hs2 e1
    obtain ⟨vy, Sy', qy, rfl⟩ := ry.view hs2 e2
    have hd := Post.done (T := Sy ++ Sx) hp2 hs2 (by simpa [List.append_assoc] using hw2)
    exact hf F2 H2 x y vx vy Sx' Sy' _ o Q qx qy (by simpa [List.append_assoc] using hw2) e hd
theorem op1 {r : V → Hp → VK → Prop} {f : D → Option OV} {ga : Env → Res Opd} (hf : Op1Ok G r f) : ∀ σ H Q, TEo G (fun ρ => (ga ρ).bd fun x ρ => .of ((x.view ρ).bind f) ρ) σ H Q → tUn r (TOo G ga) σ H Q := by
  rintro σ H Q ⟨ρ, F, S, R, hs, hw, hp⟩
  show TOo G ga σ H _
  obtain ⟨ρ', F', S', R', a1, a2, a3⟩ := step (G := G) (rep := repO G σ) (T := []) hs hw hp
  refine ⟨ρ', F', S', R', a1, a2, a3.imp ?_⟩
  rintro x H1 ⟨ox, ρ1, F1, S1, Sx, hF1, _, hs1, rx, hw1, hp1⟩
  cases e : (ox.view ρ1).bind f with
  | none => simp only [e, Res.of] at hp1; exact False.elim hp1
  | some o =>
    simp only [e, Res.of] at hp1
    obtain ⟨dx, e1, e⟩ := Option.bind_eq_some_iff.mp e
    obtain ⟨vx, Sx', qx, rfl⟩ := rx.view hs1 e1
    exact hf F1 H1 x vx Sx' _ o Q qx (by simpa using hw1) e (Post.done (T := Sx) hp1 hs1 (by simpa using hw1))
end
end Ev
end
section
set_option Elab.async false
set_option linter.all false
set_option maxRecDepth 100000
set_option maxHeartbeats 1000000
/-! EvD: operators, comparisons, subscripts by values. -/
namespace Ev
open PySem L2 PyProof.Rows

/-! ### the library's data -/
mutual
def py : D → PyData
  | .non => .none
  | .bl b => .bool b
  | .int i => .int i
  | .str x => .str (sv x)
  | .tup l => .tuple (pys l)
  | .lst l => .list (pys l)
  | .dct _ => .dict []
  | .fn _ => .dict []
  | .scr _ => .dict []
def pys : List D → List PyData
  | [] => []
  | d :: l => py d :: pys l
end
theorem pys_map : ∀ l : List D, pys l = l.map py
  | [] => rfl
  | d :: l => by rw [pys, pys_map l]; rfl
mutual
theorem py_plain : ∀ {n : Nat} {d : D}, D.flat n d = true → (py d).plain = true ∧ (py d).depth ≤ n
  | _, .non, _ => ⟨rfl, Nat.zero_le _⟩
  | _, .bl _, _ => ⟨rfl, Nat.zero_le _⟩
  | _, .int _, _ => ⟨rfl, Nat.zero_le _⟩
  | _, .str _, _ => ⟨rfl, Nat.zero_le _⟩
  | 0, .tup l, h => by simp [D.flat] at h
  | 0, .lst l, h => by simp [D.flat] at h
  | n + 1, .tup l, h => by
    have h : D.flats n l = true := by simpa [D.flat] using h
    obtain ⟨h1, h2⟩ := pys_plain h
    exact ⟨by simpa [py, PyData.plain] using h1, by simp only [py, PyData.depth]; omega⟩
  | n + 1, .lst l, h => by
    have h : D.flats n l = true := by simpa [D.flat] using h
    obtain ⟨h1, h2⟩ := pys_plain h
    exact ⟨by simpa [py, PyData.plain] using h1, by simp only [py, PyData.depth]; omega⟩
  | _, .dct _, h => by simp [D.flat] at h
  | _, .fn _, h => by simp [D.flat] at h
  | _, .scr _, h => by simp [D.flat] at h
theorem pys_plain : ∀ {n : Nat} {l : List D}, D.flats n l = true → PyData.plainAll (pys l) = true ∧ PyData.depthAll (pys l) ≤ n
  | _, [], _ => ⟨rfl, Nat.zero_le _⟩
  | n, d :: l, h => by
    have h := Bool.and_eq_true_iff.mp (show (D.flat n d && D.flats n l) = true by simpa [D.flats] using h)
    obtain ⟨h1, h2⟩ := py_plain h.1
    obtain ⟨h3, h4⟩ := pys_plain h.2
    refine ⟨by simp [pys, PyData.plainAll, h1, h3], ?_⟩
    simp only [pys, PyData.depthAll]
    omega
end
theorem beq_dec {α : Type} [BEq α] [LawfulBEq α] [DecidableEq α] (a b : α) : (a == b) = decide (a = b) := by
  by_cases h : a = b
  · subst h; simp
  · rw [decide_eq_false h]; simpa using h
theorem sv_beq (x y : Tx) : (sv x == sv y) = decide (x = y) := by
  rw [beq_dec]
  by_cases h : x = y
  · subst h; simp
  · rw [decide_eq_false h, decide_eq_false (fun e => h (sv_inj e))]
mutual
theorem py_eqv : ∀ d e : D, PyData.eqv (py d) (py e) = D.eq d e
  | .non, e => by cases e <;> simp [py, PyData.eqv, D.eq]
  | .bl a, e => by cases e <;> simp [py, PyData.eqv, D.eq, b2i, beq_dec] <;> rfl
  | .int i, e => by cases e <;> simp [py, PyData.eqv, D.eq, b2i, beq_dec] <;> rfl
  | .str x, e => by cases e <;> simp only [py, PyData.eqv, D.eq, sv_beq]
  | .tup l, e => by
    cases e with
    | tup m => simp only [py, PyData.eqv, D.eq]; exact pys_eqv l m
    | _ => simp [py, PyData.eqv, D.eq]
  | .lst l, e => by
    cases e with
    | lst m => simp only [py, PyData.eqv, D.eq]; exact pys_eqv l m
    | _ => simp [py, PyData.eqv, D.eq]
  | .dct _, e => by cases e <;> simp [py, PyData.eqv, D.eq]
  | .fn _, e => by cases e <;> simp [py, PyData.eqv, D.eq]
  | .scr _, e => by cases e <;> simp [py, PyData.eqv, D.eq]
theorem pys_eqv : ∀ l m : List D, PyData.eqvAll (pys l) (pys m) = D.eqs l m
  | [], [] => by simp [pys, PyData.eqvAll, D.eqs]
  | [], _ :: _ => by simp [pys, PyData.eqvAll, D.eqs]
  | _ :: _, [] => by simp [pys, PyData.eqvAll, D.eqs]
  | d :: l, e :: m => by simp only [pys, PyData.eqvAll, D.eqs]; rw [py_eqv d e, pys_eqv l m]
end
mutual
theorem py_alike : ∀ d e : D, D.alike d e = true → PySem.W.alike (py d) (py e) = true
  | .non, e, h => by cases e <;> simp_all [py, PySem.W.alike, D.alike]
  | .bl a, e, h => by cases e <;> simp_all [py, PySem.W.alike, D.alike]
  | .int i, e, h => by cases e <;> simp_all [py, PySem.W.alike, D.alike]
  | .str x, e, h => by cases e <;> simp_all [py, PySem.W.alike, D.alike]
  | .tup l, e, h => by
    cases e with
    | tup m => simp only [py, PySem.W.alike]; exact pys_alike l m (by simpa [D.alike] using h)
    | _ => simp [D.alike] at h
  | .lst l, e, h => by
    cases e with
    | lst m => simp only [py, PySem.W.alike]; exact pys_alike l m (by simpa [D.alike] using h)
    | _ => simp [D.alike] at h
  | .dct _, e, h => by simp [D.alike] at h
  | .fn _, e, h => by simp [D.alike] at h
  | .scr _, e, h => by simp [D.alike] at h
theorem pys_alike : ∀ l m : List D, D.alikes l m = true → PySem.W.alikeAll (pys l) (pys m) = true
  | [], m, _ => by simp [pys, PySem.W.alikeAll]
  | _ :: _, [], _ => by simp [pys, PySem.W.alikeAll]
  | d :: l, e :: m, h => by
    have h := Bool.and_eq_true_iff.mp (show (D.alike d e && D.alikes l m) = true by simpa [D.alikes] using h)
    simp only [pys, PySem.W.alikeAll]
    rw [py_alike d e h.1, pys_alike l m h.2]; rfl
end
theorem toks_nil_lt : PyProof.Rows.lexLt PyProof.Rows.itemOrd (PySem.W.keyToksAll []) (PySem.W.keyToksAll []) = false := by decide +kernel
mutual
theorem py_lt : ∀ d e : D, D.alike d e = true → d ≠ .non → PySem.W.dataLt (py d) (py e) = D.ltB d e
  | .non, e, h, n => absurd rfl n
  | .bl a, e, h, _ => by
    cases e with
    | bl b => simp only [py, D.ltB]; exact PySem.W.dataLt_bool a b
    | _ => simp [D.alike] at h
  | .int i, e, h, _ => by
    cases e with
    | int j => simp only [py, D.ltB]; exact PySem.W.dataLt_int i j
    | _ => simp [D.alike] at h
  | .str x, e, h, _ => by
    cases e with
    | str y => simp only [py, D.ltB]; rw [PySem.W.dataLt_str, sv_cps, sv_cps]
    | _ => simp [D.alike] at h
  | .tup l, e, h, _ => by
    cases e with
    | tup m => simp only [py, D.ltB]; rw [PySem.W.dataLt_tuple]; exact pys_lt l m (by simpa [D.alike] using h)
    | _ => simp [D.alike] at h
  | .lst l, e, h, _ => by
    cases e with
    | lst m => simp only [py, D.ltB]; rw [PySem.W.dataLt_list]; exact pys_lt l m (by simpa [D.alike] using h)
    | _ => simp [D.alike] at h
  | .dct _, e, h, _ => by simp [D.alike] at h
  | .fn _, e, h, _ => by simp [D.alike] at h
  | .scr _, e, h, _ => by simp [D.alike] at h
theorem pys_lt : ∀ l m : List D, D.alikes l m = true → PyProof.Rows.lexLt PyProof.Rows.itemOrd (PySem.W.keyToksAll (pys l)) (PySem.W.keyToksAll (pys m)) = D.ltsB l m
  | [], [], _ => by simp only [pys, D.ltsB]; exact toks_nil_lt
  | [], e :: m, _ => by
    simp only [pys, D.ltsB]
    rw [PySem.W.toks_all_cons]
    show PyProof.Rows.lexLt PyProof.Rows.itemOrd (.inl 0 :: []) (.inl 1 :: _) = true
    rw [PySem.W.lex_atom (by decide)]
    decide +kernel
  | d :: l, [], _ => by
    simp only [pys, D.ltsB]
    rw [PySem.W.toks_all_cons]
    show PyProof.Rows.lexLt PyProof.Rows.itemOrd (.inl 1 :: _) (.inl 0 :: []) = false
    rw [PySem.W.lex_atom (by decide)]
    decide +kernel
  | d :: l, e :: m, h => by
    have h := Bool.and_eq_true_iff.mp (show (D.alike d e && D.alikes l m) = true by simpa [D.alikes] using h)
    simp only [pys, D.ltsB]
    rw [PySem.W.dataLt_cons (py_alike d e h.1), py_eqv, pys_lt l m h.2]
    by_cases q : D.eq d e = true
    · rw [if_pos q, if_pos q]
    · rw [if_neg q, if_neg q]
      refine py_lt d e h.1 fun z => ?_
      subst z
      cases e with
      | non => exact q rfl
      | _ => simp [D.alike] at h
end

/-! ### reading -/
section
variable {G : Gx} {F : Fz} {H : Hp}
theorem le_lst (le : Le F H) {a : Addr} {xs : List V} (e : F a = some (.lst xs)) : H a = some (.lst xs) := le a _ e
theorem le_tup (le : Le F H) {a : Addr} {xs : List V} (e : F a = some (.tup xs)) : H a = some (.tup xs) := le a _ e
theorem le_dK (le : Le F H) {a : Addr} {xs : List (Key × V)} (e : F a = some (.dK xs)) : Rd H a (.dK xs) := le a _ e
theorem le_scr (le : Le F H) {a : Addr} {o : Obj} {xs : List V} (e : F a = some (.scr o xs)) : H a = some (.frz o (.lst xs)) := le a _ e
mutual
theorem Rf.dp (le : Le F H) : ∀ {n : Nat} {v : V} {d : D}, Rf G F v d → D.flat n d = true → Dp G.K H v (py d)
  | _, _, _, .non, _ => by rw [py]; exact .non
  | _, _, _, .bl b, _ => by rw [py]; exact .bl b
  | _, _, _, .int i, _ => by rw [py]; exact .int i
  | _, _, _, .str x, _ => by rw [py]; exact .str _
  | 0, _, _, .tup e r, h => by simp [D.flat] at h
  | 0, _, _, .tupW e r, h => by simp [D.flat] at h
  | 0, _, _, .lst e r, h => by simp [D.flat] at h
  | n + 1, _, _, .tup e r, h => by rw [py]; exact .tup (.of (le_tup le e)) (Rfs.dp le r (by simpa [D.flat] using h))
  | n + 1, _, _, .tupW e r, h => by rw [py]; exact .tup (.inr e) (Rfs.dp le r (by simpa [D.flat] using h))
  | n + 1, _, _, .lst e r, h => by rw [py]; exact .lst (.of (le_lst le e)) (Rfs.dp le r (by simpa [D.flat] using h))
  | _, _, _, .dct e r, h => by simp [D.flat] at h
  | _, _, _, .fn e, h => by simp [D.flat] at h
  | _, _, _, .scr e, h => by simp [D.flat] at h
  | _, _, _, .scrW e, h => by simp [D.flat] at h
theorem Rfs.dp (le : Le F H) : ∀ {n : Nat} {v : List V} {d : List D}, Rfs G F v d → D.flats n d = true → DpAll G.K H v (pys d)
  | _, _, _, .nil, _ => by rw [pys]; exact .nil
  | n, _, _, .cons (d := d) (ds := l) r t, h => by
    have h := Bool.and_eq_true_iff.mp (show (D.flat n d && D.flats n l) = true by simpa [D.flats] using h)
    rw [pys]
    exact .cons (Rf.dp le r h.1) (Rfs.dp le t h.2)
end
theorem Ro.dp {n : Nat} {v : V} {o : OV} {S : List Addr} (le : Le F H) (r : Ro G F H v o S) (h : D.flat n o.d = true) : Dp G.K H v (py o.d) := by
  cases r with
  | fz r => exact r.dp le h
  | lst e r =>
    cases n with
    | zero => simp [OV.d, D.flat] at h
    | succ n => rw [OV.d, py]; exact .lst (.of e) (r.dp le (n := n) (by simpa [OV.d, D.flat] using h))
  | dct e r => simp [OV.d, D.flat] at h
theorem Ro.int {v : V} {o : OV} {S : List Addr} {i : Int} (r : Ro G F H v o S) (e : o.d = .int i) : v = .int i := by
  cases r with
  | fz r => simp only [OV.d] at e; subst e; cases r; rfl
  | lst _ _ => simp [OV.d] at e
  | dct _ _ => simp [OV.d] at e
theorem Ro.bl {v : V} {o : OV} {S : List Addr} {i : Bool} (r : Ro G F H v o S) (e : o.d = .bl i) : v = .bl i := by
  cases r with
  | fz r => simp only [OV.d] at e; subst e; cases r; rfl
  | lst _ _ => simp [OV.d] at e
  | dct _ _ => simp [OV.d] at e
theorem Ro.non {v : V} {o : OV} {S : List Addr} (r : Ro G F H v o S) (e : o.d = .non) : v = .non := by
  cases r with
  | fz r => simp only [OV.d] at e; subst e; cases r; rfl
  | lst _ _ => simp [OV.d] at e
  | dct _ _ => simp [OV.d] at e
theorem Ro.str {v : V} {o : OV} {S : List Addr} {x : Tx} (r : Ro G F H v o S) (e : o.d = .str x) : v = .str (sv x) := by
  cases r with
  | fz r => simp only [OV.d] at e; subst e; cases r; rfl
  | lst _ _ => simp [OV.d] at e
  | dct _ _ => simp [OV.d] at e
theorem Ro.tup {v : V} {o : OV} {S : List Addr} {ds : List D} (le : Le F H) (r : Ro G F H v o S) (e : o.d = .tup ds) : ∃ a xs, v = .ref a ∧ SqT G.K H a xs ∧ Rfs G F xs ds := by
  cases r with
  | fz r =>
    simp only [OV.d] at e; subst e
    cases r with
    | tup e r => exact ⟨_, _, rfl, .of (le_tup le e), r⟩
    | tupW e r => exact ⟨_, _, rfl, .inr e, r⟩
  | lst _ _ => simp [OV.d] at e
  | dct _ _ => simp [OV.d] at e
theorem Ro.lst' {v : V} {o : OV} {S : List Addr} {ds : List D} (le : Le F H) (r : Ro G F H v o S) (e : o.d = .lst ds) : ∃ a xs, v = .ref a ∧ H a = some (.lst xs) ∧ Rfs G F xs ds := by
  cases r with
  | fz r =>
    simp only [OV.d] at e; subst e
    cases r with
    | lst e r => exact ⟨_, _, rfl, le_lst le e, r⟩
  | lst h r => simp only [OV.d] at e; cases e; exact ⟨_, _, rfl, h, r⟩
  | dct _ _ => simp [OV.d] at e
theorem Ro.dct' {v : V} {o : OV} {S : List Addr} {ds : List (D × D)} (le : Le F H) (r : Ro G F H v o S) (e : o.d = .dct ds) : ∃ a xs, v = .ref a ∧ Rd H a (.dK xs) ∧ Rkv G F xs ds := by
  cases r with
  | fz r =>
    simp only [OV.d] at e; subst e
    cases r with
    | dct e r => exact ⟨_, _, rfl, le_dK le e, r⟩
  | lst _ _ => simp [OV.d] at e
  | dct h r => simp only [OV.d] at e; cases e; exact ⟨_, _, rfl, .inl h, r⟩
theorem Ro.scr' {v : V} {o : OV} {S : List Addr} {ns : List Int} (le : Le F H) (r : Ro G F H v o S) (e : o.d = .scr ns) : ∃ a, v = .ref a ∧ SqL G.K H a (ns.map V.int) := by
  cases r with
  | fz r =>
    simp only [OV.d] at e; subst e
    cases r with
    | scr e => exact ⟨_, rfl, .inl (.inr ⟨_, le_scr le e⟩)⟩
    | scrW e => exact ⟨_, rfl, .inr e⟩
  | lst _ _ => simp [OV.d] at e
  | dct _ _ => simp [OV.d] at e

/-! ### dicts by keys -/
theorem keyD_of {d : D} (h : keyOk d = true) : ∃ k : Key, d = keyD k ∧ ∀ (G : Gx) (F : Fz) (v : V), Rf G F v d → v = kV k := by
  cases d with
  | int i => exact ⟨.inl i, rfl, fun G F v r => by cases r; rfl⟩
  | str x => exact ⟨.inr (sv x), by simp [keyD], fun G F v r => by cases r; rfl⟩
  | _ => simp [keyOk] at h
theorem keyD_eq (k k' : Key) : D.eq (keyD k) (keyD k') = decide (k = k') := by
  cases k with
  | inl i =>
    cases k' with
    | inl j => simp [keyD, D.eq]
    | inr y => simp [keyD, D.eq]
  | inr x =>
    cases k' with
    | inl j => simp [keyD, D.eq]
    | inr y =>
      simp only [keyD, D.eq]
      by_cases h : x = y
      · subst h; simp
      · have h1 : ¬ x.cps.toList = y.cps.toList := fun e => h (PySem.W.str_of_cps e)
        rw [decide_eq_false h1, decide_eq_false (fun e => h (Sum.inr.inj e))]
theorem Rkv.get {kvs : List (Key × V)} {ds : List (D × D)} (k : Key) (r : Rkv G F kvs ds) : (∃ d v, dGet ds (keyD k) = some d ∧ valV kvs k = some v ∧ Rf G F v d) ∨ (dGet ds (keyD k) = none ∧ valV kvs k = none) := by
  induction kvs generalizing ds with
  | nil => cases r; exact .inr ⟨rfl, rfl⟩
  | cons p t ih =>
    cases r with
    | @cons k' v _ d ds r t =>
      unfold dGet
      rw [keyD_eq]
      by_cases h : k' = k
      · subst h
        rw [valV_pos rfl]
        simp only [decide_true, if_true]
        exact .inl ⟨d, v, rfl, rfl, r⟩
      · rw [valV_neg h, decide_eq_false h]
        simp only [Bool.false_eq_true, if_false]
        exact ih t
theorem Rkv.any {kvs : List (Key × V)} {ds : List (D × D)} (k : Key) (r : Rkv G F kvs ds) : (ds.any fun p => D.eq p.1 (keyD k)) = kvs.any fun kv => decide (kv.1 = k) := by
  induction kvs generalizing ds with
  | nil => cases r; rfl
  | cons p t ih =>
    cases r with
    | cons r t => rw [List.any_cons, List.any_cons, keyD_eq, ih t]
theorem Rkv.repl {kvs : List (Key × V)} {ds : List (D × D)} {v : V} {d : D} (k : Key) (r : Rkv G F kvs ds) (q : Rf G F v d) :
    Rkv G F (kvs.map fun kv => if kv.1 = k then (kv.1, v) else kv) (ds.map fun p => if D.eq p.1 (keyD k) = true then (p.1, d) else p) := by
  induction kvs generalizing ds with
  | nil => cases r; exact .nil
  | cons p t ih =>
    cases r with
    | @cons k' v' _ d' ds r t =>
      rw [List.map_cons, List.map_cons, keyD_eq]
      by_cases h : k' = k
      · simp only [h, decide_true, if_true]; exact .cons q (ih t)
      · simp only [h, decide_false, Bool.false_eq_true, if_false]; exact .cons r (ih t)
theorem Rkv.append {kvs kvs' : List (Key × V)} {ds ds' : List (D × D)} (r : Rkv G F kvs ds) (r' : Rkv G F kvs' ds') : Rkv G F (kvs ++ kvs') (ds ++ ds') := by
  induction kvs generalizing ds with
  | nil => cases r; exact r'
  | cons p t ih =>
    cases r with
    | cons r t => exact .cons r (ih t)
theorem Rkv.put {kvs : List (Key × V)} {ds : List (D × D)} {v : V} {d : D} (k : Key) (r : Rkv G F kvs ds) (q : Rf G F v d) : Rkv G F (putK kvs k v) (dPut ds (keyD k) d) := by
  unfold putK dPut
  rw [r.any k]
  by_cases h : (kvs.any fun kv => decide (kv.1 = k)) = true
  · rw [if_pos h, if_pos h]; exact r.repl k q
  · rw [if_neg h, if_neg h]; exact r.append (.cons q .nil)
theorem Rkv.length {kvs : List (Key × V)} {ds : List (D × D)} (r : Rkv G F kvs ds) : kvs.length = ds.length := by
  induction kvs generalizing ds with
  | nil => cases r; rfl
  | cons p t ih =>
    cases r with
    | cons r t => simp [ih t]
end
end Ev
end
section
set_option Elab.async false
set_option linter.all false
set_option maxRecDepth 100000
set_option maxHeartbeats 1000000
/-! EvE: the rules of operators, comparisons, subscripts, built-ins, put beside the evaluator's. -/
namespace Ev
open PySem L2 PyProof.Rows

def rOr (r r' : R2) : R2 := fun x y H Q => r x y H Q ∨ r' x y H Q
theorem opr_or {X : Cx} {f : Value → Value → Sem Value} {r r' : R2} (h : OpR X f r) (h' : OpR X f r') : OpR X f (rOr r r') :=
  fun pins s σ H x y v u Q I rx ry q => q.elim (h pins s σ H x y v u Q I rx ry) (h' pins s σ H x y v u Q I rx ry)
theorem line_eq : sizeLine = mostLen := by decide

/-! ### + - * // % ** -/
def rAddS : R2 := fun x y H Q => ∃ i j, x = .str i ∧ y = .str j ∧ i.length + j.length ≤ sizeLine ∧ Q (.str (i ++ j)) H
def rMulS : R2 := fun x y H Q => ∃ z j, x = .str z ∧ y = .int j ∧ 0 ≤ j ∧ j < 100 ∧ z.length < 100 ∧ Q (.str (sv (List.replicate j.toNat z.cps.toList).flatten)) H
theorem foldl_app (l : List (Array Nat)) : ∀ a : Array Nat, (l.foldl (· ++ ·) a).toList = a.toList ++ (l.map Array.toList).flatten := by
  induction l with
  | nil => intro a; simp
  | cons b l ih => intro a; rw [List.foldl_cons, ih]; simp
theorem op_mulS {X : Cx} : OpR X (binaryOp .Mult) rMulS := by
  intro pins s σ H x y v u Q I rx ry h
  obtain ⟨z, j, rfl, rfl, h0, h1, hz, q⟩ := h
  obtain ⟨t, rfl⟩ := rx
  obtain ⟨t', rfl⟩ := ry
  have hlen : z.length * j.toNat ≤ 10000 := by
    have : z.length * j.toNat ≤ 100 * 100 := Nat.mul_le_mul (by omega) (by omega)
    omega
  have e : (⟨(List.replicate j.toNat z.cps).foldl (· ++ ·) #[]⟩ : Str) = sv (List.replicate j.toNat z.cps.toList).flatten := by
    have := foldl_app (List.replicate j.toNat z.cps) #[]
    rw [List.map_replicate] at this
    refine PySem.W.str_of_cps ?_
    rw [sv_cps]
    simpa using this
  refine PySem.P.mul_str (by rw [decide_eq_false (by omega), decide_eq_false (by omega)]; rfl) (fun a b => ?_) (fun a b => ?_) ?_
  · have : j ≤ 100 := by omega
    have h2 : ((2 ^ 63 - 1) / j : Int) ≥ (2 ^ 63 - 1) / 100 := by
      apply Int.le_ediv_of_mul_le (by omega)
      have : (2 ^ 63 - 1) / 100 * j ≤ (2 ^ 63 - 1) / 100 * (100 : Int) := Int.mul_le_mul_of_nonneg_left this (by decide)
      omega
    omega
  · show decide (z.length * j.toNat > sizeLine) = false
    rw [line_eq]
    have hm : mostLen = 16777216 := rfl
    exact decide_eq_false (by omega)
  · have hm : mostLen = 16777216 := rfl
    have hl2 : (sv (List.replicate j.toNat z.cps.toList).flatten).length ≤ sizeLine := by
      rw [sv_len, line_eq]
      simp only [List.length_flatten, List.map_replicate, List.sum_replicate_nat]
      have : j.toNat * z.cps.toList.length = z.length * j.toNat := by rw [Nat.mul_comm]; simp [Str.length]
      omega
    by_cases c : j < 1
    · have : j = 0 := by omega
      subst this
      rw [if_pos c]
      refine ⟨?_, ⟨.str _, H, I.tok _, ⟨_, rfl⟩, q⟩⟩
      exact hl2
    · rw [if_neg c]
      by_cases d : (j == 1 || z.length == 0) = true
      · rw [if_pos d]
        have e2 : sv (List.replicate j.toNat z.cps.toList).flatten = z := by
          rcases Bool.or_eq_true_iff.mp d with d | d
          · have : j = 1 := by simpa using d
            subst this
            refine PySem.W.str_of_cps ?_
            rw [sv_cps]; simp
          · have : z.cps.toList = [] := by
              have : z.length = 0 := by simpa using d
              have : z.cps.toList.length = 0 := by simpa [Str.length] using this
              exact List.length_eq_zero_iff.mp this
            refine PySem.W.str_of_cps ?_
            rw [sv_cps, this]
            simp
        rw [e2] at q
        exact ⟨.str z, H, I, ⟨t, rfl⟩, q⟩
      · rw [if_neg d, e]
        refine ⟨hl2, ⟨.str _, H, I.tok _, ⟨_, rfl⟩, q⟩⟩
def rBin (K : PySem.W.Frag) : Op2 → R2
  | .add => rOr (rI0 fun i j => .int (i + j)) (rOr rAddS (rOr rCat (rCatA K)))
  | .sub => rI0 fun i j => .int (i - j)
  | .mul => rOr (rI CMul fun i j => .int (i * j)) rMulS
  | .fdv => rI CDivN fun i j => .int (i.fdiv j)
  | .mod => rI (fun _ j => j ≠ 0) fun i j => .int (i.fmod j)
  | .pow => rI CPow fun i j => .int (i ^ j.toNat)
def opOf : Op2 → Operator
  | .add => .Add | .sub => .Sub | .mul => .Mult | .fdv => .FloorDiv | .mod => .Mod | .pow => .Pow
theorem opr_bin {X : Cx} (o : Op2) : OpR X (binaryOp (opOf o)) (rBin X.K o) := by
  cases o with
  | add => exact opr_or op_add (opr_or op_add_str (opr_or op_cat op_catA))
  | sub => exact op_sub
  | mul => exact opr_or op_mul op_mulS
  | fdv => exact op_fdivN
  | mod => exact op_modN
  | pow => exact op_pow
theorem sv_app (x y : Tx) : sv x ++ sv y = sv (x ++ y) := by
  refine PySem.W.str_of_cps ?_
  show ((sv x).cps ++ (sv y).cps).toList = _
  simp [sv]
theorem bin_ok {G : Gx} (o : Op2) : Op2Ok G (rBin G.K o) (bin2 o) := by
  intro F H x y ox oy Sx Sy L r Q rx ry w e hd
  cases hx : ox.d with
  | int i =>
    cases hy : oy.d with
    | int j =>
      rw [hx, hy] at e
      cases rx.int hx
      cases ry.int hy
      cases o with
      | add => simp only [bin2] at e; cases e; exact .inl ⟨i, j, rfl, rfl, hd.now w (.int _)⟩
      | sub => simp only [bin2] at e; cases e; exact ⟨i, j, rfl, rfl, hd.now w (.int _)⟩
      | mul =>
        simp only [bin2] at e
        split at e
        · rename_i c; cases e; exact .inl ⟨i, j, rfl, rfl, by unfold CMul; omega, hd.now w (.int _)⟩
        · cases e
      | fdv =>
        simp only [bin2] at e
        split at e
        · rename_i c; cases e; exact ⟨i, j, rfl, rfl, c, hd.now w (.int _)⟩
        · cases e
      | mod =>
        simp only [bin2] at e
        split at e
        · rename_i c; cases e; exact ⟨i, j, rfl, rfl, c, hd.now w (.int _)⟩
        · cases e
      | pow =>
        simp only [bin2] at e
        split at e
        · rename_i c; cases e; exact ⟨i, j, rfl, rfl, c, hd.now w (.int _)⟩
        · cases e
    | _ => rw [hx, hy] at e; cases o <;> simp [bin2] at e
  | str a =>
    cases hy : oy.d with
    | str b =>
      rw [hx, hy] at e
      cases rx.str hx
      cases ry.str hy
      cases o with
      | add =>
        simp only [bin2] at e
        split at e
        · rename_i c; cases e
          refine .inr (.inl ⟨_, _, rfl, rfl, by rw [sv_len, sv_len, line_eq]; exact c, ?_⟩)
          rw [sv_app]
          exact hd.now w (.str _)
        · cases e
      | _ => simp [bin2] at e
    | int j =>
      rw [hx, hy] at e
      cases rx.str hx
      cases ry.int hy
      cases o with
      | mul =>
        simp only [bin2] at e
        split at e
        · rename_i c; cases e
          refine .inr ⟨_, _, rfl, rfl, c.1, c.2.1, by rw [sv_len]; exact c.2.2, ?_⟩
          rw [sv_cps]
          exact hd.now w (.str _)
        · cases e
      | _ => simp [bin2] at e
    | _ => rw [hx, hy] at e; cases o <;> simp [bin2] at e
  | lst a =>
    cases hy : oy.d with
    | lst b =>
      rw [hx, hy] at e
      obtain ⟨p, xs, rfl, hp, hxs⟩ := rx.lst' w.le hx
      obtain ⟨q, ys, rfl, hq, hys⟩ := ry.lst' w.le hy
      cases o with
      | add =>
        simp only [bin2] at e
        split at e
        · rename_i c; cases e
          refine .inr (.inr (.inl ⟨_, _, xs, ys, rfl, rfl, hp, hq, by rw [hxs.length, hys.length, line_eq]; exact c, fun z hz => ?_⟩))
          exact hd.lst w hz (hxs.append hys)
        · cases e
      | _ => simp [bin2] at e
    | _ => rw [hx, hy] at e; cases o <;> simp [bin2] at e
  | tup a =>
    cases hy : oy.d with
    | tup b =>
      rw [hx, hy] at e
      cases o with
      | add =>
        simp only [bin2] at e
        split at e
        · rename_i c; cases e
          obtain ⟨p, xs, rfl, hp, hxs⟩ := rx.tup w.le hx
          obtain ⟨q, ys, rfl, hq, hys⟩ := ry.tup w.le hy
          refine .inr (.inr (.inr ⟨_, _, xs, ys, rfl, rfl, hp, hq, by rw [hxs.length, hys.length, line_eq]; exact c, fun z => ?_, fun z1 z2 => ?_, fun _ _ z hz => hd.tup w hz (hxs.append hys)⟩))
          · subst z
            cases hxs
            simp only [List.nil_append] at hd
            cases ry with
            | fz ry => simp only [OV.d] at hy; subst hy; exact hd.now w ry
            | lst _ _ => simp [OV.d] at hy
            | dct _ _ => simp [OV.d] at hy
          · subst z2
            cases hys
            simp only [List.append_nil] at hd
            cases rx with
            | fz rx => simp only [OV.d] at hx; subst hx; exact hd.now w rx
            | lst _ _ => simp [OV.d] at hx
            | dct _ _ => simp [OV.d] at hx
        · cases e
      | _ => simp [bin2] at e
    | _ => rw [hx, hy] at e; cases o <;> simp [bin2] at e
  | _ => rw [hx] at e; cases o <;> simp [bin2] at e

/-! ### comparisons -/
def rEqP (K : PySem.W.Frag) (neg : Bool) : R2 := fun x y H Q => ∃ d e, Dp K H x d ∧ Dp K H y e ∧ d.plain = true ∧ e.plain = true ∧ d.depth ≤ 30 ∧ Q (.bl (PyData.eqv d e ^^ neg)) H
theorem op_eqP {X : Cx} (hu : X.A.units + 64 < cLine) : OpR X (compareOp .Eq) (rEqP X.K false) := by
  intro pins s σ H x y v u Q I rx ry h
  obtain ⟨d, e, hd, he, sd, se, z, q⟩ := h
  obtain ⟨as, r1⟩ := Dp.reads I d x v hd rx
  obtain ⟨bs, r2⟩ := Dp.reads I e y u he ry
  exact PySem.SeqAt.eq_plain r1 r2 sd se (by omega) ⟨.bl _, H, I, rfl, by simpa using q⟩
theorem op_neP {X : Cx} (hu : X.A.units + 64 < cLine) : OpR X (compareOp .NotEq) (rEqP X.K true) := by
  intro pins s σ H x y v u Q I rx ry h
  obtain ⟨d, e, hd, he, sd, se, z, q⟩ := h
  obtain ⟨as, r1⟩ := Dp.reads I d x v hd rx
  obtain ⟨bs, r2⟩ := Dp.reads I e y u he ry
  exact PySem.SeqAt.ne_plain r1 r2 sd se (by omega) ⟨.bl _, H, I, rfl, by simpa using q⟩
/-- x in a list, in a tuple -/
def rInP (K : PySem.W.Frag) (neg : Bool) : R2 := fun x y H Q => ∃ d ds, Dp K H x d ∧ (Dp K H y (.list ds) ∨ Dp K H y (.tuple ds)) ∧ d.plain = true ∧ PyData.plainAll ds = true ∧ d.depth ≤ 30 ∧ Q (.bl ((ds.any fun z => PyData.eqv z d) ^^ neg)) H
theorem op_inP {X : Cx} (hu : X.A.units + 64 < cLine) : OpR X (compareOp .In) (rInP X.K false) := by
  intro pins s σ H x y v u Q I rx ry h
  obtain ⟨d, ds, hd, he, sd, se, z, q⟩ := h
  obtain ⟨as, r1⟩ := Dp.reads I d x v hd rx
  rcases he with he | he
  · obtain ⟨bs, r2⟩ := Dp.reads I _ y u he ry
    exact PySem.SeqAt.in_list_data r2 r1 se sd (by omega) ⟨.bl _, H, I, rfl, by simpa using q⟩
  · obtain ⟨bs, r2⟩ := Dp.reads I _ y u he ry
    exact PySem.SeqAt.in_tuple_data r2 r1 se sd (by omega) ⟨.bl _, H, I, rfl, by simpa using q⟩
theorem op_notInP {X : Cx} (hu : X.A.units + 64 < cLine) : OpR X (compareOp .NotIn) (rInP X.K true) := by
  intro pins s σ H x y v u Q I rx ry h
  obtain ⟨d, ds, hd, he, sd, se, z, q⟩ := h
  obtain ⟨as, r1⟩ := Dp.reads I d x v hd rx
  rcases he with he | he
  · obtain ⟨bs, r2⟩ := Dp.reads I _ y u he ry
    exact PySem.SeqAt.notIn_list_data r2 r1 se sd (by omega) ⟨.bl _, H, I, rfl, by simpa using q⟩
  · obtain ⟨bs, r2⟩ := Dp.reads I _ y u he ry
    exact PySem.SeqAt.notIn_tuple_data r2 r1 se sd (by omega) ⟨.bl _, H, I, rfl, by simpa using q⟩
def rInS (neg : Bool) : R2 := fun x y H Q => ∃ (c : Nat) (z : Str), x = .str ⟨#[c]⟩ ∧ y = .str z ∧ Q (.bl (decide (c ∈ z.cps.toList) ^^ neg)) H
theorem op_inS {X : Cx} : OpR X (compareOp .In) (rInS false) := fun pins s σ H x y v u Q I rx ry ⟨c, z, h1, h2, q⟩ => op_in_sign pins s σ H x y v u Q I rx ry ⟨c, z, h1, h2, by simpa using q⟩
theorem op_notInS {X : Cx} : OpR X (compareOp .NotIn) (rInS true) := fun pins s σ H x y v u Q I rx ry ⟨c, z, h1, h2, q⟩ => op_notIn_sign pins s σ H x y v u Q I rx ry ⟨c, z, h1, h2, by simpa using q⟩
def rInDk (neg : Bool) : R2 := fun x y H Q => ∃ a kvs k, y = .ref a ∧ Rd H a (.dK kvs) ∧ x = kV k ∧ Q (.bl ((valV kvs k).isSome ^^ neg)) H
theorem op_inDk {X : Cx} (hu : X.A.units + 64 < cLine) : OpR X (compareOp .In) (rInDk false) := by
  intro pins s σ H x y v u Q I rx ry h
  obtain ⟨a, kvs, k, rfl, ha, rfl, q⟩ := h
  cases ry
  exact d_in (by omega) I (.inl ⟨kvs, k, ha, rfl, rfl⟩) rx fun s' I' => ⟨.bl _, H, I', rfl, by simpa using q⟩
theorem op_notInDk {X : Cx} (hu : X.A.units + 64 < cLine) : OpR X (compareOp .NotIn) (rInDk true) := by
  intro pins s σ H x y v u Q I rx ry h
  obtain ⟨a, kvs, k, rfl, ha, rfl, q⟩ := h
  cases ry
  exact d_notIn (by omega) I (.inl ⟨kvs, k, ha, rfl, rfl⟩) rx fun s' I' => ⟨.bl _, H, I', rfl, by simpa using q⟩
/-- orders -/
def rLtP (K : PySem.W.Frag) (f : PyData → PyData → Bool) : R2 := fun x y H Q => ∃ d e, Dp K H x d ∧ Dp K H y e ∧ PySem.W.alike d e = true ∧ d ≠ .none ∧ d.depth ≤ 30 ∧ Q (.bl (f d e)) H
theorem op_ltP {X : Cx} (hu : X.A.units + 64 < cLine) : OpR X (compareOp .Lt) (rLtP X.K PySem.W.dataLt) := by
  intro pins s σ H x y v u Q I rx ry h
  obtain ⟨d, e, hd, he, sd, se, z, q⟩ := h
  obtain ⟨as, r1⟩ := Dp.reads I d x v hd rx
  obtain ⟨bs, r2⟩ := Dp.reads I e y u he ry
  exact PySem.W.lt_data r1 r2 sd se (by omega) ⟨.bl _, H, I, rfl, q⟩
theorem op_gtP {X : Cx} (hu : X.A.units + 64 < cLine) : OpR X (compareOp .Gt) (rLtP X.K fun d e => PySem.W.dataLt e d) := by
  intro pins s σ H x y v u Q I rx ry h
  obtain ⟨d, e, hd, he, sd, se, z, q⟩ := h
  obtain ⟨as, r1⟩ := Dp.reads I d x v hd rx
  obtain ⟨bs, r2⟩ := Dp.reads I e y u he ry
  exact PySem.W.gt_data r1 r2 sd se (by omega) ⟨.bl _, H, I, rfl, q⟩
theorem op_leP {X : Cx} (hu : X.A.units + 64 < cLine) : OpR X (compareOp .LtE) (rLtP X.K fun d e => !PySem.W.dataLt e d) := by
  intro pins s σ H x y v u Q I rx ry h
  obtain ⟨d, e, hd, he, sd, se, z, q⟩ := h
  obtain ⟨as, r1⟩ := Dp.reads I d x v hd rx
  obtain ⟨bs, r2⟩ := Dp.reads I e y u he ry
  exact PySem.W.le_data r1 r2 sd se (by omega) ⟨.bl _, H, I, rfl, q⟩
theorem op_geP {X : Cx} (hu : X.A.units + 64 < cLine) : OpR X (compareOp .GtE) (rLtP X.K fun d e => !PySem.W.dataLt d e) := by
  intro pins s σ H x y v u Q I rx ry h
  obtain ⟨d, e, hd, he, sd, se, z, q⟩ := h
  obtain ⟨as, r1⟩ := Dp.reads I d x v hd rx
  obtain ⟨bs, r2⟩ := Dp.reads I e y u he ry
  exact PySem.W.ge_data r1 r2 sd se (by omega) ⟨.bl _, H, I, rfl, q⟩
def rIsN (neg : Bool) : R2 := fun x y H Q => y = .non ∧ Q (.bl (decide (x = .non) ^^ neg)) H
def rIsBl (neg : Bool) : R2 := fun x y H Q => ∃ a b, x = .bl a ∧ y = .bl b ∧ Q (.bl (decide (a = b) ^^ neg)) H
def cpOf : Cp → CmpOp
  | .eq => .Eq | .ne => .NotEq | .lt => .Lt | .le => .LtE | .gt => .Gt | .ge => .GtE | .is => .Is | .isnot => .IsNot | .isin => .In | .notin => .NotIn
def rCmp (K : PySem.W.Frag) : Cp → R2
  | .eq => rEqP K false
  | .ne => rEqP K true
  | .lt => rLtP K PySem.W.dataLt
  | .gt => rLtP K fun d e => PySem.W.dataLt e d
  | .le => rLtP K fun d e => !PySem.W.dataLt e d
  | .ge => rLtP K fun d e => !PySem.W.dataLt d e
  | .is => rOr (rIsN false) (rIsBl false)
  | .isnot => rOr (rIsN true) (rIsBl true)
  | .isin => rOr (rInP K false) (rOr (rInS false) (rInDk false))
  | .notin => rOr (rInP K true) (rOr (rInS true) (rInDk true))
theorem opr_cmp {X : Cx} (hu : X.A.units + 64 < cLine) (c : Cp) : OpR X (compareOp (cpOf c)) (rCmp X.K c) := by
  cases c with
  | eq => exact op_eqP hu
  | ne => exact op_neP hu
  | lt => exact op_ltP hu
  | gt => exact op_gtP hu
  | le => exact op_leP hu
  | ge => exact op_geP hu
  | is => exact opr_or (fun pins s σ H x y v u Q I rx ry ⟨h1, q⟩ => op_isN pins s σ H x y v u Q I rx ry ⟨h1, by simpa using q⟩) (fun pins s σ H x y v u Q I rx ry ⟨a, b, h1, h2, q⟩ => op_isBl pins s σ H x y v u Q I rx ry ⟨a, b, h1, h2, by simpa using q⟩)
  | isnot => exact opr_or (fun pins s σ H x y v u Q I rx ry ⟨h1, q⟩ => op_notN pins s σ H x y v u Q I rx ry ⟨h1, by simpa using q⟩) (fun pins s σ H x y v u Q I rx ry ⟨a, b, h1, h2, q⟩ => op_notBl pins s σ H x y v u Q I rx ry ⟨a, b, h1, h2, by simpa using q⟩)
  | isin => exact opr_or (op_inP hu) (opr_or op_inS (op_inDk hu))
  | notin => exact opr_or (op_notInP hu) (opr_or op_notInS (op_notInDk hu))
/-- a comparison by values, its answer known -/
def CmpOk (G : Gx) (c : Cp) : Prop := ∀ (F : Fz) (H : Hp) (x y : V) (ox oy : OV) (Sx Sy : List Addr) (b : Bool) (Q : VK), Ro G F H x ox Sx → Ro G F H y oy Sy → Le F H → cmp2 c ox.d oy.d = some b → Q (.bl b) H → rCmp G.K c x y H Q
theorem ro_non {G : Gx} {F : Fz} {H : Hp} {v : V} {o : OV} {S : List Addr} (r : Ro G F H v o S) : decide (v = V.non) = isNon o.d := by
  cases r with
  | fz r => cases r <;> simp [OV.d, isNon]
  | lst _ _ => simp [OV.d, isNon]
  | dct _ _ => simp [OV.d, isNon]
theorem any_py (l : List D) (d : D) : (pys l).any (fun z => PyData.eqv z (py d)) = l.any fun y => D.eq y d := by
  induction l with
  | nil => rfl
  | cons a l ih => rw [pys, List.any_cons, List.any_cons, py_eqv, ih]
theorem isIn_ok {G : Gx} (neg : Bool) {F : Fz} {H : Hp} {x y : V} {ox oy : OV} {Sx Sy : List Addr} {b : Bool} {Q : VK} (rx : Ro G F H x ox Sx) (ry : Ro G F H y oy Sy) (le : Le F H) (e : isIn ox.d oy.d = some b) (q : Q (.bl (b ^^ neg)) H) :
    rOr (rInP G.K neg) (rOr (rInS neg) (rInDk neg)) x y H Q := by
  cases hy : oy.d with
  | lst l =>
    rw [hy] at e
    simp only [isIn] at e
    split at e
    · rename_i c
      cases e
      obtain ⟨c1, c2⟩ := Bool.and_eq_true_iff.mp c
      have d2 := ry.dp le (n := 30) (by rw [hy]; simpa [D.flat] using c2)
      rw [hy] at d2
      refine .inl ⟨_, _, rx.dp le c1, .inl d2, (py_plain c1).1, (pys_plain c2).1, (py_plain c1).2, ?_⟩
      rw [any_py]
      exact q
    · cases e
  | tup l =>
    rw [hy] at e
    simp only [isIn] at e
    split at e
    · rename_i c
      cases e
      obtain ⟨c1, c2⟩ := Bool.and_eq_true_iff.mp c
      have d2 := ry.dp le (n := 30) (by rw [hy]; simpa [D.flat] using c2)
      rw [hy] at d2
      refine .inl ⟨_, _, rx.dp le c1, .inr d2, (py_plain c1).1, (pys_plain c2).1, (py_plain c1).2, ?_⟩
      rw [any_py]
      exact q
    · cases e
  | str z =>
    rw [hy] at e
    cases hx : ox.d with
    | str w =>
      rw [hx] at e
      cases w with
      | nil => simp [isIn] at e
      | cons c w =>
        cases w with
        | cons _ _ => simp [isIn] at e
        | nil =>
          simp only [isIn] at e
          cases e
          cases rx.str hx
          cases ry.str hy
          exact .inr (.inl ⟨c, _, rfl, rfl, by rw [sv_cps]; exact q⟩)
    | _ => rw [hx] at e; simp [isIn] at e
  | dct l =>
    rw [hy] at e
    have e' : (if keyOk ox.d then some (dGet l ox.d).isSome else none) = some b := by
      cases hx : ox.d with
      | str w =>
        rw [hx] at e
        cases w with
        | nil => exact e
        | cons c w => cases w <;> exact e
      | _ => rw [hx] at e; exact e
    split at e'
    · rename_i c
      cases e'
      obtain ⟨k, hk, hv⟩ := keyD_of c
      obtain ⟨a, kvs, rfl, ha, hkv⟩ := ry.dct' le hy
      have hxk : x = kV k := by
        cases rx with
        | fz r => exact hv _ _ _ r
        | lst _ _ => simp [OV.d, keyOk] at c
        | dct _ _ => simp [OV.d, keyOk] at c
      refine .inr (.inr ⟨a, kvs, k, rfl, ha, hxk, ?_⟩)
      rw [hk] at q
      rcases hkv.get k with ⟨d, v, e1, e2, _⟩ | ⟨e1, e2⟩
      · rw [e1] at q; rw [e2]; exact q
      · rw [e1] at q; rw [e2]; exact q
    · cases e'
  | _ =>
    rw [hy] at e
    cases hx : ox.d with
    | str w =>
      rw [hx] at e
      cases w with
      | nil => simp [isIn] at e
      | cons c w => cases w <;> simp [isIn] at e
    | _ => rw [hx] at e; simp [isIn] at e
theorem D.lt_some {d e : D} {b : Bool} (h : D.lt d e = some b) : D.alike d e = true ∧ d ≠ .non ∧ d.ok = true ∧ e.ok = true ∧ b = D.ltB d e := by
  unfold D.lt at h
  split at h
  · rename_i c
    simp only [Bool.and_eq_true] at c
    cases h
    exact ⟨c.1.1.1, fun z => (by subst z; simp [D.eq] at c), c.1.2, c.2, rfl⟩
  · cases h
mutual
theorem alike_symm : ∀ d e : D, D.alike d e = D.alike e d
  | .non, e => by cases e <;> rfl
  | .bl _, e => by cases e <;> rfl
  | .int _, e => by cases e <;> rfl
  | .str _, e => by cases e <;> rfl
  | .tup l, e => by
    cases e with
    | tup m => exact alikes_symm l m
    | _ => rfl
  | .lst l, e => by
    cases e with
    | lst m => exact alikes_symm l m
    | _ => rfl
  | .dct _, e => by cases e <;> rfl
  | .fn _, e => by cases e <;> rfl
  | .scr _, e => by cases e <;> rfl
theorem alikes_symm : ∀ l m : List D, D.alikes l m = D.alikes m l
  | [], [] => rfl
  | [], _ :: _ => rfl
  | _ :: _, [] => rfl
  | d :: l, e :: m => by simp only [D.alikes]; rw [alike_symm d e, alikes_symm l m]
end
theorem alike_non {d e : D} (h : D.alike d e = true) (n : d ≠ .non) : e ≠ .non := fun z => by
  subst z
  cases d with
  | non => exact n rfl
  | _ => simp [D.alike] at h
theorem py_non {d : D} (n : d ≠ .non) : py d ≠ .none := by
  cases d <;> simp_all [py]
theorem cmp_ok {G : Gx} (c : Cp) : CmpOk G c := by
  intro F H x y ox oy Sx Sy b Q rx ry le e q
  have lt1 : ∀ {b}, D.lt ox.d oy.d = some b → ∃ d1 : Dp G.K H x (py ox.d), ∃ d2 : Dp G.K H y (py oy.d), PySem.W.alike (py ox.d) (py oy.d) = true ∧ py ox.d ≠ .none ∧ (py ox.d).depth ≤ 30 ∧ b = PySem.W.dataLt (py ox.d) (py oy.d) := fun {b} h => by
    obtain ⟨a1, a2, a3, a4, a5⟩ := D.lt_some h
    exact ⟨rx.dp le a3, ry.dp le a4, py_alike _ _ a1, py_non a2, (py_plain a3).2, by rw [py_lt _ _ a1 a2]; exact a5⟩
  have lt2 : ∀ {b}, D.lt oy.d ox.d = some b → ∃ d1 : Dp G.K H x (py ox.d), ∃ d2 : Dp G.K H y (py oy.d), PySem.W.alike (py ox.d) (py oy.d) = true ∧ py ox.d ≠ .none ∧ (py ox.d).depth ≤ 30 ∧ b = PySem.W.dataLt (py oy.d) (py ox.d) := fun {b} h => by
    obtain ⟨a1, a2, a3, a4, a5⟩ := D.lt_some h
    have a1' := a1
    rw [alike_symm] at a1'
    exact ⟨rx.dp le a4, ry.dp le a3, py_alike _ _ a1', py_non (alike_non a1 a2), (py_plain a4).2, by rw [py_lt _ _ a1 a2]; exact a5⟩
  cases c with
  | eq =>
    simp only [cmp2] at e
    split at e
    · rename_i c
      cases e
      obtain ⟨c1, c2⟩ := Bool.and_eq_true_iff.mp c
      exact ⟨_, _, rx.dp le c1, ry.dp le c2, (py_plain c1).1, (py_plain c2).1, (py_plain c1).2, by rw [py_eqv]; simpa using q⟩
    · cases e
  | ne =>
    simp only [cmp2] at e
    split at e
    · rename_i c
      cases e
      obtain ⟨c1, c2⟩ := Bool.and_eq_true_iff.mp c
      exact ⟨_, _, rx.dp le c1, ry.dp le c2, (py_plain c1).1, (py_plain c2).1, (py_plain c1).2, by rw [py_eqv]; simpa using q⟩
    · cases e
  | lt =>
    obtain ⟨d1, d2, h1, h2, h3, h4⟩ := lt1 e
    exact ⟨_, _, d1, d2, h1, h2, h3, by rw [← h4]; exact q⟩
  | gt =>
    obtain ⟨d1, d2, h1, h2, h3, h4⟩ := lt2 e
    exact ⟨_, _, d1, d2, h1, h2, h3, by show Q (.bl (PySem.W.dataLt _ _)) H; rw [← h4]; exact q⟩
  | le =>
    obtain ⟨b', e1, e2⟩ := Option.map_eq_some_iff.mp e
    obtain ⟨d1, d2, h1, h2, h3, h4⟩ := lt2 e1
    exact ⟨_, _, d1, d2, h1, h2, h3, by show Q (.bl (!PySem.W.dataLt _ _)) H; rw [← h4, e2]; exact q⟩
  | ge =>
    obtain ⟨b', e1, e2⟩ := Option.map_eq_some_iff.mp e
    obtain ⟨d1, d2, h1, h2, h3, h4⟩ := lt1 e1
    exact ⟨_, _, d1, d2, h1, h2, h3, by show Q (.bl (!PySem.W.dataLt _ _)) H; rw [← h4, e2]; exact q⟩
  | isin => exact isIn_ok false rx ry le e (by simpa using q)
  | notin =>
    obtain ⟨b', e1, e2⟩ := Option.map_eq_some_iff.mp e
    exact isIn_ok true rx ry le e1 (by rw [← e2] at q; simpa using q)
  | is =>
    cases hy : oy.d with
    | non =>
      rw [hy] at e
      simp only [cmp2] at e
      cases e
      exact .inl ⟨ry.non hy, by rw [ro_non rx]; simpa using q⟩
    | bl b2 =>
      cases hx : ox.d with
      | bl a =>
        rw [hx, hy] at e
        simp only [cmp2] at e
        cases e
        exact .inr ⟨_, _, rx.bl hx, ry.bl hy, by rw [← beq_dec]; simpa using q⟩
      | _ => rw [hx, hy] at e; simp [cmp2] at e
    | _ => rw [hy] at e; simp [cmp2] at e
  | isnot =>
    cases hy : oy.d with
    | non =>
      rw [hy] at e
      simp only [cmp2] at e
      cases e
      exact .inl ⟨ry.non hy, by rw [ro_non rx]; simpa using q⟩
    | bl b2 =>
      cases hx : ox.d with
      | bl a =>
        rw [hx, hy] at e
        simp only [cmp2] at e
        cases e
        exact .inr ⟨_, _, rx.bl hx, ry.bl hy, by rw [← beq_dec]; simpa using q⟩
      | _ => rw [hx, hy] at e; simp [cmp2] at e
    | _ => rw [hy] at e; simp [cmp2] at e
end Ev
end
section
set_option Elab.async false
set_option linter.all false
set_option maxRecDepth 100000
set_option maxHeartbeats 1000000
/-! EvF: subscripts, slices, built-in calls, methods by values. -/
namespace Ev
open PySem L2 PyProof.Rows

/-! ### subscripts -/
def rIxDk : R2 := fun x y H Q => ∃ a kvs k v, x = .ref a ∧ Rd H a (.dK kvs) ∧ y = kV k ∧ valV kvs k = some v ∧ Q v H
theorem ix_dk {X : Cx} (hu : X.A.units + 64 < cLine) : IxR X rIxDk := by
  intro value slice pins s σ H x y v u Q I rx ry h hs
  obtain ⟨a, kvs, k, w, rfl, ha, rfl, hv, q⟩ := h
  cases rx
  have g : DGet H a (kV k) (some w) := .inl ⟨kvs, k, ha, rfl, hv.symm⟩
  exact tail_any (dict_typeIs I g) PySem.F.slot_dict_getitem.lookup (d_getItem (by omega) I g ry fun w' s' I' rw' => ⟨w, H, I', rw', q⟩) hs
def rIx' (K : PySem.W.Frag) : R2 := fun x y H Q => rIx K x y H Q ∨ rIxDk x y H Q
theorem ix_all {X : Cx} (hu : X.A.units + 64 < cLine) : IxR X (rIx' X.K) := ix_seq.or (ix_dk hu)
theorem ixOf_eq (n : Nat) (i : Int) : ixN n i = ixOf n i := rfl
theorem atI_eq {α : Type} (xs : List α) (i : Int) : L2.atI xs i = Ev.atI xs i := rfl
theorem Rfs.atI {G : Gx} {F : Fz} {vs : List V} {ds : List D} {i : Int} {d : D} (r : Rfs G F vs ds) (e : Ev.atI ds i = some d) : ∃ v, L2.atI vs i = some v ∧ Rf G F v d := by
  rw [atI_eq]
  unfold Ev.atI at e ⊢
  rw [r.length]
  obtain ⟨j, h1, h2⟩ := Option.bind_eq_some_iff.mp e
  obtain ⟨v, h3, h4⟩ := r.get h2
  exact ⟨v, by rw [h1]; exact h3, h4⟩
theorem idx_ok {G : Gx} : Op2Ok G (rIx' G.K) fun x y => (idx2 x y).map .fz := by
  intro F H x y ox oy Sx Sy L r Q rx ry w e hd
  obtain ⟨d, e', rfl⟩ := Option.map_eq_some_iff.mp e
  clear e
  have e := e'
  clear e'
  cases hx : ox.d with
  | tup l =>
    obtain ⟨p, xs, rfl, hp, hxs⟩ := rx.tup w.le hx
    cases hy : oy.d with
    | int i =>
      rw [hx, hy] at e
      cases ry.int hy
      obtain ⟨v, h1, h2⟩ := hxs.atI e
      exact .inl (.inr (.inl ⟨p, xs, i, v, rfl, rfl, hp, h1, hd.now w h2⟩))
    | _ => rw [hx, hy] at e; simp [idx2] at e
  | lst l =>
    obtain ⟨p, xs, rfl, hp, hxs⟩ := rx.lst' w.le hx
    cases hy : oy.d with
    | int i =>
      rw [hx, hy] at e
      cases ry.int hy
      obtain ⟨v, h1, h2⟩ := hxs.atI e
      exact .inl (.inl ⟨p, xs, i, v, rfl, rfl, .of hp, h1, hd.now w h2⟩)
    | _ => rw [hx, hy] at e; simp [idx2] at e
  | scr l =>
    obtain ⟨p, rfl, hp⟩ := rx.scr' w.le hx
    cases hy : oy.d with
    | int i =>
      rw [hx, hy] at e
      cases ry.int hy
      simp only [idx2] at e
      obtain ⟨n, e1, rfl⟩ := Option.map_eq_some_iff.mp e
      refine .inl (.inl ⟨p, _, i, .int n, rfl, rfl, hp, ?_, hd.now w (.int n)⟩)
      rw [atI_eq]
      unfold Ev.atI at e1 ⊢
      rw [List.length_map]
      obtain ⟨j, h1, h2⟩ := Option.bind_eq_some_iff.mp e1
      rw [h1]
      show (l.map V.int)[j]? = _
      rw [List.getElem?_map, h2]
      rfl
    | _ => rw [hx, hy] at e; simp [idx2] at e
  | str z =>
    cases hy : oy.d with
    | int i =>
      rw [hx, hy] at e
      cases rx.str hx
      cases ry.int hy
      simp only [idx2] at e
      split at e
      · rename_i c
        obtain ⟨ch, e1, rfl⟩ := Option.map_eq_some_iff.mp e
        refine .inl (.inr (.inr ⟨_, i, ch, rfl, rfl, by rw [sv_len, line_eq]; exact c, ?_, ?_⟩))
        · rw [sv_cps, atI_eq]; exact e1
        · exact hd.now w (.str [ch])
      · cases e
    | _ => rw [hx, hy] at e; simp [idx2] at e
  | dct l =>
    rw [hx] at e
    simp only [idx2] at e
    split at e
    · rename_i c
      obtain ⟨k, hk, hv⟩ := keyD_of c
      obtain ⟨a, kvs, rfl, ha, hkv⟩ := rx.dct' w.le hx
      have hyk : y = kV k := by
        cases ry with
        | fz r => exact hv _ _ _ r
        | lst _ _ => simp [OV.d, keyOk] at c
        | dct _ _ => simp [OV.d, keyOk] at c
      rw [hk] at e
      rcases hkv.get k with ⟨d', v, e1, e2, r⟩ | ⟨e1, e2⟩
      · rw [e1] at e
        cases e
        exact .inr ⟨a, kvs, k, v, rfl, ha, hyk, e2, hd.now w r⟩
      · rw [e1] at e; cases e
    · cases e
  | _ => rw [hx] at e; simp [idx2] at e

/-! ### slices -/
theorem slIx_eq (n d : Nat) (o : Option Int) : HT.sIx n d o = slIx n d o := rfl
def rSl' (K : PySem.W.Frag) : V → Option Int → Option Int → Hp → VK → Prop := fun x lo hi H Q => rSlS x lo hi H Q ∨ rSlA K x lo hi H Q ∨ rSlL K x lo hi H Q
theorem sl_all {X : Cx} : SlR X (rSl' X.K) := sl_str.or (sl_tupA.or sl_list)
theorem cutS_eq (x : Tx) (lo hi : Option Int) : cutS (sv x) lo hi = sv (cut x lo hi) := by
  unfold cutS cut
  rw [sv_cps, sv_len]
  rfl
theorem Rfs.cut {G : Gx} {F : Fz} {vs : List V} {ds : List D} (r : Rfs G F vs ds) (lo hi : Option Int) : Rfs G F (cutV vs lo hi) (cut ds lo hi) := by
  unfold cutV Ev.cut
  rw [r.length]
  exact (r.drop _).take _
theorem cut_whole {α : Type} (l : List α) (lo hi : Option Int) (h : HT.sIx l.length 0 lo = 0 ∧ HT.sIx l.length l.length hi = l.length) : cut l lo hi = l := by
  unfold cut
  rw [← slIx_eq, ← slIx_eq, h.1, h.2]
  simp
theorem slc_ok {G : Gx} {F : Fz} {H : Hp} {x : V} {ox : OV} {Sx L : List Addr} {lo hi : Option Int} {o : OV} {Q : VK} (rx : Ro G F H x ox Sx) (w : Own F H L) (e : slc3 ox.d lo hi = some o) (hd : Done G F H L o Q) : rSl' G.K x lo hi H Q := by
  unfold slc3 at e
  cases hx : ox.d with
  | str z =>
    rw [hx] at e
    simp only at e
    split at e
    · rename_i c
      cases e
      cases rx.str hx
      exact .inl ⟨_, rfl, by rw [sv_len, line_eq]; exact c, by rw [cutS_eq]; exact hd.now w (.str _)⟩
    · cases e
  | tup l =>
    rw [hx] at e
    simp only at e
    cases e
    obtain ⟨p, xs, rfl, hp, hxs⟩ := rx.tup w.le hx
    refine .inr (.inl ⟨p, xs, rfl, hp, fun c => ?_, fun c q hq => hd.tup w hq (hxs.cut lo hi)⟩)
    rw [hxs.length] at c
    rw [cut_whole l lo hi c] at hd
    cases rx with
    | fz rx => simp only [OV.d] at hx; subst hx; exact hd.now w rx
    | lst _ _ => simp [OV.d] at hx
    | dct _ _ => simp [OV.d] at hx
  | lst l =>
    rw [hx] at e
    simp only at e
    cases e
    obtain ⟨p, xs, rfl, hp, hxs⟩ := rx.lst' w.le hx
    exact .inr (.inr ⟨p, xs, rfl, .of hp, fun q hq => hd.lst w hq (hxs.cut lo hi)⟩)
  | _ => rw [hx] at e; cases e

/-! ### calls of built-ins with one argument -/
def cOr (r r' : List V → Hp → VK → Prop) : List V → Hp → VK → Prop := fun xs H Q => r xs H Q ∨ r' xs H Q
theorem callr_or {X : Cx} {f : Value} {r r' : List V → Hp → VK → Prop} (h : CallR X f r) (h' : CallR X f r') : CallR X f (cOr r r') :=
  fun pins s σ H xs us Q I rx q => q.elim (h pins s σ H xs us Q I rx) (h' pins s σ H xs us Q I rx)
def rLenSeq (K : PySem.W.Frag) : List V → Hp → VK → Prop := fun xs H Q => ∃ p ys, xs = [.ref p] ∧ (SqL K H p ys ∨ SqT K H p ys) ∧ Q (.int ys.length) H
def rLenStr : List V → Hp → VK → Prop := fun xs H Q => ∃ z, xs = [.str z] ∧ z.length ≤ sizeLine ∧ Q (.int z.length) H
def rLenDk : List V → Hp → VK → Prop := fun xs H Q => ∃ a kvs, xs = [.ref a] ∧ Rd H a (.dK kvs) ∧ Q (.int kvs.length) H
theorem call_lenDk {X : Cx} : CallR X (.builtin "len") rLenDk := by
  intro pins s σ H xs us Q I r h
  obtain ⟨a, kvs, rfl, ha, q⟩ := h
  cases r with
  | cons r t =>
    cases t
    cases r
    exact d_len I ha fun t s' I' => ⟨.int _, H, I', ⟨t, rfl⟩, q⟩
def rAbs : List V → Hp → VK → Prop := fun xs H Q => ∃ i, xs = [.int i] ∧ Q (.int (if i < 0 then -i else i)) H
def rInt1 : List V → Hp → VK → Prop := fun xs H Q => (∃ i, xs = [.int i] ∧ Q (.int i) H) ∨ ∃ k, xs = [.bl k] ∧ Q (.int (if k then 1 else 0)) H
def rIntS : List V → Hp → VK → Prop := fun xs H Q => ∃ a n, xs = [.str a] ∧ PySem.intText? a = some n ∧ a.length ≤ 640 ∧ Q (.int n) H
def rStrI : List V → Hp → VK → Prop := fun xs H Q => ∃ i : Int, xs = [.int i] ∧ i.natAbs.log2 < 1920 ∧ Q (.str (toString i)) H
def rStrS : List V → Hp → VK → Prop := fun xs H Q => ∃ a, xs = [.str a] ∧ Q (.str a) H
def rTupOf (K : PySem.W.Frag) : List V → Hp → VK → Prop := fun xs H Q => ∃ p ys, xs = [.ref p] ∧ ((SqL K H p ys ∧ ∀ l, H l = none → Q (.ref l) (upd H l (.tup ys))) ∨ (SqT K H p ys ∧ Q (.ref p) H))
def rLstOf (K : PySem.W.Frag) : List V → Hp → VK → Prop := fun xs H Q => ∃ p ys, xs = [.ref p] ∧ (SqL K H p ys ∨ SqT K H p ys) ∧ ∀ l, H l = none → Q (.ref l) (upd H l (.lst ys))

/-! sorted -/
def rSortD (K : PySem.W.Frag) : List V → Hp → VK → Prop := fun xs H Q => ∃ (a : Addr) (bs : List (V × PyData)), xs = [.ref a] ∧ SqL K H a (bs.map (·.1)) ∧ (∀ b ∈ bs, Dp K H b.1 b.2) ∧ PySem.W.AllAlike (bs.map (·.2)) ∧ PySem.W.Sortable (bs.map (·.2)) ∧ (∀ b ∈ bs, b.2.depth ≤ 30) ∧
  ∀ p, H p = none → Q (.ref p) (upd H p (.lst ((bs.mergeSort (PySem.W.dataLe false (·.2))).map (·.1))))
theorem each_of {H : Hp} {X : Cx} {pins : List (Addr × Obj)} {σ : L2.St} {s : Shared} (I : Inv X pins σ H s) : ∀ {bs : List (V × PyData)} {us : List Value}, Vals (bs.map (·.1)) us → (∀ b ∈ bs, Dp X.K H b.1 b.2) → PySem.W.EachIs (fun v (b : V × PyData) => RelV b.1 v) us bs ∧ PySem.W.EachIs (fun v (b : V × PyData) => ∃ as, Reads s.heap v b.2 as) us bs
  | [], _, .nil, _ => ⟨.nil, .nil⟩
  | b :: bs, _, .cons r t, h => by
    obtain ⟨h1, h2⟩ := each_of I t fun b hb => h b (List.mem_cons_of_mem _ hb)
    obtain ⟨as, h3⟩ := Dp.reads I _ _ _ (h b (by simp)) r
    exact ⟨.cons r h1, .cons ⟨as, h3⟩ h2⟩
theorem each_vals : ∀ {bs : List (V × PyData)} {us : List Value}, PySem.W.EachIs (fun v (b : V × PyData) => RelV b.1 v) us bs → Vals (bs.map (·.1)) us
  | [], _, .nil => .nil
  | b :: bs, _, .cons r t => .cons r (each_vals t)
theorem call_sortD {X : Cx} (hu : X.A.units + 64 < cLine) : CallR X (.builtin "sorted") (rSortD X.K) := by
  intro pins s σ H xs us Q I r h
  obtain ⟨a, bs, rfl, ha, hd, hal, hk, hdep, q⟩ := h
  cases r with
  | cons r t =>
    cases t
    cases r
    obtain ⟨its, rv, pl, hz⟩ := I.list ha
    obtain ⟨e1, e2⟩ := each_of I rv hd
    refine PySem.W.sorted_data (enc := (·.2)) pl.isList e1 e2 hal hk (by simpa using hz) (fun b hb => by have := hdep b hb; omega) fun out ho he => ?_
    obtain ⟨ep, he'⟩ := PyProof.Rows.sortedAll_at s.heap its (List.toArray out)
    have hlen : ((bs.mergeSort (PySem.W.dataLe false (·.2))).map (·.1)).length ≤ sizeLine := by
      rw [List.length_map, List.length_mergeSort]; simpa using hz
    exact ⟨.ref _, upd H (s.heap.objs.size + 1) (.lst ((bs.mergeSort (PySem.W.dataLe false (·.2))).map (·.1))), I.laid (t' := s.toks) (fun _ _ => PyProof.Rows.sortedAll_old) (Nat.le_succ _) ⟨hlen, out, ep, each_vals he, he'⟩, rfl, q _ (I.hok.fresh (Nat.le_succ _))⟩
/-- pairs of values and data, put in order -/
theorem sort_pairs {G : Gx} {F : Fz} {H : Hp} (le : Le F H) {xs : List V} {ds : List D} (r : Rfs G F xs ds) (h : sortOk ds = true) : ∃ bs : List (V × D), xs = bs.map (·.1) ∧ ds = bs.map (·.2) ∧ (∀ b ∈ bs, Rf G F b.1 b.2) := by
  refine ⟨xs.zip ds, ?_, ?_, fun b hb => ?_⟩
  · rw [List.map_fst_zip (by rw [r.length]; exact Nat.le_refl _)]
  · rw [List.map_snd_zip (by rw [r.length]; exact Nat.le_refl _)]
  · obtain ⟨i, hi⟩ := List.getElem?_of_mem hb
    rw [List.getElem?_zip_eq_some] at hi
    obtain ⟨v, h1, h2⟩ := r.get hi.2
    rw [hi.1] at h1
    cases h1
    exact h2
theorem Rfs.of_map {G : Gx} {F : Fz} : ∀ {bs : List (V × D)}, (∀ b ∈ bs, Rf G F b.1 b.2) → Rfs G F (bs.map (·.1)) (bs.map (·.2))
  | [], _ => .nil
  | b :: bs, h => .cons (h b (by simp)) (Rfs.of_map fun b hb => h b (List.mem_cons_of_mem _ hb))
theorem dataLe_py (d e : D) (h : D.alike d e = true) (n : d ≠ .non) : PySem.W.dataLe false id (py d) (py e) = D.le d e := by
  have h' := h
  rw [alike_symm] at h'
  rw [PySem.W.dataLe_eq]
  show (!PySem.W.dataLt (py e) (py d)) = _
  rw [py_lt e d h' (alike_non h n)]
  rfl
theorem sortD_ok {G : Gx} {F : Fz} {H : Hp} {L : List Addr} {a : Addr} {xs : List V} {ds ds' : List D} {Q : VK} (w : Own F H L) (ha : H a = some (.lst xs)) (r : Rfs G F xs ds) (e : sortD ds = some ds') (hd : Done G F H L (.lst ds') Q) : rSortD G.K [.ref a] H Q := by
  unfold sortD at e
  split at e
  · rename_i c
    cases e
    obtain ⟨c, c2⟩ := Bool.and_eq_true_iff.mp c
    obtain ⟨bs, e1, e2, hb⟩ := sort_pairs w.le r c
    subst e1 e2
    unfold sortOk at c
    simp only [Bool.and_eq_true] at c
    obtain ⟨⟨c1, c3⟩, c4⟩ := c
    have hok : ∀ d ∈ bs.map (·.2), D.ok d = true := fun d hd => List.all_eq_true.mp c1 d hd
    have hal : ∀ d ∈ bs.map (·.2), ∀ e ∈ bs.map (·.2), D.alike d e = true := fun d hd e he => List.all_eq_true.mp (List.all_eq_true.mp c3 d hd) e he
    have hnn : ∀ d ∈ bs.map (·.2), d ≠ .non := fun d hd z => by
      subst z
      rcases Bool.or_eq_true_iff.mp c4 with c4 | c4
      · have := List.all_eq_true.mp c4 _ hd; simp [isTupC] at this
      · have := List.all_eq_true.mp c4 _ hd; simp [D.eq] at this
    refine ⟨a, bs.map fun b => (b.1, py b.2), rfl, ?_, ?_, ?_, ?_, ?_, fun p hp => ?_⟩
    · rw [List.map_map]; exact .of ha
    · intro b' hb'
      obtain ⟨b, hb1, rfl⟩ := List.mem_map.mp hb'
      exact (hb b hb1).dp w.le (hok _ (List.mem_map_of_mem hb1))
    · intro d hd d' hd'
      rw [List.map_map] at hd hd'
      obtain ⟨b, hb1, rfl⟩ := List.mem_map.mp hd
      obtain ⟨b2, hb2, rfl⟩ := List.mem_map.mp hd'
      exact py_alike _ _ (hal _ (List.mem_map_of_mem hb1) _ (List.mem_map_of_mem hb2))
    · rcases Bool.or_eq_true_iff.mp c4 with c4 | c4
      · refine .inl fun d hd => ?_
        rw [List.map_map] at hd
        obtain ⟨b, hb1, rfl⟩ := List.mem_map.mp hd
        have := List.all_eq_true.mp c4 _ (List.mem_map_of_mem (f := (·.2)) hb1)
        show ∃ x r, py b.2 = .tuple (x :: r)
        cases e : b.2 with
        | tup l =>
          rw [e] at this
          cases l with
          | nil => simp [isTupC] at this
          | cons x l => exact ⟨py x, pys l, by rw [py, pys]⟩
        | _ => rw [e] at this; simp [isTupC] at this
      · refine .inr fun d hd => ?_
        rw [List.map_map] at hd
        obtain ⟨b, hb1, rfl⟩ := List.mem_map.mp hd
        have := List.all_eq_true.mp c4 _ (List.mem_map_of_mem (f := (·.2)) hb1)
        show py b.2 ≠ .none ∧ ∀ xs, py b.2 ≠ .tuple xs
        cases e : b.2 <;> rw [e] at this <;> simp_all [isTup, D.eq, py]
    · intro b' hb'
      obtain ⟨b, hb1, rfl⟩ := List.mem_map.mp hb'
      exact (py_plain (hok _ (List.mem_map_of_mem hb1))).2
    · have k1 : ((bs.map fun b => (b.1, py b.2)).mergeSort (PySem.W.dataLe false (·.2))) = (bs.mergeSort fun b c => D.le b.2 c.2).map fun b => (b.1, py b.2) := by
        rw [List.map_mergeSort]
        intro b hb1 c hc1
        exact (dataLe_py _ _ (hal _ (List.mem_map_of_mem hb1) _ (List.mem_map_of_mem hc1)) (hnn _ (List.mem_map_of_mem hb1))).symm
      have k2 : (bs.map (·.2)).mergeSort D.le = (bs.mergeSort fun b c => D.le b.2 c.2).map (·.2) := by
        rw [List.map_mergeSort]
        intro b hb1 c hc1
        rfl
      rw [k1, List.map_map]
      rw [k2] at hd
      refine hd.lst w hp ?_
      show Rfs G F ((bs.mergeSort fun b c => D.le b.2 c.2).map fun b => b.1) _
      exact Rfs.of_map fun b hb1 => hb b (List.mem_mergeSort.mp hb1)
  · cases e

/-! the built-ins together -/
def rBi (K : PySem.W.Frag) : BI → List V → Hp → VK → Prop
  | .len => cOr rLenStr (cOr (rLenSeq K) rLenDk)
  | .abs => rAbs
  | .int => cOr rInt1 rIntS
  | .str => cOr rStrI rStrS
  | .tuple => rTupOf K
  | .list => rLstOf K
  | .all => rAll K
  | .any => rAny K
  | .sum => rSum K
  | .sorted => rSortD K
  | _ => fun _ _ _ => False
inductive BiKind | bi (id : String) | ty (t : String) | no
def biKind : BI → BiKind
  | .len => .bi "len" | .abs => .bi "abs" | .all => .bi "all" | .any => .bi "any" | .sum => .bi "sum" | .sorted => .bi "sorted"
  | .int => .ty "int" | .str => .ty "str" | .tuple => .ty "tuple" | .list => .ty "list"
  | _ => .no
theorem callr_bi {X : Cx} (hu : X.A.units + 64 < cLine) (hc : X.calm = true) (b : BI) : match biKind b with
    | .bi id => CallR X (.builtin id) (rBi X.K b)
    | .ty t => CallR X (.type t) (rBi X.K b)
    | .no => True := by
  cases b with
  | len => exact callr_or call_len_str (callr_or call_len_seq call_lenDk)
  | abs => exact call_abs
  | int => exact callr_or call_int1 call_int_str
  | str => exact callr_or call_str_int SkE.call_str_str
  | tuple => exact call_tuple_of
  | list => exact call_list_of
  | all => exact cr_all hc
  | any => exact cr_any hc
  | sum => exact cr_sum hc
  | sorted => exact call_sortD hu
  | sortset => trivial
  | rev => trivial
  | sortdk => trivial
theorem allB_some : ∀ {l : List D} {bs : List Bool}, allB l = some bs → l = bs.map .bl
  | [], bs, h => by cases h; rfl
  | .bl b :: r, bs, h => by
    obtain ⟨bs', h1, rfl⟩ := Option.map_eq_some_iff.mp (show (allB r).map (b :: ·) = some bs from h)
    rw [allB_some h1]; rfl
  | .non :: _, _, h => by simp [allB] at h
  | .int _ :: _, _, h => by simp [allB] at h
  | .str _ :: _, _, h => by simp [allB] at h
  | .tup _ :: _, _, h => by simp [allB] at h
  | .lst _ :: _, _, h => by simp [allB] at h
  | .dct _ :: _, _, h => by simp [allB] at h
  | .fn _ :: _, _, h => by simp [allB] at h
  | .scr _ :: _, _, h => by simp [allB] at h
theorem allI_some : ∀ {l : List D} {bs : List Int}, allI l = some bs → l = bs.map .int
  | [], bs, h => by cases h; rfl
  | .int b :: r, bs, h => by
    obtain ⟨bs', h1, rfl⟩ := Option.map_eq_some_iff.mp (show (allI r).map (b :: ·) = some bs from h)
    rw [allI_some h1]; rfl
  | .non :: _, _, h => by simp [allI] at h
  | .bl _ :: _, _, h => by simp [allI] at h
  | .str _ :: _, _, h => by simp [allI] at h
  | .tup _ :: _, _, h => by simp [allI] at h
  | .lst _ :: _, _, h => by simp [allI] at h
  | .dct _ :: _, _, h => by simp [allI] at h
  | .fn _ :: _, _, h => by simp [allI] at h
  | .scr _ :: _, _, h => by simp [allI] at h
theorem allS_some : ∀ {l : List D} {bs : List Tx}, allS l = some bs → l = bs.map .str
  | [], bs, h => by cases h; rfl
  | .str b :: r, bs, h => by
    obtain ⟨bs', h1, rfl⟩ := Option.map_eq_some_iff.mp (show (allS r).map (b :: ·) = some bs from h)
    rw [allS_some h1]; rfl
  | .non :: _, _, h => by simp [allS] at h
  | .bl _ :: _, _, h => by simp [allS] at h
  | .int _ :: _, _, h => by simp [allS] at h
  | .tup _ :: _, _, h => by simp [allS] at h
  | .lst _ :: _, _, h => by simp [allS] at h
  | .dct _ :: _, _, h => by simp [allS] at h
  | .fn _ :: _, _, h => by simp [allS] at h
  | .scr _ :: _, _, h => by simp [allS] at h
theorem num_str {i : Int} (h : 0 ≤ i) : (toString i : Str) = sv (TL.numL i.toNat) := by
  obtain ⟨n, rfl⟩ := Int.eq_ofNat_of_zero_le h
  refine PySem.W.str_of_cps ?_
  rw [sv_cps]
  exact TL.tl_num n
theorem bi_ok {G : Gx} (b : BI) : Op1Ok G (fun x H Q => rBi G.K b [x] H Q) (fun x => match biKind b with | .no => none | _ => bi1 b x) := by
  intro F H x ox Sx L r Q rx w e hd
  cases b with
  | len =>
    have e : bi1 .len ox.d = some r := e
    cases hx : ox.d with
    | str z =>
      rw [hx] at e; simp only [bi1] at e
      split at e
      · rename_i c; cases e; cases rx.str hx
        exact .inl ⟨_, rfl, by rw [sv_len, line_eq]; exact c, by rw [sv_len]; exact hd.now w (.int _)⟩
      · cases e
    | tup l =>
      rw [hx] at e; simp only [bi1] at e; cases e
      obtain ⟨p, xs, rfl, hp, hxs⟩ := rx.tup w.le hx
      exact .inr (.inl ⟨p, xs, rfl, .inr hp, by rw [hxs.length]; exact hd.now w (.int _)⟩)
    | lst l =>
      rw [hx] at e; simp only [bi1] at e; cases e
      obtain ⟨p, xs, rfl, hp, hxs⟩ := rx.lst' w.le hx
      exact .inr (.inl ⟨p, xs, rfl, .inl (.of hp), by rw [hxs.length]; exact hd.now w (.int _)⟩)
    | scr l =>
      rw [hx] at e; simp only [bi1] at e; cases e
      obtain ⟨p, rfl, hp⟩ := rx.scr' w.le hx
      exact .inr (.inl ⟨p, _, rfl, .inl hp, by rw [List.length_map]; exact hd.now w (.int _)⟩)
    | dct l =>
      rw [hx] at e; simp only [bi1] at e; cases e
      obtain ⟨p, xs, rfl, hp, hxs⟩ := rx.dct' w.le hx
      exact .inr (.inr ⟨p, xs, rfl, hp, by rw [hxs.length]; exact hd.now w (.int _)⟩)
    | _ => rw [hx] at e; simp [bi1] at e
  | abs =>
    have e : bi1 .abs ox.d = some r := e
    cases hx : ox.d with
    | int i => rw [hx] at e; simp only [bi1] at e; cases e; cases rx.int hx; exact ⟨i, rfl, hd.now w (.int _)⟩
    | _ => rw [hx] at e; simp [bi1] at e
  | int =>
    have e : bi1 .int ox.d = some r := e
    cases hx : ox.d with
    | int i => rw [hx] at e; simp only [bi1] at e; cases e; cases rx.int hx; exact .inl (.inl ⟨i, rfl, hd.now w (.int _)⟩)
    | bl i => rw [hx] at e; simp only [bi1] at e; cases e; cases rx.bl hx; exact .inl (.inr ⟨i, rfl, hd.now w (.int _)⟩)
    | str z =>
      rw [hx] at e; simp only [bi1] at e
      obtain ⟨n, e1, rfl⟩ := Option.map_eq_some_iff.mp e
      unfold intOf? at e1
      split at e1
      · rename_i c
        cases rx.str hx
        exact .inr ⟨_, n, rfl, e1, by rw [sv_len]; exact c, hd.now w (.int _)⟩
      · cases e1
    | _ => rw [hx] at e; simp [bi1] at e
  | str =>
    have e : bi1 .str ox.d = some r := e
    cases hx : ox.d with
    | int i =>
      rw [hx] at e; simp only [bi1] at e
      split at e
      · rename_i c; cases e; cases rx.int hx
        refine .inl ⟨i, rfl, ?_, by rw [num_str c.1]; exact hd.now w (.str _)⟩
        by_cases hz : i.natAbs = 0
        · rw [hz]; decide
        · exact Nat.lt_trans ((Nat.log2_lt hz).mpr (show i.natAbs < 2 ^ 64 by omega)) (by decide)
      · cases e
    | str z => rw [hx] at e; simp only [bi1] at e; cases e; cases rx.str hx; exact .inr ⟨_, rfl, hd.now w (.str _)⟩
    | _ => rw [hx] at e; simp [bi1] at e
  | tuple =>
    have e : bi1 .tuple ox.d = some r := e
    cases hx : ox.d with
    | tup l =>
      rw [hx] at e; simp only [bi1] at e; cases e
      obtain ⟨p, xs, rfl, hp, hxs⟩ := rx.tup w.le hx
      refine ⟨p, xs, rfl, .inr ⟨hp, ?_⟩⟩
      cases rx with
      | fz rx => simp only [OV.d] at hx; subst hx; exact hd.now w rx
      | lst _ _ => simp [OV.d] at hx
      | dct _ _ => simp [OV.d] at hx
    | lst l =>
      rw [hx] at e; simp only [bi1] at e; cases e
      obtain ⟨p, xs, rfl, hp, hxs⟩ := rx.lst' w.le hx
      exact ⟨p, xs, rfl, .inl ⟨.of hp, fun q hq => hd.tup w hq hxs⟩⟩
    | _ => rw [hx] at e; simp [bi1] at e
  | list =>
    have e : bi1 .list ox.d = some r := e
    cases hx : ox.d with
    | tup l =>
      rw [hx] at e; simp only [bi1] at e; cases e
      obtain ⟨p, xs, rfl, hp, hxs⟩ := rx.tup w.le hx
      exact ⟨p, xs, rfl, .inr hp, fun q hq => hd.lst w hq hxs⟩
    | lst l =>
      rw [hx] at e; simp only [bi1] at e; cases e
      obtain ⟨p, xs, rfl, hp, hxs⟩ := rx.lst' w.le hx
      exact ⟨p, xs, rfl, .inl (.of hp), fun q hq => hd.lst w hq hxs⟩
    | _ => rw [hx] at e; simp [bi1] at e
  | all =>
    have e : bi1 .all ox.d = some r := e
    cases hx : ox.d with
    | lst l =>
      rw [hx] at e; simp only [bi1] at e
      obtain ⟨bs, e1, rfl⟩ := Option.map_eq_some_iff.mp e
      obtain ⟨p, xs, rfl, hp, hxs⟩ := rx.lst' w.le hx
      rw [allB_some e1] at hxs
      exact ⟨p, bs, rfl, by rw [← hxs.bls]; exact .of hp, hd.now w (.bl _)⟩
    | _ => rw [hx] at e; simp [bi1] at e
  | any =>
    have e : bi1 .any ox.d = some r := e
    cases hx : ox.d with
    | lst l =>
      rw [hx] at e; simp only [bi1] at e
      obtain ⟨bs, e1, rfl⟩ := Option.map_eq_some_iff.mp e
      obtain ⟨p, xs, rfl, hp, hxs⟩ := rx.lst' w.le hx
      rw [allB_some e1] at hxs
      exact ⟨p, bs, rfl, by rw [← hxs.bls]; exact .of hp, hd.now w (.bl _)⟩
    | _ => rw [hx] at e; simp [bi1] at e
  | sum =>
    have e : bi1 .sum ox.d = some r := e
    cases hx : ox.d with
    | lst l =>
      rw [hx] at e; simp only [bi1] at e
      obtain ⟨bs, e1, rfl⟩ := Option.map_eq_some_iff.mp e
      obtain ⟨p, xs, rfl, hp, hxs⟩ := rx.lst' w.le hx
      rw [allI_some e1] at hxs
      exact ⟨p, bs, rfl, by rw [← hxs.ints]; exact .of hp, hd.now w (.int _)⟩
    | _ => rw [hx] at e; simp [bi1] at e
  | sorted =>
    have e : bi1 .sorted ox.d = some r := e
    cases hx : ox.d with
    | lst l =>
      rw [hx] at e; simp only [bi1] at e
      obtain ⟨ds', e1, rfl⟩ := Option.map_eq_some_iff.mp e
      obtain ⟨p, xs, rfl, hp, hxs⟩ := rx.lst' w.le hx
      exact sortD_ok w hp hxs e1 hd
    | _ => rw [hx] at e; simp [bi1] at e
  | sortset => cases e
  | rev => cases e
  | sortdk => cases e
end Ev
end
section
set_option Elab.async false
set_option linter.all false
set_option maxRecDepth 100000
set_option maxHeartbeats 1000000
/-! EvG: whole expressions. -/
namespace Ev
open PySem L2 PyProof.Rows
section
variable {G : Gx} {X : Cx} {σ : L2.St} {H : Hp} {cl : CL}

/-! ### a step's tails -/
abbrev Own0 (F : Fz) (H : Hp) (S R : List Addr) := Own F H (S ++ R)

/-! ### tests by a value's truth -/
theorem tru_of {F : Fz} {v : V} {o : OV} {S : List Addr} {b : Bool} (le : Le F H) (r : Ro G F H v o S) (e : truth o.d = some b) : TruV G.K v H b := by
  cases hx : o.d with
  | non => rw [hx] at e; cases e; cases r.non hx; rfl
  | bl b => rw [hx] at e; cases e; cases r.bl hx; rfl
  | int i => rw [hx] at e; cases e; cases r.int hx; rfl
  | str z =>
    rw [hx] at e; simp only [truth] at e
    split at e
    · rename_i c; cases e; cases r.str hx
      refine ⟨by rw [sv_len, line_eq]; exact c, ?_⟩
      rw [sv_len]
      cases z <;> simp <;> omega
    · cases e
  | tup l =>
    rw [hx] at e; cases e
    obtain ⟨p, xs, rfl, hp, hxs⟩ := r.tup le hx
    refine .inr (.inl ⟨xs, hp, ?_⟩)
    cases hxs <;> rfl
  | lst l =>
    rw [hx] at e; cases e
    obtain ⟨p, xs, rfl, hp, hxs⟩ := r.lst' le hx
    refine .inl ⟨xs, .of hp, ?_⟩
    cases hxs <;> rfl
  | _ => rw [hx] at e; cases e

/-- a test's plain way: the operand's view, then what is asked of it -/
theorem test1 {g : Env → Res Opd} {f : D → Option Bool} {P : V → Hp → Bool → Prop} (hP : ∀ (F : Fz) (H : Hp) (v : V) (o : OV) (S : List Addr) (b : Bool), Le F H → Ro G F H v o S → f o.d = some b → P v H b) :
    ∀ Q, TTo G (fun ρ => (g ρ).bd fun x ρ => .of ((x.view ρ).bind f) ρ) σ H Q → TOo G g σ H fun v H1 => ∃ b, P v H1 b ∧ Q b H1 := by
  rintro Q ⟨ρ, F, S, R, hs, hw, hp⟩
  obtain ⟨ρ', F', S', R', a1, a2, a3⟩ := step (G := G) (rep := repO G σ) (T := []) hs hw hp
  refine ⟨ρ', F', S', R', a1, a2, a3.imp ?_⟩
  rintro x H1 ⟨ox, ρ1, F1, S1, Sx, hF1, _, hs1, rx, hw1, hp1⟩
  cases e : (ox.view ρ1).bind f with
  | none => simp only [e, Res.of] at hp1; exact False.elim hp1
  | some b =>
    simp only [e, Res.of] at hp1
    obtain ⟨dx, e1, e⟩ := Option.bind_eq_some_iff.mp e
    obtain ⟨vx, Sx', qx, rfl⟩ := rx.view hs1 e1
    exact ⟨b, hP F1 H1 x vx Sx' b hw1.le qx e, hp1 b F1 H1 S1 [] .refl (fun _ _ => rfl) hs1 ⟨rfl, rfl⟩ (hw1.sub (by intro a; simp only [List.count_append]; simp))⟩

theorem of_map {α β : Type} (o : Option α) (f : α → β) (ρ : Env) : Res.of (o.map f) ρ = (Res.of o ρ).bd fun a ρ => .ok (f a) ρ := by cases o <;> rfl

/-! ### not -/
theorem tnot {g : Env → Res Opd} : ∀ Q, TEo G (fun ρ => (g ρ).bd fun x ρ => .of ((x.view ρ).bind fun x => (truth x).map fun b => .fz (.bl (!b))) ρ) σ H Q → tNotT G.K (TOo G g) σ H Q := by
  rintro Q ⟨ρ, F, S, R, hs, hw, hp⟩
  obtain ⟨ρ', F', S', R', a1, a2, a3⟩ := step (G := G) (rep := repO G σ) (T := []) hs hw hp
  refine ⟨ρ', F', S', R', a1, a2, a3.imp ?_⟩
  rintro x H1 ⟨ox, ρ1, F1, S1, Sx, hF1, _, hs1, rx, hw1, hp1⟩
  cases e : (ox.view ρ1).bind fun x => (truth x).map fun b => OV.fz (.bl (!b)) with
  | none => simp only [e, Res.of] at hp1; exact False.elim hp1
  | some r =>
    simp only [e, Res.of] at hp1
    obtain ⟨dx, e1, e⟩ := Option.bind_eq_some_iff.mp e
    obtain ⟨vx, Sx', qx, rfl⟩ := rx.view hs1 e1
    obtain ⟨b, e2, rfl⟩ := Option.map_eq_some_iff.mp e
    exact ⟨b, tru_of hw1.le qx e2, (Post.done (T := Sx) hp1 hs1 (by simpa using hw1)).now (by simpa using hw1) (.bl _)⟩

/-! ### and, or -/
theorem ro_bl {F : Fz} {v : V} {d : D} {S : List Addr} (r : Ro G F H v (.fz d) S) : S = [] ∧ Rf G F v d := by
  cases r with | fz r => exact ⟨rfl, r⟩
theorem tand {ga gb : Env → Res OV} : ∀ Q, TEo G (fun ρ => (ga ρ).bd fun x ρ => (match x with | .fz (.bl true) => gb ρ | .fz (.bl false) => .ok (.fz (.bl false)) ρ | _ => .bad)) σ H Q → tAndV (TEo G ga) (TEo G gb) σ H Q := by
  rintro Q ⟨ρ, F, S, R, hs, hw, hp⟩
  obtain ⟨ρ', F', S', R', a1, a2, a3⟩ := step (G := G) (rep := repE G) (T := []) hs hw hp
  refine ⟨ρ', F', S', R', a1, a2, a3.imp ?_⟩
  rintro x H1 ⟨ox, ρ1, F1, S1, Sx, hF1, _, hs1, rx, hw1, hp1⟩
  cases ox with
  | fz d =>
    obtain ⟨rfl, r⟩ := ro_bl rx
    cases d with
    | bl b =>
      cases r
      refine ⟨b, rfl, ?_⟩
      cases b with
      | true => simp only [if_true]; exact ⟨ρ1, F1, S1, R, hs1, by simpa using hw1, hp1⟩
      | false => simp only [Bool.false_eq_true, if_false]; exact (Post.done (T := []) hp1 hs1 (by simpa using hw1)).now (by simpa using hw1) (.bl _)
    | _ => exact False.elim hp1
  | lst _ => exact False.elim hp1
  | dct _ => exact False.elim hp1
theorem tor {ga gb : Env → Res OV} : ∀ Q, TEo G (fun ρ => (ga ρ).bd fun x ρ => (match x with | .fz (.bl true) => .ok (.fz (.bl true)) ρ | .fz (.bl false) => gb ρ | _ => .bad)) σ H Q → tOrV (TEo G ga) (TEo G gb) σ H Q := by
  rintro Q ⟨ρ, F, S, R, hs, hw, hp⟩
  obtain ⟨ρ', F', S', R', a1, a2, a3⟩ := step (G := G) (rep := repE G) (T := []) hs hw hp
  refine ⟨ρ', F', S', R', a1, a2, a3.imp ?_⟩
  rintro x H1 ⟨ox, ρ1, F1, S1, Sx, hF1, _, hs1, rx, hw1, hp1⟩
  cases ox with
  | fz d =>
    obtain ⟨rfl, r⟩ := ro_bl rx
    cases d with
    | bl b =>
      cases r
      refine ⟨b, rfl, ?_⟩
      cases b with
      | true => simp only [if_true]; exact (Post.done (T := []) hp1 hs1 (by simpa using hw1)).now (by simpa using hw1) (.bl _)
      | false => simp only [Bool.false_eq_true, if_false]; exact ⟨ρ1, F1, S1, R, hs1, by simpa using hw1, hp1⟩
    | _ => exact False.elim hp1
  | lst _ => exact False.elim hp1
  | dct _ => exact False.elim hp1
theorem tandT {ga gb : Env → Res Bool} : ∀ Q, TTo G (fun ρ => (ga ρ).bd fun k ρ => if k then gb ρ else .ok false ρ) σ H Q → tAnd (TTo G ga) (TTo G gb) σ H Q := by
  rintro Q ⟨ρ, F, S, R, hs, hw, hp⟩
  obtain ⟨ρ', F', S', R', a1, a2, a3⟩ := step (G := G) (rep := repT) (T := []) hs hw hp
  refine ⟨ρ', F', S', R', a1, a2, a3.imp ?_⟩
  rintro k H1 ⟨b, ρ1, F1, S1, Sx, hF1, _, hs1, ⟨rfl, rfl⟩, hw1, hp1⟩
  cases k with
  | true => simp only [if_true] at hp1 ⊢; exact ⟨ρ1, F1, S1, R, hs1, by simpa using hw1, hp1⟩
  | false => simp only [Bool.false_eq_true, if_false] at hp1 ⊢; exact hp1 false F1 H1 S1 [] .refl (fun _ _ => rfl) hs1 ⟨rfl, rfl⟩ (by simpa using hw1)
theorem torT {ga gb : Env → Res Bool} : ∀ Q, TTo G (fun ρ => (ga ρ).bd fun k ρ => if k then .ok true ρ else gb ρ) σ H Q → tOr (TTo G ga) (TTo G gb) σ H Q := by
  rintro Q ⟨ρ, F, S, R, hs, hw, hp⟩
  obtain ⟨ρ', F', S', R', a1, a2, a3⟩ := step (G := G) (rep := repT) (T := []) hs hw hp
  refine ⟨ρ', F', S', R', a1, a2, a3.imp ?_⟩
  rintro k H1 ⟨b, ρ1, F1, S1, Sx, hF1, _, hs1, ⟨rfl, rfl⟩, hw1, hp1⟩
  cases k with
  | true => simp only [if_true] at hp1 ⊢; exact hp1 true F1 H1 S1 [] .refl (fun _ _ => rfl) hs1 ⟨rfl, rfl⟩ (by simpa using hw1)
  | false => simp only [Bool.false_eq_true, if_false] at hp1 ⊢; exact ⟨ρ1, F1, S1, R, hs1, by simpa using hw1, hp1⟩
theorem tnotT {ga : Env → Res Bool} : ∀ Q, TTo G (fun ρ => (ga ρ).bd fun b ρ => .ok (!b) ρ) σ H Q → L2.tNot (TTo G ga) σ H Q := by
  rintro Q ⟨ρ, F, S, R, hs, hw, hp⟩
  obtain ⟨ρ', F', S', R', a1, a2, a3⟩ := step (G := G) (rep := repT) (T := []) hs hw hp
  refine ⟨ρ', F', S', R', a1, a2, a3.imp ?_⟩
  rintro k H1 ⟨b, ρ1, F1, S1, Sx, hF1, _, hs1, ⟨rfl, rfl⟩, hw1, hp1⟩
  exact hp1 _ F1 H1 S1 [] .refl (fun _ _ => rfl) hs1 ⟨rfl, rfl⟩ (by simpa using hw1)
theorem tite {gt : Env → Res Bool} {ga gb : Env → Res OV} : ∀ Q, TEo G (fun ρ => (gt ρ).bd fun k ρ => if k then ga ρ else gb ρ) σ H Q → tIf (TTo G gt) (TEo G ga) (TEo G gb) σ H Q := by
  rintro Q ⟨ρ, F, S, R, hs, hw, hp⟩
  obtain ⟨ρ', F', S', R', a1, a2, a3⟩ := step (G := G) (rep := repT) (T := []) hs hw hp
  refine ⟨ρ', F', S', R', a1, a2, a3.imp ?_⟩
  rintro k H1 ⟨b, ρ1, F1, S1, Sx, hF1, _, hs1, ⟨rfl, rfl⟩, hw1, hp1⟩
  cases k with
  | true => simp only [if_true] at hp1 ⊢; exact ⟨ρ1, F1, S1, R, hs1, by simpa using hw1, hp1⟩
  | false => simp only [Bool.false_eq_true, if_false] at hp1 ⊢; exact ⟨ρ1, F1, S1, R, hs1, by simpa using hw1, hp1⟩

/-! ### lists of expressions: each is frozen when it is made -/
theorem tes_nil : ∀ Q, TAo G (fun ρ => .ok [] ρ) σ H Q → tNil σ H Q := by
  rintro Q ⟨ρ, F, S, R, hs, hw, hp⟩
  exact hp [] F H S [] .refl (fun _ _ => rfl) hs ⟨.nil, rfl⟩ (by simpa using hw)
theorem tes_cons {ga : Env → Res OV} {gs : Env → Res (List D)} : ∀ Q, TAo G (fun ρ => (ga ρ).bd fun x ρ => (gs ρ).bd fun xs ρ => .ok (x.d :: xs) ρ) σ H Q → tCons (TEo G ga) (TAo G gs) σ H Q := by
  rintro Q ⟨ρ, F, S, R, hs, hw, hp⟩
  obtain ⟨ρ', F', S', R', a1, a2, a3⟩ := step (G := G) (rep := repE G) (T := []) hs hw hp
  refine ⟨ρ', F', S', R', a1, a2, a3.imp ?_⟩
  rintro x H1 ⟨ox, ρ1, F1, S1, Sx, hF1, _, hs1, rx, hw1, hp1⟩
  obtain ⟨F1', k1, k2, k3⟩ := rx.freeze hw1
  have hs1' := hs1.mono k1 (fun _ _ => rfl)
  obtain ⟨ρ', F', S', R', a1, a2, a3⟩ := step (G := G) (rep := repA G) (T := []) hs1' (by simpa using k3) (hp1.rebase k1 fun _ _ => rfl)
  refine ⟨ρ', F', S', R', a1, a2, a3.imp ?_⟩
  rintro xs H2 ⟨ds, ρ2, F2, S2, Sy, hF2, _, hs2, ⟨ry, rfl⟩, hw2, hp2⟩
  exact hp2 (x :: xs) F2 H2 S2 [] .refl (fun _ _ => rfl) hs2 ⟨.cons (k2.mono hF2) ry, rfl⟩ (by simpa using hw2)
theorem ttup {gs : Env → Res (List D)} : ∀ Q, TEo G (fun ρ => (gs ρ).bd fun ds ρ => if ds.length ≤ mostLen then .ok (.fz (.tup ds)) ρ else .bad) σ H Q → tTup (TAo G gs) σ H Q := by
  rintro Q ⟨ρ, F, S, R, hs, hw, hp⟩
  obtain ⟨ρ', F', S', R', a1, a2, a3⟩ := step (G := G) (rep := repA G) (T := []) hs hw hp
  refine ⟨ρ', F', S', R', a1, a2, a3.imp ?_⟩
  rintro xs H1 ⟨ds, ρ1, F1, S1, Sx, hF1, _, hs1, ⟨rx, rfl⟩, hw1, hp1⟩
  split at hp1
  · rename_i c
    exact ⟨by rw [rx.length, line_eq]; exact c, fun p hp => (Post.done (T := []) hp1 hs1 (by simpa using hw1)).tup (by simpa using hw1) hp rx⟩
  · exact False.elim hp1
theorem tlst {gs : Env → Res (List D)} : ∀ Q, TEo G (fun ρ => (gs ρ).bd fun ds ρ => if ds.length ≤ mostLen then .ok (.lst ds) ρ else .bad) σ H Q → tLst (TAo G gs) σ H Q := by
  rintro Q ⟨ρ, F, S, R, hs, hw, hp⟩
  obtain ⟨ρ', F', S', R', a1, a2, a3⟩ := step (G := G) (rep := repA G) (T := []) hs hw hp
  refine ⟨ρ', F', S', R', a1, a2, a3.imp ?_⟩
  rintro xs H1 ⟨ds, ρ1, F1, S1, Sx, hF1, _, hs1, ⟨rx, rfl⟩, hw1, hp1⟩
  split at hp1
  · rename_i c
    exact ⟨by rw [rx.length, line_eq]; exact c, fun p hp => (Post.done (T := []) hp1 hs1 (by simpa using hw1)).lst (by simpa using hw1) hp rx⟩
  · exact False.elim hp1

/-! ### names, constants -/
theorem tvar {i : Nat} : ∀ Q, TEo G (fun ρ => (match ρ.at i with | some o => .ok (.fz o.d) (ρ.put i (.fz o.d)) | none => .bad)) σ H Q → tVar i σ H Q := by
  rintro Q ⟨ρ, F, S, R, hs, hw, hp⟩
  cases q : ρ.at i with
  | none => simp only [q] at hp; exact False.elim hp
  | some ov =>
    simp only [q] at hp
    obtain ⟨v, S1, Sv, S2, h1, h2, h3, h4, h5⟩ := hs.get q
    have hw' : Own F H (Sv ++ (S1 ++ (S2 ++ R))) := hw.sub (by intro a; rw [h3]; simp only [List.count_append]; omega)
    obtain ⟨F', k1, k2, k3⟩ := h2.freeze hw'
    have hst := h4 F' H v (.fz ov.d) [] k1 (fun _ _ => rfl) (.fz k2)
    have e1 : σ.set i (some v) = σ := by
      apply List.ext_getElem?
      intro j
      by_cases hj : j = i
      · subst hj
        rw [List.getElem?_set]
        simp only [if_true]
        rw [h1]
        have : j < σ.length := by
          by_cases hlt : j < σ.length
          · exact hlt
          · rw [List.getElem?_eq_none (by omega)] at h1; cases h1
        rw [if_pos this]
      · rw [List.getElem?_set_ne (Ne.symm hj)]
    rw [e1] at hst
    exact ⟨v, h1, hp v F' H (S1 ++ ([] ++ S2)) [] k1 (fun _ _ => rfl) hst (.fz k2) (k3.sub (by intro a; simp only [List.count_append]; simp; omega))⟩
theorem tmov {i : Nat} : ∀ Q, TEo G (fun ρ => (match ρ.at i with | some o => .ok o (ρ.set i none) | none => .bad)) σ H Q → tVar i σ H Q := by
  rintro Q ⟨ρ, F, S, R, hs, hw, hp⟩
  cases q : ρ.at i with
  | none => simp only [q] at hp; exact False.elim hp
  | some ov =>
    simp only [q] at hp
    obtain ⟨v, S1, Sv, S2, h1, h2, h3, h4, h5⟩ := hs.get q
    exact ⟨v, h1, hp v F H (S1 ++ S2) Sv .refl (fun _ _ => rfl) (h5 F H .refl fun _ _ => rfl) h2 (hw.sub (by intro a; rw [h3]; simp only [List.count_append]; omega))⟩
theorem tcst {v : V} {d : D} (r : ∀ F, Rf G F v d) : ∀ Q, TEo G (fun ρ => .ok (.fz d) ρ) σ H Q → tC v σ H Q := by
  rintro Q ⟨ρ, F, S, R, hs, hw, hp⟩
  exact hp v F H S [] .refl (fun _ _ => rfl) hs (.fz (r F)) (by simpa using hw)
theorem tfrz {g : Env → Res OV} : ∀ Q, TEo G (fun ρ => (g ρ).bd fun o ρ => .ok (.fz o.d) ρ) σ H Q → TEo G g σ H Q := by
  rintro Q ⟨ρ, F, S, R, hs, hw, hp⟩
  obtain ⟨ρ', F', S', R', a1, a2, a3⟩ := step (G := G) (rep := repE G) (T := []) hs hw hp
  refine ⟨ρ', F', S', R', a1, a2, a3.imp ?_⟩
  rintro x H1 ⟨ox, ρ1, F1, S1, Sx, hF1, _, hs1, rx, hw1, hp1⟩
  obtain ⟨F1', k1, k2, k3⟩ := rx.freeze hw1
  exact hp1 x F1' H1 S1 [] k1 (fun _ _ => rfl) (hs1.mono k1 fun _ _ => rfl) (.fz k2) (by simpa using k3)

/-! ### comparisons as values and tests, chains -/
theorem cmp2_ok (c : Cp) : Op2Ok G (rCmp G.K c) fun x y => (cmp2 c x y).map fun b => .fz (.bl b) := by
  intro F H x y ox oy Sx Sy L o Q rx ry w e hd
  obtain ⟨b, e1, rfl⟩ := Option.map_eq_some_iff.mp e
  exact cmp_ok c F H x y ox oy Sx Sy b Q rx ry w.le e1 (hd.now w (.bl b))
theorem tcmpT (c : Cp) {ga gb : Env → Res Opd} : ∀ Q, TTo G (fun ρ => (ga ρ).bd fun x ρ => (gb ρ).bd fun y ρ => .of ((x.view ρ).bind fun x => (y.view ρ).bind fun y => cmp2 c x y) ρ) σ H Q → tTest (tOp (rCmp G.K c) (TOo G ga) (TOo G gb)) σ H Q := by
  rintro Q ⟨ρ, F, S, R, hs, hw, hp⟩
  show TOo G ga σ H _
  obtain ⟨ρ', F', S', R', a1, a2, a3⟩ := step (G := G) (rep := repO G σ) (T := []) hs hw hp
  refine ⟨ρ', F', S', R', a1, a2, a3.imp ?_⟩
  rintro x H1 ⟨ox, ρ1, F1, S1, Sx, hF1, _, hs1, rx, hw1, hp1⟩
  obtain ⟨ρ', F', S', R', a1, a2, a3⟩ := step (G := G) (rep := repO G σ) (T := Sx) hs1 (by simpa using hw1) hp1
  refine ⟨ρ', F', S', R', a1, a2, a3.imp ?_⟩
  rintro y H2 ⟨oy, ρ2, F2, S2, Sy, hF2, hT2, hs2, ry, hw2, hp2⟩
  cases e : ((ox.view ρ2).bind fun x => (oy.view ρ2).bind fun y => cmp2 c x y) with
  | none => simp only [e, Res.of] at hp2; exact False.elim hp2
  | some b =>
    simp only [e, Res.of] at hp2
    obtain ⟨dx, e1, e⟩ := Option.bind_eq_some_iff.mp e
    obtain ⟨dy, e2, e⟩ := Option.bind_eq_some_iff.mp e
    obtain ⟨vx, Sx', qx, rfl⟩ := (rx.mono hF2 hT2).view hs2 e1
    obtain ⟨vy, Sy', qy, rfl⟩ := ry.view hs2 e2
    exact cmp_ok c F2 H2 x y vx vy Sx' Sy' b _ qx qy hw2.le e ⟨b, rfl, hp2 b F2 H2 S2 [] .refl (fun _ _ => rfl) hs2 ⟨rfl, rfl⟩ (hw2.sub (by intro a; simp only [List.count_append]; simp; omega))⟩
theorem tchain (c c' : Cp) {ga gb ge : Env → Res Opd} : ∀ Q, TEo G (fun ρ => (ga ρ).bd fun x ρ => (gb ρ).bd fun y ρ => (Res.of ((x.view ρ).bind fun x => (y.view ρ).bind fun y => cmp2 c x y) ρ).bd fun k ρ => if k then
        (ge ρ).bd fun z ρ => .of ((y.view ρ).bind fun y => (z.view ρ).bind fun z => (cmp2 c' y z).map fun b => .fz (.bl b)) ρ
      else .ok (.fz (.bl false)) ρ) σ H Q → tChain (rCmp G.K c) (rCmp G.K c') (TOo G ga) (TOo G gb) (TOo G ge) σ H Q := by
  rintro Q ⟨ρ, F, S, R, hs, hw, hp⟩
  show TOo G ga σ H _
  obtain ⟨ρ', F', S', R', a1, a2, a3⟩ := step (G := G) (rep := repO G σ) (T := []) hs hw hp
  refine ⟨ρ', F', S', R', a1, a2, a3.imp ?_⟩
  rintro x H1 ⟨ox, ρ1, F1, S1, Sx, hF1, _, hs1, rx, hw1, hp1⟩
  obtain ⟨ρ', F', S', R', a1, a2, a3⟩ := step (G := G) (rep := repO G σ) (T := Sx) hs1 (by simpa using hw1) hp1
  refine ⟨ρ', F', S', R', a1, a2, a3.imp ?_⟩
  rintro y H2 ⟨oy, ρ2, F2, S2, Sy, hF2, hT2, hs2, ry, hw2, hp2⟩
  cases e : ((ox.view ρ2).bind fun x => (oy.view ρ2).bind fun y => cmp2 c x y) with
  | none => simp only [e, Res.of] at hp2; exact False.elim hp2
  | some b =>
    simp only [e, Res.of, Res.bd] at hp2
    obtain ⟨dx, e1, e⟩ := Option.bind_eq_some_iff.mp e
    obtain ⟨dy, e2, e⟩ := Option.bind_eq_some_iff.mp e
    obtain ⟨vx, Sx', qx, rfl⟩ := (rx.mono hF2 hT2).view hs2 e1
    obtain ⟨vy, Sy', qy, rfl⟩ := ry.view hs2 e2
    refine cmp_ok c F2 H2 x y vx vy Sx' Sy' b _ qx qy hw2.le e ⟨b, rfl, ?_⟩
    have hw3 : Own F2 H2 (Sy ++ (S2 ++ R)) := hw2.sub (by intro a; simp only [List.count_append]; omega)
    cases b with
    | false =>
      simp only [Bool.false_eq_true, if_false] at hp2 ⊢
      exact (Post.done (T := []) hp2 hs2 (hw3.sub (by intro a; simp only [List.count_append]; simp))).now (hw3.sub (by intro a; simp only [List.count_append]; simp)) (.bl false)
    | true =>
      simp only [if_true] at hp2 ⊢
      obtain ⟨ρ', F', S', R', a1, a2, a3⟩ := step (G := G) (rep := repO G σ) (T := Sy) hs2 hw3 hp2
      refine ⟨ρ', F', S', R', a1, a2, a3.imp ?_⟩
      rintro z H3 ⟨oz, ρ3, F3, S3, Sz, hF3, hT3, hs3, rz, hw4, hp3⟩
      cases e : ((oy.view ρ3).bind fun y => (oz.view ρ3).bind fun z => (cmp2 c' y z).map fun b => OV.fz (.bl b)) with
      | none => simp only [e, Res.of] at hp3; exact False.elim hp3
      | some o =>
        simp only [e, Res.of] at hp3
        obtain ⟨dy, e3, e⟩ := Option.bind_eq_some_iff.mp e
        obtain ⟨dz, e4, e⟩ := Option.bind_eq_some_iff.mp e
        obtain ⟨vy, Sy', qy, rfl⟩ := (ry.mono hF3 hT3).view hs3 e3
        obtain ⟨vz, Sz', qz, rfl⟩ := rz.view hs3 e4
        have hw5 : Own F3 H3 ((Sz ++ Sy) ++ (S3 ++ R)) := by simpa [List.append_assoc] using hw4
        exact cmp2_ok c' F3 H3 y z vy vz Sy' Sz' _ o Q qy qz hw5 e (Post.done (T := Sz ++ Sy) hp3 hs3 hw5)
theorem tchainT (c c' : Cp) {ga gb ge : Env → Res Opd} : ∀ Q, TTo G (fun ρ => (ga ρ).bd fun x ρ => (gb ρ).bd fun y ρ => (Res.of ((x.view ρ).bind fun x => (y.view ρ).bind fun y => cmp2 c x y) ρ).bd fun k ρ => if k then
        (ge ρ).bd fun z ρ => .of ((y.view ρ).bind fun y => (z.view ρ).bind fun z => cmp2 c' y z) ρ
      else .ok false ρ) σ H Q → tTest (tChain (rCmp G.K c) (rCmp G.K c') (TOo G ga) (TOo G gb) (TOo G ge)) σ H Q := by
  rintro Q ⟨ρ, F, S, R, hs, hw, hp⟩
  show TOo G ga σ H _
  obtain ⟨ρ', F', S', R', a1, a2, a3⟩ := step (G := G) (rep := repO G σ) (T := []) hs hw hp
  refine ⟨ρ', F', S', R', a1, a2, a3.imp ?_⟩
  rintro x H1 ⟨ox, ρ1, F1, S1, Sx, hF1, _, hs1, rx, hw1, hp1⟩
  obtain ⟨ρ', F', S', R', a1, a2, a3⟩ := step (G := G) (rep := repO G σ) (T := Sx) hs1 (by simpa using hw1) hp1
  refine ⟨ρ', F', S', R', a1, a2, a3.imp ?_⟩
  rintro y H2 ⟨oy, ρ2, F2, S2, Sy, hF2, hT2, hs2, ry, hw2, hp2⟩
  cases e : ((ox.view ρ2).bind fun x => (oy.view ρ2).bind fun y => cmp2 c x y) with
  | none => simp only [e, Res.of] at hp2; exact False.elim hp2
  | some b =>
    simp only [e, Res.of, Res.bd] at hp2
    obtain ⟨dx, e1, e⟩ := Option.bind_eq_some_iff.mp e
    obtain ⟨dy, e2, e⟩ := Option.bind_eq_some_iff.mp e
    obtain ⟨vx, Sx', qx, rfl⟩ := (rx.mono hF2 hT2).view hs2 e1
    obtain ⟨vy, Sy', qy, rfl⟩ := ry.view hs2 e2
    refine cmp_ok c F2 H2 x y vx vy Sx' Sy' b _ qx qy hw2.le e ⟨b, rfl, ?_⟩
    have hw3 : Own F2 H2 (Sy ++ (S2 ++ R)) := hw2.sub (by intro a; simp only [List.count_append]; omega)
    cases b with
    | false =>
      simp only [Bool.false_eq_true, if_false] at hp2 ⊢
      exact ⟨false, rfl, hp2 false F2 H2 S2 [] .refl (fun _ _ => rfl) hs2 ⟨rfl, rfl⟩ (hw3.sub (by intro a; simp only [List.count_append]; simp))⟩
    | true =>
      simp only [if_true] at hp2 ⊢
      obtain ⟨ρ', F', S', R', a1, a2, a3⟩ := step (G := G) (rep := repO G σ) (T := Sy) hs2 hw3 hp2
      refine ⟨ρ', F', S', R', a1, a2, a3.imp ?_⟩
      rintro z H3 ⟨oz, ρ3, F3, S3, Sz, hF3, hT3, hs3, rz, hw4, hp3⟩
      cases e : ((oy.view ρ3).bind fun y => (oz.view ρ3).bind fun z => cmp2 c' y z) with
      | none => simp only [e, Res.of] at hp3; exact False.elim hp3
      | some b =>
        simp only [e, Res.of] at hp3
        obtain ⟨dy, e3, e⟩ := Option.bind_eq_some_iff.mp e
        obtain ⟨dz, e4, e⟩ := Option.bind_eq_some_iff.mp e
        obtain ⟨vy, Sy', qy, rfl⟩ := (ry.mono hF3 hT3).view hs3 e3
        obtain ⟨vz, Sz', qz, rfl⟩ := rz.view hs3 e4
        exact cmp_ok c' F3 H3 y z vy vz Sy' Sz' b _ qy qz hw4.le e ⟨b, rfl, hp3 b F3 H3 S3 [] .refl (fun _ _ => rfl) hs3 ⟨rfl, rfl⟩ (hw4.sub (by intro a; simp only [List.count_append]; simp; omega))⟩

/-! ### slices -/
theorem endOf_some {F : Fz} {v : V} {o : OV} {S : List Addr} {a : Option Int} (r : Ro G F H v o S) (e : endOf o.d = some a) : (a = none ∧ v = .non) ∨ ∃ i, a = some i ∧ v = .int i := by
  cases hx : o.d with
  | non => rw [hx] at e; cases e; exact .inl ⟨rfl, r.non hx⟩
  | int i => rw [hx] at e; cases e; exact .inr ⟨i, rfl, r.int hx⟩
  | _ => rw [hx] at e; cases e
/-- an end of a slice: written, or left out -/
def tEnd (t : TE) : TO := fun σ H Q => t σ H fun x H1 => (x = .non ∧ Q none H1) ∨ ∃ i, x = .int i ∧ Q (some i) H1
theorem tslc {ga gl gh : Env → Res Opd} : ∀ Q, TEo G (fun ρ => (ga ρ).bd fun x ρ => (gl ρ).bd fun y ρ => (Res.of ((y.view ρ).bind endOf) ρ).bd fun i ρ => (gh ρ).bd fun z ρ => (Res.of ((z.view ρ).bind endOf) ρ).bd fun j ρ => .of ((x.view ρ).bind fun x => slc3 x i j) ρ) σ H Q →
    tSl (rSl' G.K) (TOo G ga) (tEnd (TOo G gl)) (tEnd (TOo G gh)) σ H Q := by
  rintro Q ⟨ρ, F, S, R, hs, hw, hp⟩
  show TOo G ga σ H _
  obtain ⟨ρ', F', S', R', a1, a2, a3⟩ := step (G := G) (rep := repO G σ) (T := []) hs hw hp
  refine ⟨ρ', F', S', R', a1, a2, a3.imp ?_⟩
  rintro x H1 ⟨ox, ρ1, F1, S1, Sx, hF1, _, hs1, rx, hw1, hp1⟩
  show TOo G gl σ H1 _
  obtain ⟨ρ', F', S', R', a1, a2, a3⟩ := step (G := G) (rep := repO G σ) (T := Sx) hs1 (by simpa using hw1) hp1
  refine ⟨ρ', F', S', R', a1, a2, a3.imp ?_⟩
  rintro y H2 ⟨oy, ρ2, F2, S2, Sy, hF2, hT2, hs2, ry, hw2, hp2⟩
  cases e1 : ((oy.view ρ2).bind endOf) with
  | none => simp only [e1, Res.of] at hp2; exact False.elim hp2
  | some i =>
    simp only [e1, Res.of, Res.bd] at hp2
    obtain ⟨dy, q1, q2⟩ := Option.bind_eq_some_iff.mp e1
    obtain ⟨vy, Sy', qy, rfl⟩ := ry.view hs2 q1
    have hw3 : Own F2 H2 (Sx ++ (S2 ++ R)) := hw2.sub (by intro a; simp only [List.count_append]; omega)
    have go : tEnd (TOo G gh) σ H2 fun u H3 => rSl' G.K x i u H3 Q := by
      show TOo G gh σ H2 _
      obtain ⟨ρ', F', S', R', a1, a2, a3⟩ := step (G := G) (rep := repO G σ) (T := Sx) hs2 hw3 hp2
      refine ⟨ρ', F', S', R', a1, a2, a3.imp ?_⟩
      rintro z H3 ⟨oz, ρ3, F3, S3, Sz, hF3, hT3, hs3, rz, hw4, hp3⟩
      cases e3 : ((oz.view ρ3).bind endOf) with
      | none => simp only [e3, Res.of] at hp3; exact False.elim hp3
      | some j =>
        simp only [e3, Res.of, Res.bd] at hp3
        obtain ⟨dz, q3, q4⟩ := Option.bind_eq_some_iff.mp e3
        obtain ⟨vz, Sz', qz, rfl⟩ := rz.view hs3 q3
        cases e : ((ox.view ρ3).bind fun x => slc3 x i j) with
        | none => simp only [e] at hp3; exact False.elim hp3
        | some o =>
          simp only [e] at hp3
          obtain ⟨dx, e5, e⟩ := Option.bind_eq_some_iff.mp e
          obtain ⟨vx, Sx', qx, rfl⟩ := ((rx.mono hF2 hT2).mono hF3 hT3).view hs3 e5
          have hw5 : Own F3 H3 ((Sz ++ Sx) ++ (S3 ++ R)) := by simpa [List.append_assoc] using hw4
          have fin : rSl' G.K x i j H3 Q := slc_ok qx hw5 e (Post.done (T := Sz ++ Sx) hp3 hs3 hw5)
          rcases endOf_some qz q4 with ⟨r1, r2⟩ | ⟨n, r1, r2⟩
          · subst r1; exact .inl ⟨r2, fin⟩
          · subst r1; exact .inr ⟨n, r2, fin⟩
    rcases endOf_some qy q2 with ⟨r1, r2⟩ | ⟨n, r1, r2⟩
    · subst r1; exact .inl ⟨r2, go⟩
    · subst r1; exact .inr ⟨n, r2, go⟩
end
end Ev
end
section
set_option Elab.async false
set_option linter.all false
set_option maxRecDepth 100000
set_option maxHeartbeats 1000000
/-! EvH: calls. -/
namespace Ev
open PySem L2 PyProof.Rows
section
variable {G : Gx} {X : Cx} {σ : L2.St} {H : Hp} {cl : CL}

/-! ### built-ins with one argument -/
theorem tbi (b : BI) {g : Env → Res Opd} (hb : biKind b ≠ .no) : ∀ Q, TEo G (fun ρ => (g ρ).bd fun x ρ => .of ((x.view ρ).bind fun x => bi1 b x) ρ) σ H Q → tCB (rBi G.K b) (tCons (TOo G g) tNil) σ H Q := by
  intro Q h
  have e : (fun x => bi1 b x) = fun x => match biKind b with | .no => none | _ => bi1 b x := by
    funext x
    cases b <;> first | rfl | exact absurd rfl hb
  rw [e] at h
  exact op1 (bi_ok b) σ H Q h
/-- as a test -/
theorem bi_bool {b : BI} {x : D} {r : OV} (h : bi1 b x = some r) : True := trivial
theorem test_of_op1 {r : V → Hp → VK → Prop} {f : D → Option OV} {g : Env → Res Opd} (hf : Op1Ok G r f) : ∀ Q, TTo G (fun ρ => (g ρ).bd fun x ρ => .of ((x.view ρ).bind fun x => (f x).bind fun o => truth o.d) ρ) σ H Q →
    tUn r (TOo G g) σ H fun v H' => ∃ k, TruV G.K v H' k ∧ Q k H' := by
  rintro Q ⟨ρ, F, S, R, hs, hw, hp⟩
  show TOo G g σ H _
  obtain ⟨ρ', F', S', R', a1, a2, a3⟩ := step (G := G) (rep := repO G σ) (T := []) hs hw hp
  refine ⟨ρ', F', S', R', a1, a2, a3.imp ?_⟩
  rintro x H1 ⟨ox, ρ1, F1, S1, Sx, hF1, _, hs1, rx, hw1, hp1⟩
  cases e : ((ox.view ρ1).bind fun x => (f x).bind fun o => truth o.d) with
  | none => simp only [e, Res.of] at hp1; exact False.elim hp1
  | some b =>
    simp only [e, Res.of] at hp1
    obtain ⟨dx, e1, e⟩ := Option.bind_eq_some_iff.mp e
    obtain ⟨o, e2, e6⟩ := Option.bind_eq_some_iff.mp e
    obtain ⟨vx, Sx', qx, rfl⟩ := rx.view hs1 e1
    refine hf F1 H1 x vx Sx' (Sx ++ (S1 ++ R)) o _ qx (by simpa using hw1) e2 ?_
    intro v F' H' Sv h1 h2 h3 h4
    have k : ∀ a ∈ Sx ++ (S1 ++ R), H' a = H1 a := fun a ha => h2 a (hw1.fr a (by simpa using ha)).2
    exact ⟨b, tru_of h4.le h3 e6, hp1 b F' H' S1 [] h1 (fun a ha => k a (by simp [ha])) (hs1.mono h1 fun a ha => k a (by simp [ha])) ⟨rfl, rfl⟩ (h4.sub (by intro a; simp only [List.count_append]; simp; omega))⟩
theorem test_of_op2 {r : R2} {f : D → D → Option OV} {ga gb : Env → Res Opd} (hf : Op2Ok G r f) : ∀ Q, TTo G (fun ρ => (ga ρ).bd fun x ρ => (gb ρ).bd fun y ρ => .of ((x.view ρ).bind fun x => (y.view ρ).bind fun y => (f x y).bind fun o => truth o.d) ρ) σ H Q →
    tOp r (TOo G ga) (TOo G gb) σ H fun v H' => ∃ k, TruV G.K v H' k ∧ Q k H' := by
  rintro Q ⟨ρ, F, S, R, hs, hw, hp⟩
  show TOo G ga σ H _
  obtain ⟨ρ', F', S', R', a1, a2, a3⟩ := step (G := G) (rep := repO G σ) (T := []) hs hw hp
  refine ⟨ρ', F', S', R', a1, a2, a3.imp ?_⟩
  rintro x H1 ⟨ox, ρ1, F1, S1, Sx, hF1, _, hs1, rx, hw1, hp1⟩
  obtain ⟨ρ', F', S', R', a1, a2, a3⟩ := step (G := G) (rep := repO G σ) (T := Sx) hs1 (by simpa using hw1) hp1
  refine ⟨ρ', F', S', R', a1, a2, a3.imp ?_⟩
  rintro y H2 ⟨oy, ρ2, F2, S2, Sy, hF2, hT2, hs2, ry, hw2, hp2⟩
  cases e : ((ox.view ρ2).bind fun x => (oy.view ρ2).bind fun y => (f x y).bind fun o => truth o.d) with
  | none => simp only [e, Res.of] at hp2; exact False.elim hp2
  | some b =>
    simp only [e, Res.of] at hp2
    obtain ⟨dx, e1, e⟩ := Option.bind_eq_some_iff.mp e
    obtain ⟨dy, e2, e⟩ := Option.bind_eq_some_iff.mp e
    obtain ⟨o, e3, e6⟩ := Option.bind_eq_some_iff.mp e
    obtain ⟨vx, Sx', qx, rfl⟩ := (rx.mono hF2 hT2).view hs2 e1
    obtain ⟨vy, Sy', qy, rfl⟩ := ry.view hs2 e2
    refine hf F2 H2 x y vx vy Sx' Sy' ((Sy ++ Sx) ++ (S2 ++ R)) o _ qx qy (by simpa [List.append_assoc] using hw2) e3 ?_
    intro v F' H' Sv h1 h2 h3 h4
    have k : ∀ a ∈ Sy ++ (Sx ++ (S2 ++ R)), H' a = H2 a := fun a ha => h2 a (hw2.fr a ha).2
    exact ⟨b, tru_of h4.le h3 e6, hp2 b F' H' S2 [] h1 (fun a ha => k a (by simp [ha])) (hs2.mono h1 fun a ha => k a (by simp [ha])) ⟨rfl, rfl⟩ (h4.sub (by intro a; simp only [List.count_append]; simp; omega))⟩

/-! ### isinstance -/
def tyName : Ty → String
  | .int => "int" | .bool => "bool" | .str => "str" | .tuple => "tuple" | .list => "list" | .dict => "dict"
def dName : D → String
  | .non => "NoneType" | .bl _ => "bool" | .int _ => "int" | .str _ => "str" | .tup _ => "tuple" | .lst _ => "list" | .dct _ => "dict" | .scr _ => "list" | .fn _ => "function"
theorem tyx_of {F : Fz} {v : V} {o : OV} {S : List Addr} (le : Le F H) (r : Ro G F H v o S) (h : isFn o.d = false) : TyX G.K H v (.type (dName o.d)) := by
  cases r with
  | fz r =>
    cases r with
    | non => exact .base .non
    | bl b => exact .base (.bl b)
    | int i => exact .base (.int i)
    | str x => exact .base (.str _)
    | tup e _ => exact .base (.tup (le_tup le e))
    | tupW e _ => obtain ⟨o, _, _, h1, h2, _⟩ := e; exact .kTuple h1 h2
    | lst e _ => exact .base (.lst (le_lst le e))
    | dct e _ =>
      rcases le_dK le e with e | ⟨o, e⟩
      · exact .base (.dK e)
      · exact .fDict e
    | fn e => simp [OV.d, isFn] at h
    | scr e => exact .base (.frz (le_scr le e))
    | scrW e => obtain ⟨o, _, _, h1, h2, _⟩ := e; exact .kList h1 h2
  | lst e _ => exact .base (.lst e)
  | dct e _ => exact .base (.dK e)
theorem kit_all (d : D) (t : Ty) (h : isFn d = false) : kitB (dName d) (tyName t) = some (isTy d t) := by
  cases d <;> cases t <;> first | (simp [isFn] at h; done) | (simp only [dName, tyName, isTy]; decide +kernel)
theorem kit_any {K : PySem.W.Frag} (d : D) (h : isFn d = false) : ∀ ts : List Ty, PySem.W.kitAny K (.type (dName d)) (ts.map fun t => .type (tyName t)) = some (ts.any fun t => isTy d t)
  | [] => kitAny_nil
  | t :: ts => by
    refine kitAny_cons (kit_ty (kit_all d t h)) (fun e => ?_) (fun e => ?_)
    · rw [kit_any d h ts, List.any_cons, e]; rfl
    · rw [List.any_cons, e]; rfl
theorem isi_ok (ts : List Ty) (h1 : ∃ t, ts = [t]) : Op1Ok G (fun x H Q => ∃ t, ts = [t] ∧ rIsi G.K [x, .ty (tyName t)] H Q) (isi2 ts) := by
  obtain ⟨t, rfl⟩ := h1
  intro F H x ox Sx L o Q rx w e hd
  unfold isi2 at e
  split at e
  · cases e
  · rename_i c
    have c : isFn ox.d = false := by simpa using c
    cases e
    refine ⟨t, rfl, x, _, _, _, _, rfl, .ty _, tyx_of w.le rx c, kit_ty (kit_all ox.d t c), ?_⟩
    simpa using hd.now w (.bl _)
def tTys : List Ty → TA
  | [] => tNil
  | t :: ts => tCons (tC (.ty (tyName t))) (tTys ts)
theorem tTys_run (ts : List Ty) : ∀ (Q : List V → Hp → Prop), Q (ts.map fun t => .ty (tyName t)) H → tTys ts σ H Q := by
  induction ts with
  | nil => intro Q h; exact h
  | cons t ts ih => intro Q h; exact ih _ h
theorem clsv_all : ∀ ts : List Ty, Paired ClsV (ts.map fun t => .ty (tyName t)) (ts.map fun t => .type (tyName t))
  | [] => .nil
  | t :: ts => .cons (.ty _) (clsv_all ts)
theorem isiT_ok (ts : List Ty) (hts : ts.length ≤ 100) : Op1Ok G (fun x H1 Q => ∀ p, H1 p = none → rIsiT G.K [x, .ref p] (upd H1 p (.tup (ts.map fun t => .ty (tyName t)))) Q) (isi2 ts) := by
  intro F H x ox Sx L o Q rx w e hd p hp
  unfold isi2 at e
  split at e
  · cases e
  · rename_i c
    have c : isFn ox.d = false := by simpa using c
    cases e
    obtain ⟨k1, k2⟩ := w.newT (xs := ts.map fun t => .ty (tyName t)) hp
    have rx' : Ro G (fput F p (.tup (ts.map fun t => .ty (tyName t)))) (upd H p (.tup (ts.map fun t => .ty (tyName t)))) x ox Sx := by
      refine rx.mono k1 fun a ha => upd_ne fun z => ?_
      subst z
      cases rx with
      | fz r => cases ha
      | lst e r => simp at ha; subst ha; rw [e] at hp; cases hp
      | dct e r => simp at ha; subst ha; rw [e] at hp; cases hp
    refine ⟨x, p, _, _, _, _, rfl, upd_same, clsv_all ts, tyx_of k2.le rx' c, kit_any ox.d c ts, ?_⟩
    exact hd _ _ _ [] k1 (fun a ha => upd_ne fun z => ha (z ▸ hp)) (.fz (.bl _)) k2

/-! ### methods of texts with one argument -/
def rMt (K : PySem.W.Frag) : MT → V → List V → Hp → VK → Prop
  | .split => fun x xs H Q => ∃ a b, x = .str a ∧ xs = [.str b] ∧ (b.length == 0) = false ∧ a.length + 2 ≤ sizeLine ∧ rNewStrs (Txt.split a b) H Q
  | .join => fun x xs H Q => ∃ a p, ∃ ys : List Str, x = .str a ∧ xs = [.ref p] ∧ (SqL K H p (ys.map V.str) ∨ SqT K H p (ys.map V.str)) ∧ (ys.map (·.length)).sum + ys.length * a.length ≤ 16777216 ∧ Q (.str (Txt.join a ys)) H
  | .ends => fun x xs H Q => ∃ a b, x = .str a ∧ xs = [.str b] ∧ Q (.bl (Txt.endswith a b)) H
  | .starts => fun x xs H Q => ∃ a b, x = .str a ∧ xs = [.str b] ∧ Q (.bl (Txt.startswith a b)) H
  | _ => fun _ _ _ _ => False
def mtId : MT → String
  | .split => "str.split" | .join => "str.join" | .ends => "str.endswith" | .starts => "str.startswith" | _ => ""
def mtName : MT → Str
  | .split => "split" | .join => "join" | .ends => "endswith" | .starts => "startswith" | .get => "get" | .count => "count" | .index => "index"
theorem mtr {m : MT} (h : mtId m ≠ "") : MtR X (mtId m) (rMt X.K m) := by
  cases m with
  | split => exact mt_split
  | join => exact mt_join
  | ends => exact mt_endswith
  | starts => exact mt_startswith
  | _ => exact absurd rfl h
theorem slot_mt {m : MT} (h : mtId m ≠ "") : Slot "str" (mtName m) (mtId m) := by
  cases m with
  | split => exact PySem.F.slot_str_split
  | join => exact PySem.F.slot_str_join
  | ends => exact PySem.F.slot_str_endswith
  | starts => exact PySem.F.slot_str_startswith
  | _ => exact absurd rfl h
theorem type_mt {m : MT} (h : mtId m ≠ "") : typeOf (.builtin (mtId m)) = pure (.type "method_descriptor") := by
  cases m with
  | split => exact PySem.F.type_str_split
  | join => exact PySem.F.type_str_join
  | ends => exact PySem.F.type_str_endswith
  | starts => exact PySem.F.type_str_startswith
  | _ => exact absurd rfl h
theorem map_sv_tl : ∀ l : List Str, (l.map TL.tl).map sv = l
  | [] => rfl
  | x :: l => by rw [List.map_cons, List.map_cons, map_sv_tl l]
theorem tl_sv (x : Tx) : TL.tl (sv x) = x := sv_cps
theorem split_eq {x y : Tx} (hy : y ≠ []) (hk : y.all (· < 256) = true) : Txt.split (sv x) (sv y) = (TL.spl y 0 [] x).map sv := by
  have h := TL.split_spl (sv x) (sv y) (by rw [tl_sv]; exact hy) (TL.kind_ok (by simpa [sv] using hk))
  rw [tl_sv, tl_sv] at h
  rw [← h, map_sv_tl]
theorem join_eq' (x : Tx) (ts : List Tx) : Txt.join (sv x) (ts.map sv) = sv (TL.joinL x ts) := by
  rw [TL.join_eq]
  refine PySem.W.str_of_cps ?_
  rw [sv_cps]
  have h := TL.tl_join (sv x) (ts.map sv)
  rw [tl_sv, List.map_map] at h
  have e : (TL.tl ∘ sv) = id := by funext z; exact tl_sv z
  rw [e, List.map_id] at h
  exact h
theorem mt_ok {m : MT} (hm : mtId m ≠ "") : ∀ (F : Fz) (H : Hp) (x y : V) (ox oy : OV) (Sx Sy L : List Addr) (o : OV) (Q : VK), Ro G F H x ox Sx → Ro G F H y oy Sy → Own F H L → mth1 m ox.d oy.d = some o → Done G F H L o Q → rMt G.K m x [y] H Q := by
  intro F H x y ox oy Sx Sy L o Q rx ry w e hd
  cases hx : ox.d with
  | str a =>
    rw [hx] at e
    cases rx.str hx
    cases m with
    | split =>
      cases hy : oy.d with
      | str b =>
        rw [hy] at e
        cases ry.str hy
        simp only [mth1] at e
        split at e
        · rename_i c
          cases e
          refine ⟨_, _, rfl, rfl, ?_, by rw [sv_len, line_eq]; exact c.2.2, fun p hp => ?_⟩
          · rw [sv_len]
            cases b with
            | nil => exact absurd rfl c.1
            | cons _ _ => simp
          · rw [split_eq c.1 c.2.1]
            exact hd.lst w hp Rfs.of_strs
        · cases e
      | _ => rw [hy] at e; simp [mth1] at e
    | join =>
      cases hy : oy.d with
      | lst l =>
        rw [hy] at e
        simp only [mth1] at e
        obtain ⟨ts, e1, e⟩ := Option.bind_eq_some_iff.mp e
        split at e
        · rename_i c
          cases e
          obtain ⟨p, xs, rfl, hp, hxs⟩ := ry.lst' w.le hy
          rw [allS_some e1] at hxs
          refine ⟨_, p, ts.map sv, rfl, rfl, .inl (.of (by rw [← hxs.strs]; exact hp)), ?_, by rw [join_eq']; exact hd.now w (.str _)⟩
          rw [List.map_map, List.length_map, sv_len]
          have : (List.map ((fun x => x.length) ∘ sv) ts) = ts.map (·.length) := List.map_congr_left fun z _ => sv_len
          rw [this]
          exact c
        · cases e
      | tup l =>
        rw [hy] at e
        simp only [mth1] at e
        obtain ⟨ts, e1, e⟩ := Option.bind_eq_some_iff.mp e
        split at e
        · rename_i c
          cases e
          obtain ⟨p, xs, rfl, hp, hxs⟩ := ry.tup w.le hy
          rw [allS_some e1] at hxs
          refine ⟨_, p, ts.map sv, rfl, rfl, .inr (by rw [← hxs.strs]; exact hp), ?_, by rw [join_eq']; exact hd.now w (.str _)⟩
          rw [List.map_map, List.length_map, sv_len]
          have : (List.map ((fun x => x.length) ∘ sv) ts) = ts.map (·.length) := List.map_congr_left fun z _ => sv_len
          rw [this]
          exact c
        · cases e
      | _ => rw [hy] at e; simp [mth1] at e
    | ends =>
      cases hy : oy.d with
      | str b => rw [hy] at e; cases ry.str hy; simp only [mth1] at e; cases e; exact ⟨_, _, rfl, rfl, hd.now w (.bl _)⟩
      | _ => rw [hy] at e; simp [mth1] at e
    | starts =>
      cases hy : oy.d with
      | str b => rw [hy] at e; cases ry.str hy; simp only [mth1] at e; cases e; exact ⟨_, _, rfl, rfl, hd.now w (.bl _)⟩
      | _ => rw [hy] at e; simp [mth1] at e
    | _ => exact absurd rfl hm
  | _ => rw [hx] at e; cases m <;> first | exact absurd rfl hm | (simp [mth1] at e)
/-- the shape of a method call with one argument -/
theorem tmt1 {m : MT} (hm : mtId m ≠ "") {ga gb : Env → Res Opd} : ∀ Q, TEo G (fun ρ => (ga ρ).bd fun x ρ => (Res.of ((x.view ρ).bind (recvOk m)) ρ).bd fun _ ρ => (gb ρ).bd fun y ρ => .of ((x.view ρ).bind fun x => (y.view ρ).bind fun y => mth1 m x y) ρ) σ H Q →
    tBM G.K "str" (rMt G.K m) (TOo G ga) (tCons (TOo G gb) tNil) σ H Q := by
  rintro Q ⟨ρ, F, S, R, hs, hw, hp⟩
  show TOo G ga σ H _
  obtain ⟨ρ', F', S', R', a1, a2, a3⟩ := step (G := G) (rep := repO G σ) (T := []) hs hw hp
  refine ⟨ρ', F', S', R', a1, a2, a3.imp ?_⟩
  rintro x H1 ⟨ox, ρ1, F1, S1, Sx, hF1, _, hs1, rx, hw1, hp1⟩
  cases e0 : (ox.view ρ1).bind (recvOk m) with
  | none => simp only [e0, Res.of] at hp1; exact False.elim hp1
  | some u =>
    simp only [e0, Res.of, Res.bd] at hp1
    obtain ⟨dx0, e1, e2⟩ := Option.bind_eq_some_iff.mp e0
    obtain ⟨vx0, Sx0, qx0, rfl⟩ := rx.view hs1 e1
    have hstr : tyV G.K "str" x H1 := by
      cases hx : vx0.d with
      | str a => cases qx0.str hx; exact rfl
      | _ => rw [hx] at e2; cases m <;> first | exact absurd rfl hm | cases e2
    refine ⟨hstr, ?_⟩
    show TOo G gb σ H1 _
    obtain ⟨ρ', F', S', R', a1, a2, a3⟩ := step (G := G) (rep := repO G σ) (T := Sx) hs1 (by simpa using hw1) hp1
    refine ⟨ρ', F', S', R', a1, a2, a3.imp ?_⟩
    rintro y H2 ⟨oy, ρ2, F2, S2, Sy, hF2, hT2, hs2, ry, hw2, hp2⟩
    cases e : ((ox.view ρ2).bind fun x => (oy.view ρ2).bind fun y => mth1 m x y) with
    | none => simp only [e] at hp2; exact False.elim hp2
    | some o =>
      simp only [e] at hp2
      obtain ⟨dx, e1, e⟩ := Option.bind_eq_some_iff.mp e
      obtain ⟨dy, e2, e⟩ := Option.bind_eq_some_iff.mp e
      obtain ⟨vx, Sx', qx, rfl⟩ := (rx.mono hF2 hT2).view hs2 e1
      obtain ⟨vy, Sy', qy, rfl⟩ := ry.view hs2 e2
      have hw3 : Own F2 H2 ((Sy ++ Sx) ++ (S2 ++ R)) := by simpa [List.append_assoc] using hw2
      exact mt_ok hm F2 H2 x y vx vy Sx' Sy' _ o Q qx qy hw3 e (Post.done (T := Sy ++ Sx) hp2 hs2 hw3)
/-! ### get of a dict -/
theorem dget_of {F : Fz} {x y : V} {ox oy : OV} {Sx Sy : List Addr} {l : List (D × D)} (le : Le F H) (rx : Ro G F H x ox Sx) (ry : Ro G F H y oy Sy) (hx : ox.d = .dct l) (hk : keyOk oy.d = true) :
    ∃ a r, x = .ref a ∧ DGet H a y r ∧ ((∃ d v, dGet l oy.d = some d ∧ r = some v ∧ Rf G F v d) ∨ (dGet l oy.d = none ∧ r = none)) := by
  obtain ⟨k, hk1, hv⟩ := keyD_of hk
  obtain ⟨a, kvs, rfl, ha, hkv⟩ := rx.dct' le hx
  have hyk : y = kV k := by
    cases ry with
    | fz r => exact hv _ _ _ r
    | lst _ _ => simp [OV.d, keyOk] at hk
    | dct _ _ => simp [OV.d, keyOk] at hk
  refine ⟨a, valV kvs k, rfl, .inl ⟨kvs, k, ha, hyk, rfl⟩, ?_⟩
  rw [hk1]
  rcases hkv.get k with ⟨d, v, e1, e2, r⟩ | ⟨e1, e2⟩
  · exact .inl ⟨d, v, e1, e2, r⟩
  · exact .inr ⟨e1, e2⟩
theorem isD_of {F : Fz} {x : V} {ox : OV} {Sx : List Addr} {l : List (D × D)} (le : Le F H) (rx : Ro G F H x ox Sx) (hx : ox.d = .dct l) : ∃ a, x = .ref a ∧ IsD H a := by
  obtain ⟨a, kvs, rfl, ha, _⟩ := rx.dct' le hx
  exact ⟨a, rfl, .inl ⟨kvs, ha⟩⟩
theorem tget1 {ga gb : Env → Res Opd} : ∀ Q, TEo G (fun ρ => (ga ρ).bd fun x ρ => (Res.of ((x.view ρ).bind (recvOk .get)) ρ).bd fun _ ρ => (gb ρ).bd fun y ρ => .of ((x.view ρ).bind fun x => (y.view ρ).bind fun y => mth1 .get x y) ρ) σ H Q →
    tDGet1 (TOo G ga) (TOo G gb) σ H Q := by
  rintro Q ⟨ρ, F, S, R, hs, hw, hp⟩
  show TOo G ga σ H _
  obtain ⟨ρ', F', S', R', a1, a2, a3⟩ := step (G := G) (rep := repO G σ) (T := []) hs hw hp
  refine ⟨ρ', F', S', R', a1, a2, a3.imp ?_⟩
  rintro x H1 ⟨ox, ρ1, F1, S1, Sx, hF1, _, hs1, rx, hw1, hp1⟩
  cases e0 : (ox.view ρ1).bind (recvOk .get) with
  | none => simp only [e0, Res.of] at hp1; exact False.elim hp1
  | some u =>
    simp only [e0, Res.of, Res.bd] at hp1
    obtain ⟨dx0, e1, e2⟩ := Option.bind_eq_some_iff.mp e0
    obtain ⟨vx0, Sx0, qx0, rfl⟩ := rx.view hs1 e1
    have hd : ∃ l, vx0.d = .dct l := by
      cases hx : vx0.d with
      | dct l => exact ⟨l, rfl⟩
      | _ => rw [hx] at e2; cases e2
    obtain ⟨l0, hl0⟩ := hd
    obtain ⟨a, rfl, hD⟩ := isD_of hw1.le qx0 hl0
    refine ⟨a, rfl, hD, ?_⟩
    show TOo G gb σ H1 _
    obtain ⟨ρ', F', S', R', a1, a2, a3⟩ := step (G := G) (rep := repO G σ) (T := Sx) hs1 (by simpa using hw1) hp1
    refine ⟨ρ', F', S', R', a1, a2, a3.imp ?_⟩
    rintro y H2 ⟨oy, ρ2, F2, S2, Sy, hF2, hT2, hs2, ry, hw2, hp2⟩
    cases e : ((ox.view ρ2).bind fun x => (oy.view ρ2).bind fun y => mth1 .get x y) with
    | none => simp only [e] at hp2; exact False.elim hp2
    | some o =>
      simp only [e] at hp2
      obtain ⟨dx, e1, e⟩ := Option.bind_eq_some_iff.mp e
      obtain ⟨dy, e2, e⟩ := Option.bind_eq_some_iff.mp e
      obtain ⟨vx, Sx', qx, rfl⟩ := (rx.mono hF2 hT2).view hs2 e1
      obtain ⟨vy, Sy', qy, rfl⟩ := ry.view hs2 e2
      have hw3 : Own F2 H2 ((Sy ++ Sx) ++ (S2 ++ R)) := by simpa [List.append_assoc] using hw2
      have hd := Post.done (T := Sy ++ Sx) hp2 hs2 hw3
      cases hx : vx.d with
      | dct l =>
        rw [hx] at e
        simp only [mth1] at e
        split at e
        · rename_i c
          cases e
          obtain ⟨a', r, ea, g, q⟩ := dget_of hw2.le qx qy hx c
          cases ea
          refine ⟨r, g, ?_⟩
          rcases q with ⟨d, v, e1, rfl, rf⟩ | ⟨e1, rfl⟩
          · rw [e1] at hd; exact hd.now hw3 rf
          · rw [e1] at hd; exact hd.now hw3 .non
        · cases e
      | _ => rw [hx] at e; simp [mth1] at e
theorem tget2 {ga gb : Env → Res Opd} {gz : Env → Res OV} : ∀ Q, TEo G (fun ρ => (ga ρ).bd fun x ρ => (Res.of ((x.view ρ).bind (recvOk .get)) ρ).bd fun _ ρ => (gb ρ).bd fun y ρ => (gz ρ).bd fun z ρ => .of ((x.view ρ).bind fun x => (y.view ρ).bind fun y => mth2 .get x y z.d) ρ) σ H Q →
    tDGet2 (TOo G ga) (TOo G gb) (TEo G gz) σ H Q := by
  rintro Q ⟨ρ, F, S, R, hs, hw, hp⟩
  show TOo G ga σ H _
  obtain ⟨ρ', F', S', R', a1, a2, a3⟩ := step (G := G) (rep := repO G σ) (T := []) hs hw hp
  refine ⟨ρ', F', S', R', a1, a2, a3.imp ?_⟩
  rintro x H1 ⟨ox, ρ1, F1, S1, Sx, hF1, _, hs1, rx, hw1, hp1⟩
  cases e0 : (ox.view ρ1).bind (recvOk .get) with
  | none => simp only [e0, Res.of] at hp1; exact False.elim hp1
  | some u =>
    simp only [e0, Res.of, Res.bd] at hp1
    obtain ⟨dx0, e1, e2⟩ := Option.bind_eq_some_iff.mp e0
    obtain ⟨vx0, Sx0, qx0, rfl⟩ := rx.view hs1 e1
    have hd : ∃ l, vx0.d = .dct l := by
      cases hx : vx0.d with
      | dct l => exact ⟨l, rfl⟩
      | _ => rw [hx] at e2; cases e2
    obtain ⟨l0, hl0⟩ := hd
    obtain ⟨a, rfl, hD⟩ := isD_of hw1.le qx0 hl0
    refine ⟨a, rfl, hD, ?_⟩
    show TOo G gb σ H1 _
    obtain ⟨ρ', F', S', R', a1, a2, a3⟩ := step (G := G) (rep := repO G σ) (T := Sx) hs1 (by simpa using hw1) hp1
    refine ⟨ρ', F', S', R', a1, a2, a3.imp ?_⟩
    rintro y H2 ⟨oy, ρ2, F2, S2, Sy, hF2, hT2, hs2, ry, hw2, hp2⟩
    have hw2' : Own F2 H2 ((Sy ++ Sx) ++ (S2 ++ R)) := by simpa [List.append_assoc] using hw2
    obtain ⟨ρ', F', S', R', a1, a2, a3⟩ := step (G := G) (rep := repE G) (T := Sy ++ Sx) hs2 hw2' hp2
    refine ⟨ρ', F', S', R', a1, a2, a3.imp ?_⟩
    rintro z H3 ⟨oz, ρ3, F3, S3, Sz, hF3, hT3, hs3, rz, hw4, hp3⟩
    obtain ⟨F3', k1, k2, k3⟩ := rz.freeze hw4
    have hp3 := hp3.rebase k1 fun _ _ => rfl
    have hs3 := hs3.mono k1 fun _ _ => rfl
    cases e : ((ox.view ρ3).bind fun x => (oy.view ρ3).bind fun y => mth2 .get x y oz.d) with
    | none => simp only [e] at hp3; exact False.elim hp3
    | some o =>
      simp only [e] at hp3
      obtain ⟨dx, e1, e⟩ := Option.bind_eq_some_iff.mp e
      obtain ⟨dy, e2, e⟩ := Option.bind_eq_some_iff.mp e
      obtain ⟨vx, Sx', qx, rfl⟩ := (((rx.mono hF2 hT2).mono hF3 fun a ha => hT3 a (by simp [ha])).mono k1 fun _ _ => rfl).view hs3 e1
      obtain ⟨vy, Sy', qy, rfl⟩ := ((ry.mono hF3 fun a ha => hT3 a (by simp [ha])).mono k1 fun _ _ => rfl).view hs3 e2
      have hd := Post.done (T := Sy ++ Sx) hp3 hs3 k3
      cases hx : vx.d with
      | dct l =>
        rw [hx] at e
        simp only [mth2] at e
        split at e
        · rename_i c
          cases e
          obtain ⟨a', r, ea, g, q⟩ := dget_of k3.le qx qy hx c
          cases ea
          refine ⟨r, g, ?_⟩
          rcases q with ⟨d, v, e1, rfl, rf⟩ | ⟨e1, rfl⟩
          · rw [e1] at hd; exact hd.now k3 rf
          · rw [e1] at hd; exact hd.now k3 k2
        · cases e
      | _ => rw [hx] at e; simp [mth2] at e
end
end Ev
end
section
set_option Elab.async false
set_option linter.all false
set_option maxRecDepth 100000
set_option maxHeartbeats 1000000
/-! EvI: lists that change, calls of the text's own defs, displays of dicts, comprehensions. -/
namespace Ev
open PySem L2 PyProof.Rows
section
variable {G : Gx} {X : Cx} {σ : L2.St} {H : Hp} {cl : CL}

theorem Own.write {F : Fz} {L : List Addr} {a : Addr} {o : HO} (w : Own F H L) (ha : a ∈ L) : Own F (upd H a o) L := by
  refine ⟨fun b u e => ?_, w.one, fun b hb => ⟨(w.fr b hb).1, ?_⟩⟩
  · have hne : b ≠ a := fun z => by subst z; rw [(w.fr b ha).1] at e; cases e
    have q := w.le b u e
    cases u with
    | lst xs => exact (upd_ne hne).trans q
    | tup xs => exact (upd_ne hne).trans q
    | dK kvs => rcases q with q | ⟨o', q⟩
                · exact .inl ((upd_ne hne).trans q)
                · exact .inr ⟨o', (upd_ne hne).trans q⟩
    | scr o xs => exact (upd_ne hne).trans q
  · by_cases z : b = a
    · subst z; rw [upd_same]; simp
    · rw [upd_ne z]; exact (w.fr b hb).2
theorem set_self {α : Type} {l : List α} {i : Nat} {v : α} (h : l[i]? = some v) : l.set i v = l := by
  apply List.ext_getElem?
  intro j
  by_cases hj : j = i
  · subst hj
    rw [List.getElem?_set]
    have : j < l.length := by
      by_cases hlt : j < l.length
      · exact hlt
      · rw [List.getElem?_eq_none (by omega)] at h; cases h
    simp only [if_true, if_pos this]
    exact h.symm
  · rw [List.getElem?_set_ne (Ne.symm hj)]
/-- what a slot owns is changed -/
theorem slot_write {F : Fz} {ρ : Env} {S R T : List Addr} {i : Nat} {v : V} {a : Addr} {o o' : OV} {ho : HO} (hs : St' G F H σ ρ S) (hw : Own F H (T ++ (S ++ R))) (q : ρ.at i = some o) (hv : σ[i]? = some (some v))
    (ha : ∀ Sv, Ro G F H v o Sv → Sv = [a]) (hn : Ro G F (upd H a ho) v o' [a]) : ∃ S', St' G F (upd H a ho) σ (ρ.put i o') S' ∧ Own F (upd H a ho) (T ++ (S' ++ R)) ∧ (∀ x ∈ T ++ R, upd H a ho x = H x) := by
  obtain ⟨v', S1, Sv, S2, h1, h2, h3, h4, h5⟩ := hs.get q
  rw [hv] at h1; cases h1
  cases ha Sv h2
  have hone := hw.one a
  have hT : a ∉ T ∧ a ∉ S1 ∧ a ∉ S2 ∧ a ∉ R := by
    rw [h3] at hone
    simp only [List.count_append, List.count_singleton_self] at hone
    refine ⟨fun z => ?_, fun z => ?_, fun z => ?_, fun z => ?_⟩ <;> (have := List.count_pos_iff.mpr z; omega)
  have hst := h4 F (upd H a ho) v o' [a] .refl (fun x hx => upd_ne fun z => by
    subst z
    rcases List.mem_append.mp hx with hx | hx
    · exact hT.2.1 hx
    · exact hT.2.2.1 hx) hn
  rw [set_self hv] at hst
  refine ⟨S1 ++ ([a] ++ S2), hst, (hw.write (by rw [h3]; simp)).sub (by intro b; rw [h3]; exact Nat.le_refl _), fun x hx => upd_ne fun z => by
    subst z
    rcases List.mem_append.mp hx with hx | hx
    · exact hT.1 hx
    · exact hT.2.2.2 hx⟩

def rMu : MU → V → List V → Hp → VK → Prop
  | .append => rAppend
  | .extend => rExtend
  | .pop => fun _ _ _ _ => False
def muId : MU → String
  | .append => "list.append" | .extend => "list.extend" | .pop => "list.pop"
def muName : MU → Str
  | .append => "append" | .extend => "extend" | .pop => "pop"
theorem mur {m : MU} : MtR X (muId m) (rMu m) := by
  cases m with
  | append => exact mt_append
  | extend => exact mt_extend
  | pop => exact fun _ _ _ _ _ _ _ _ _ _ _ _ h => h.elim
theorem slot_mu (m : MU) : Slot "list" (muName m) (muId m) := by
  cases m with
  | append => exact PySem.F.slot_list_append
  | extend => exact PySem.F.slot_list_extend
  | pop => exact PySem.F.slot_list_pop
theorem type_mu (m : MU) : typeOf (.builtin (muId m)) = pure (.type "method_descriptor") := by
  cases m with
  | append => exact PySem.F.type_list_append
  | extend => exact PySem.F.type_list_extend
  | pop => exact PySem.F.type_list_pop
theorem ro_lst {F : Fz} {v : V} {l : List D} {S : List Addr} (r : Ro G F H v (.lst l) S) : ∃ a xs, v = .ref a ∧ S = [a] ∧ H a = some (.lst xs) ∧ Rfs G F xs l := by
  cases r with | lst e r => exact ⟨_, _, rfl, rfl, e, r⟩
theorem ro_dct {F : Fz} {v : V} {l : List (D × D)} {S : List Addr} (r : Ro G F H v (.dct l) S) : ∃ a xs, v = .ref a ∧ S = [a] ∧ H a = some (.dK xs) ∧ Rkv G F xs l := by
  cases r with | dct e r => exact ⟨_, _, rfl, rfl, e, r⟩
theorem tmu1 {m : MU} {i : Nat} {ga : Env → Res OV} : ∀ Q, TEo G (fun ρ => (match ρ.at i with
    | some (.lst _) => (ga ρ).bd fun x ρ => (match ρ.at i with
      | some (.lst l) => (match mut1 m l x.d with
        | some l' => .ok (.fz .non) (ρ.put i (.lst l'))
        | none => .bad)
      | _ => .bad)
    | _ => .bad)) σ H Q → tBM G.K "list" (rMu m) (tVar i) (tCons (TEo G ga) tNil) σ H Q := by
  rintro Q ⟨ρ, F, S, R, hs, hw, hp⟩
  dsimp only at hp
  split at hp
  · rename_i l0 q0
    obtain ⟨v, S1, Sv, S2, h1, h2, h3, h4, h5⟩ := hs.get q0
    obtain ⟨a, xs0, rfl, rfl, ha0, hx0⟩ := ro_lst h2
    refine ⟨_, h1, .inl ⟨rfl, xs0, .of ha0⟩, ?_⟩
    show TEo G ga σ H _
    obtain ⟨ρ', F', S', R', a1, a2, a3⟩ := step (G := G) (rep := repE G) (T := []) hs hw hp
    refine ⟨ρ', F', S', R', a1, a2, a3.imp ?_⟩
    rintro y H1 ⟨oy, ρ1, F1, S1', Sy, hF1, _, hs1, ry, hw1, hp1⟩
    obtain ⟨F1', k1, k2, k3⟩ := ry.freeze hw1
    have hs1 := hs1.mono k1 fun _ _ => rfl
    have hp1 := hp1.rebase k1 fun _ _ => rfl
    show rMu m (.ref a) [y] H1 Q
    split at hp1
    · rename_i l q1
      split at hp1
      · rename_i l' e
        obtain ⟨v', T1, Tv, T2, g1, g2, g3, g4, g5⟩ := hs1.get q1
        rw [h1] at g1; cases g1
        obtain ⟨a', xs, ea, rfl, ha, hx⟩ := ro_lst g2
        cases ea
        have k3' : Own F1' H1 ([] ++ (S1' ++ R)) := by simpa using k3
        have fin : ∀ zs, Rfs G F1' zs l' → Q .non (upd H1 a (.lst zs)) := fun zs hz => by
          obtain ⟨S'', b1, b2, b3⟩ := slot_write (T := []) hs1 k3' q1 h1 (fun Sv r => (ro_lst r).elim fun a2 h => h.elim fun _ h => by cases h.1; exact h.2.1) (ho := .lst zs) (o' := .lst l') (.lst upd_same hz)
          exact hp1 .non F1' _ S'' [] .refl (fun x hx => b3 x (by simpa using hx)) b1 (.fz .non) (by simpa using b2)
        cases m with
        | append =>
          simp only [mut1] at e
          split at e
          · rename_i c
            cases e
            refine ⟨a, xs, y, rfl, rfl, ha, by rw [hx.length, line_eq]; exact c, fin _ (hx.append (.cons k2 .nil))⟩
          · cases e
        | extend =>
          cases hy : oy.d with
          | lst zs =>
            rw [hy] at e k2
            simp only [mut1] at e
            split at e
            · rename_i c
              cases e
              cases k2 with
              | lst e2 r2 => exact ⟨a, _, xs, _, rfl, rfl, ha, le_lst k3.le e2, by rw [hx.length, r2.length, line_eq]; exact c, fin _ (hx.append r2)⟩
            · cases e
          | _ => rw [hy] at e; simp [mut1] at e
        | pop => simp [mut1] at e
      · exact False.elim hp1
    · exact False.elim hp1
  · exact False.elim hp
theorem tmu0 {m : MU} (hm : m = .pop) {i : Nat} : ∀ Q, TEo G (fun ρ => (match ρ.at i with
    | some (.lst l) => (match mut0 m l with
      | some (r, l') => .ok (.fz r) (ρ.put i (.lst l'))
      | none => .bad)
    | _ => .bad)) σ H Q → tBM0 G.K "list" rPop (tVar i) σ H Q := by
  subst hm
  rintro Q ⟨ρ, F, S, R, hs, hw, hp⟩
  dsimp only at hp
  split at hp
  · rename_i l q0
    split at hp
    · rename_i r l' e
      obtain ⟨v, S1, Sv, S2, h1, h2, h3, h4, h5⟩ := hs.get q0
      obtain ⟨a, xs, rfl, rfl, ha, hx⟩ := ro_lst h2
      refine ⟨_, h1, .inl ⟨rfl, xs, .of ha⟩, ?_⟩
      obtain ⟨d, e1, e2⟩ := Option.map_eq_some_iff.mp (show (l.getLast?).map (fun x => (x, l.dropLast)) = some (r, l') from e)
      cases e2
      rw [List.getLast?_eq_getElem?] at e1
      rw [← hx.length] at e1
      obtain ⟨y, g1, g2⟩ := hx.get e1
      refine ⟨a, xs, y, rfl, rfl, ha, g1, ?_⟩
      obtain ⟨S'', b1, b2, b3⟩ := slot_write (T := []) hs (by simpa using hw) q0 h1 (fun Sv r => (ro_lst r).elim fun a2 h => h.elim fun _ h => by cases h.1; exact h.2.1) (ho := .lst xs.dropLast) (o' := .lst l.dropLast) (.lst upd_same hx.dropLast)
      exact hp y F _ S'' [] .refl (fun x hx => b3 x (by simpa using hx)) b1 (.fz g2) (by simpa using b2)
    · exact False.elim hp
  · exact False.elim hp

/-! ### slots put beside other slots -/
theorem Env.at_nil {i : Nat} : Env.at [] i = none := by simp [Env.at]
theorem Env.at_zero {o : Option OV} {ρ : Env} : Env.at (o :: ρ) 0 = o := by cases o <;> simp [Env.at]
theorem Env.at_succ {o : Option OV} {ρ : Env} {i : Nat} : Env.at (o :: ρ) (i + 1) = Env.at ρ i := by simp [Env.at]
/-- slots that hold what they held, or something known for good, or nothing -/
theorem St'.re {F : Fz} {σ2 : L2.St} {ρ' : Env} {S' : List Addr} (r : St' G F H σ2 ρ' S') : ∀ {σ : L2.St} {ρ : Env}, σ.length = σ2.length → ρ.length = ρ'.length →
    (∀ i, ρ.at i = none ∨ (ρ.at i = ρ'.at i ∧ σ[i]? = σ2[i]?) ∨ ∃ v d, ρ.at i = some (.fz d) ∧ σ[i]? = some (some v) ∧ Rf G F v d) → ∃ S'', St' G F H σ ρ S'' ∧ ∀ a, S''.count a ≤ S'.count a := by
  induction r with
  | nil =>
    intro σ ρ h1 h2 _
    rw [List.length_eq_zero_iff.mp h1, List.length_eq_zero_iff.mp h2]
    exact ⟨[], .nil, fun _ => Nat.le_refl _⟩
  | @un s σ2 ρ' S' r ih =>
    intro σ ρ h1 h2 h
    cases σ with
    | nil => cases h1
    | cons s' σ =>
      cases ρ with
      | nil => cases h2
      | cons o ρ =>
        obtain ⟨S'', k1, k2⟩ := ih (σ := σ) (ρ := ρ) (by simpa using h1) (by simpa using h2) fun i => by simpa [Env.at_succ] using h (i + 1)
        have h0 := h 0
        simp only [Env.at_zero] at h0
        rcases h0 with e | ⟨e, _⟩ | ⟨v, d, e, e2, rf⟩
        · subst e; exact ⟨S'', .un k1, k2⟩
        · subst e; exact ⟨S'', .un k1, k2⟩
        · subst e
          have e2 : s' = some v := by simpa using e2
          subst e2
          exact ⟨[] ++ S'', .at (.fz rf) k1, k2⟩
  | @«at» v0 o0 σ2 ρ' Sv0 S' r0 r ih =>
    intro σ ρ h1 h2 h
    cases σ with
    | nil => cases h1
    | cons s' σ =>
      cases ρ with
      | nil => cases h2
      | cons o ρ =>
        obtain ⟨S'', k1, k2⟩ := ih (σ := σ) (ρ := ρ) (by simpa using h1) (by simpa using h2) fun i => by simpa [Env.at_succ] using h (i + 1)
        have h0 := h 0
        simp only [Env.at_zero] at h0
        rcases h0 with e | ⟨e, e2⟩ | ⟨v, d, e, e2, rf⟩
        · subst e; exact ⟨S'', .un k1, fun a => by rw [List.count_append]; have := k2 a; omega⟩
        · subst e
          have e2 : s' = some v0 := by simpa using e2
          subst e2
          exact ⟨Sv0 ++ S'', .at r0 k1, fun a => by rw [List.count_append, List.count_append]; have := k2 a; omega⟩
        · subst e
          have e2 : s' = some v := by simpa using e2
          subst e2
          exact ⟨[] ++ S'', .at (.fz rf) k1, fun a => by rw [List.nil_append, List.count_append]; have := k2 a; omega⟩
theorem at_set {ρ : Env} {i j : Nat} {o : Option OV} : Env.at (ρ.set i o) j = if i = j then (if i < ρ.length then o else none) else ρ.at j := by
  unfold Env.at
  rw [List.getElem?_set]
  by_cases h : i = j
  · subst h
    simp only [if_true]
    by_cases hl : i < ρ.length
    · simp only [if_pos hl]; cases o <;> rfl
    · simp only [if_neg hl]
  · simp only [if_neg h]
theorem ewipe_length (ρ : Env) : ∀ vs, (Ev.wipe ρ vs).length = ρ.length
  | [] => rfl
  | v :: vs => by simp [Ev.wipe, ewipe_length ρ vs]
theorem ewipe_at (ρ : Env) : ∀ (vs : List Nat) (i : Nat), (Ev.wipe ρ vs).at i = if i ∈ vs then none else ρ.at i
  | [], i => by simp [Ev.wipe]
  | v :: vs, i => by
    rw [Ev.wipe, at_set, ewipe_length, ewipe_at ρ vs i]
    by_cases h : v = i
    · subst h; simp
    · have : ¬ i = v := fun e => h e.symm
      simp [h, this]
theorem unwipe_length (ρ0 ρ : Env) : ∀ vs, (unwipe ρ0 ρ vs).length = ρ.length
  | [] => rfl
  | v :: vs => by simp [unwipe, unwipe_length ρ0 ρ vs]
theorem unwipe_at (ρ0 ρ : Env) : ∀ (vs : List Nat) (i : Nat), (unwipe ρ0 ρ vs).at i = if i ∈ vs then (if i < ρ.length then keepFz (ρ0.at i) else none) else ρ.at i
  | [], i => by simp [unwipe]
  | v :: vs, i => by
    rw [unwipe, at_set, unwipe_length, unwipe_at ρ0 ρ vs i]
    by_cases h : v = i
    · subst h; simp
    · have : ¬ i = v := fun e => h e.symm
      simp [h, this]
theorem wipe_get (σ : L2.St) : ∀ (vs : List Nat) (i : Nat), i ∉ vs → (L2.wipe σ vs)[i]? = σ[i]?
  | [], i, _ => rfl
  | v :: vs, i, h => by
    simp only [List.mem_cons, not_or] at h
    rw [L2.wipe, List.getElem?_set_ne (fun e => h.1 e.symm), wipe_get σ vs i h.2]
theorem St'.wipe {F : Fz} {ρ : Env} {S : List Addr} (hs : St' G F H σ ρ S) (vs : List Nat) : ∃ S', St' G F H (L2.wipe σ vs) (Ev.wipe ρ vs) S' ∧ ∀ a, S'.count a ≤ S.count a := by
  refine hs.re (wipe_length _ _) (ewipe_length _ _) fun i => ?_
  rw [ewipe_at]
  by_cases h : i ∈ vs
  · rw [if_pos h]; exact .inl rfl
  · rw [if_neg h]; exact .inr (.inl ⟨rfl, wipe_get σ vs i h⟩)
theorem St'.unwipe {F F' : Fz} {H' : Hp} {ρ0 ρ' : Env} {S0 S' : List Addr} {σ2 : L2.St} {vs : List Nat} (hs0 : St' G F H σ ρ0 S0) (hs : St' G F' H' σ2 ρ' S') (hF : FLe F F') (hw : L2.wipe σ2 vs = L2.wipe σ vs) :
    ∃ S'', St' G F' H' σ (Ev.unwipe ρ0 ρ' vs) S'' ∧ ∀ a, S''.count a ≤ S'.count a := by
  have hl : σ.length = σ2.length := by have := congrArg List.length hw; rw [wipe_length, wipe_length] at this; exact this.symm
  refine hs.re hl (unwipe_length _ _ _) fun i => ?_
  rw [unwipe_at]
  by_cases h : i ∈ vs
  · rw [if_pos h]
    by_cases hi : i < ρ'.length
    · rw [if_pos hi]
      cases q : ρ0.at i with
      | none => exact .inl rfl
      | some o =>
        cases o with
        | fz d =>
          obtain ⟨v, S1, Sv, S2, h1, h2, _⟩ := hs0.get q
          exact .inr (.inr ⟨v, d, rfl, h1, (ro_bl h2).2.mono hF⟩)
        | lst _ => exact .inl rfl
        | dct _ => exact .inl rfl
    · rw [if_neg hi]; exact .inl rfl
  · rw [if_neg h]
    refine .inr (.inl ⟨rfl, ?_⟩)
    have e1 := wipe_get σ2 vs i h
    have e2 := wipe_get σ vs i h
    rw [hw] at e1
    rw [← e1, e2]
end
end Ev
end
section
set_option Elab.async false
set_option linter.all false
set_option maxRecDepth 100000
set_option maxHeartbeats 1000000
/-! EvJ: calls of the text's own defs, displays of dicts. -/
namespace Ev
open PySem L2 PyProof.Rows
section
variable {G : Gx} {X : Cx} {σ : L2.St} {H : Hp}

/-! ### arguments -/
inductive OpdRs (G : Gx) (σ : L2.St) (F : Fz) (H : Hp) : List V → List Opd → List Addr → Prop
  | nil : OpdRs G σ F H [] [] []
  | cons {v : V} {vs : List V} {b : Opd} {bs : List Opd} {S T : List Addr} : OpdR G σ F H v b S → OpdRs G σ F H vs bs T → OpdRs G σ F H (v :: vs) (b :: bs) (S ++ T)
abbrev repB (G : Gx) (σ : L2.St) : Fz → Hp → List V → List Opd → List Addr → Prop := fun F H vs bs S => OpdRs G σ F H vs bs S
def TBo (G : Gx) (g : Env → Res (List Opd)) : TA := fun σ H Q => TR G (repB G σ) g σ H Q
theorem OpdRs.length {F : Fz} {vs : List V} {bs : List Opd} {S : List Addr} (r : OpdRs G σ F H vs bs S) : vs.length = bs.length := by
  induction r with
  | nil => rfl
  | cons _ _ ih => simp [ih]
theorem takeAs_length : ∀ {bs : List Opd} {ρ ρ' : Env} {os : List OV}, takeAs bs ρ = some (os, ρ') → os.length = bs.length
  | [], ρ, ρ', os, e => by simp only [takeAs] at e; cases e; rfl
  | .tmp o :: bs, ρ, ρ', os, e => by
    simp only [takeAs] at e
    obtain ⟨p, e1, e2⟩ := Option.map_eq_some_iff.mp e
    cases e2
    simp [takeAs_length (show takeAs bs ρ = some (p.1, p.2) from e1)]
  | .slot i :: bs, ρ, ρ', os, e => by
    simp only [takeAs] at e
    obtain ⟨o, e0, e⟩ := Option.bind_eq_some_iff.mp e
    obtain ⟨p, e1, e2⟩ := Option.map_eq_some_iff.mp e
    cases e2
    simp [takeAs_length (show takeAs bs _ = some (p.1, p.2) from e1)]
theorem takeAs_ok {F : Fz} {vs : List V} {bs : List Opd} {T : List Addr} (r : OpdRs G σ F H vs bs T) : ∀ {ρ ρ' : Env} {os : List OV} {S : List Addr}, St' G F H σ ρ S → takeAs bs ρ = some (os, ρ') →
    ∃ So S', St' G F H (vs.map some) (os.map some) So ∧ St' G F H σ ρ' S' ∧ ∀ a, So.count a + S'.count a ≤ T.count a + S.count a := by
  induction r with
  | nil => intro ρ ρ' os S hs e; simp only [takeAs] at e; cases e; exact ⟨[], S, .nil, hs, fun _ => Nat.le_refl _⟩
  | @cons v vs b bs S0 T r rs ih =>
    intro ρ ρ' os S hs e
    cases b with
    | tmp o =>
      simp only [takeAs] at e
      obtain ⟨p, e1, e2⟩ := Option.map_eq_some_iff.mp e
      cases e2
      obtain ⟨So, S', h1, h2, h3⟩ := ih hs (show takeAs bs ρ = some (p.1, p.2) from e1)
      exact ⟨S0 ++ So, S', .at r h1, h2, fun a => by have := h3 a; simp only [List.count_append]; omega⟩
    | slot i =>
      simp only [takeAs] at e
      obtain ⟨o, e0, e⟩ := Option.bind_eq_some_iff.mp e
      obtain ⟨p, e1, e2⟩ := Option.map_eq_some_iff.mp e
      cases e2
      obtain ⟨v', S1, Sv, S2, g1, g2, g3, g4, g5⟩ := hs.get e0
      obtain ⟨rfl, r2⟩ := r
      rw [g1] at r2; cases r2
      obtain ⟨So, S', h1, h2, h3⟩ := ih (g5 F H .refl fun _ _ => rfl) (show takeAs bs _ = some (p.1, p.2) from e1)
      exact ⟨Sv ++ So, S', .at g2 h1, h2, fun a => by have := h3 a; rw [g3]; simp only [List.count_append] at this ⊢; omega⟩
/-- which slots the borrowed arguments are of -/
inductive Bor (σ : L2.St) : List V → List Opd → Prop
  | nil : Bor σ [] []
  | tmp {v : V} {vs : List V} {o : OV} {bs : List Opd} : Bor σ vs bs → Bor σ (v :: vs) (.tmp o :: bs)
  | slot {v : V} {vs : List V} {i : Nat} {bs : List Opd} : σ[i]? = some (some v) → Bor σ vs bs → Bor σ (v :: vs) (.slot i :: bs)
theorem OpdRs.bor {F : Fz} {vs : List V} {bs : List Opd} {S : List Addr} (r : OpdRs G σ F H vs bs S) : Bor σ vs bs := by
  induction r with
  | nil => exact .nil
  | @cons v vs b bs S T r _ ih =>
    cases b with
    | tmp o => exact .tmp ih
    | slot i => exact .slot r.2 ih
theorem backTo_ok {F : Fz} {vs : List V} {bs : List Opd} (r : Bor σ vs bs) : ∀ {ρ ρ' : Env} {os : List (Option OV)} {So S : List Addr}, St' G F H (vs.map some) os So → St' G F H σ ρ S → Ev.backTo bs os ρ = some ρ' →
    ∃ S', St' G F H σ ρ' S' ∧ ∀ a, S'.count a ≤ So.count a + S.count a := by
  induction r with
  | nil => intro ρ ρ' os So S ho hs e; simp only [Ev.backTo] at e; cases e; exact ⟨S, hs, fun a => Nat.le_add_left _ _⟩
  | @tmp v vs o bs r ih =>
    intro ρ ρ' os So S ho hs e
    cases ho with
    | un ho =>
      simp only [Ev.backTo] at e
      exact ih ho hs e
    | @«at» _ o2 _ _ Sv S2 q ho =>
      simp only [Ev.backTo] at e
      obtain ⟨S', h1, h2⟩ := ih ho hs e
      exact ⟨S', h1, fun a => by have := h2 a; simp only [List.count_append]; omega⟩
  | @slot v vs i bs hi r ih =>
    intro ρ ρ' os So S ho hs e
    cases ho with
    | un ho => simp [Ev.backTo] at e
    | @«at» _ o2 _ _ Sv S2 q ho =>
      simp only [Ev.backTo] at e
      have hlt : i < σ.length := by
        by_cases hlt : i < σ.length
        · exact hlt
        · rw [List.getElem?_eq_none (by omega)] at hi; cases hi
      obtain ⟨S1, h1, h2⟩ := hs.put hlt q
      rw [set_self hi] at h1
      obtain ⟨S', h3, h4⟩ := ih ho h1 e
      exact ⟨S', h3, fun a => by have := h2 a; have := h4 a; simp only [List.count_append]; omega⟩

theorem tbs_nil : ∀ Q, TBo G (fun ρ => .ok [] ρ) σ H Q → tNil σ H Q := by
  rintro Q ⟨ρ, F, S, R, hs, hw, hp⟩
  exact hp [] F H S [] .refl (fun _ _ => rfl) hs .nil (by simpa using hw)
theorem OpdRs.mono {F F' : Fz} {H' : Hp} {vs : List V} {bs : List Opd} {S : List Addr} (r : OpdRs G σ F H vs bs S) (h : FLe F F') (k : ∀ a ∈ S, H' a = H a) : OpdRs G σ F' H' vs bs S := by
  induction r with
  | nil => exact .nil
  | cons r _ ih => exact .cons (r.mono h fun a ha => k a (by simp [ha])) (ih fun a ha => k a (by simp [ha]))
theorem tbs_val {ga : Env → Res OV} {gs : Env → Res (List Opd)} : ∀ Q, TBo G (fun ρ => (ga ρ).bd fun x ρ => (gs ρ).bd fun p ρ => .ok (.tmp x :: p) ρ) σ H Q → tCons (TEo G ga) (TBo G gs) σ H Q := by
  rintro Q ⟨ρ, F, S, R, hs, hw, hp⟩
  obtain ⟨ρ', F', S', R', a1, a2, a3⟩ := step (G := G) (rep := repE G) (T := []) hs hw hp
  refine ⟨ρ', F', S', R', a1, a2, a3.imp ?_⟩
  rintro x H1 ⟨ox, ρ1, F1, S1, Sx, hF1, _, hs1, rx, hw1, hp1⟩
  show TBo G gs σ H1 _
  obtain ⟨ρ', F', S', R', a1, a2, a3⟩ := step (G := G) (rep := repB G σ) (T := Sx) hs1 (by simpa using hw1) hp1
  refine ⟨ρ', F', S', R', a1, a2, a3.imp ?_⟩
  rintro xs H2 ⟨ds, ρ2, F2, S2, Sy, hF2, hT2, hs2, ry, hw2, hp2⟩
  exact hp2 (x :: xs) F2 H2 S2 (Sx ++ Sy) .refl (fun _ _ => rfl) hs2 (.cons (show OpdR G σ F2 H2 x (.tmp ox) Sx from rx.mono hF2 hT2) ry) (hw2.sub (by intro a; simp only [List.count_append]; omega))
theorem tbs_bor {i : Nat} {gs : Env → Res (List Opd)} : ∀ Q, TBo G (fun ρ => (match ρ.at i with | some _ => (gs ρ).bd fun p ρ => .ok (.slot i :: p) ρ | none => .bad)) σ H Q → tCons (tVar i) (TBo G gs) σ H Q := by
  rintro Q ⟨ρ, F, S, R, hs, hw, hp⟩
  dsimp only at hp
  cases q : ρ.at i with
  | none => simp only [q] at hp; exact False.elim hp
  | some o =>
    simp only [q] at hp
    obtain ⟨v, S1, Sv, S2, h1, h2, h3, h4, h5⟩ := hs.get q
    refine ⟨v, h1, ?_⟩
    show TBo G gs σ H _
    obtain ⟨ρ', F', S', R', a1, a2, a3⟩ := step (G := G) (rep := repB G σ) (T := []) hs hw hp
    refine ⟨ρ', F', S', R', a1, a2, a3.imp ?_⟩
    rintro xs H2 ⟨ds, ρ2, F2, S2', Sy, hF2, hT2, hs2, ry, hw2, hp2⟩
    exact hp2 (v :: xs) F2 H2 S2' ([] ++ Sy) .refl (fun _ _ => rfl) hs2 (.cons (show OpdR G σ F2 H2 v (.slot i) [] from ⟨rfl, h1⟩) ry) (by simpa using hw2)

/-! ### a def's promise -/
def CPost (G : Gx) (vs : List V) (R : List Addr) (F : Fz) (H : Hp) (Q : VK) : CRes → Prop
  | .ok r outs => ∀ v F' H' Sv So, FLe F F' → (∀ x ∈ R, H' x = H x) → Ro G F' H' v r Sv → St' G F' H' (vs.map some) outs So → Own F' H' (Sv ++ (So ++ R)) → Q v H'
  | _ => False
def spD (G : Gx) (np : Nat) (f : List OV → CRes) : Sp := fun vs H Q E => vs.length = np ∧ ∃ os F S R, St' G F H (vs.map some) (os.map some) S ∧ Own F H (S ++ R) ∧ CPost G vs R F H Q (f os)
theorem tdf {np : Nat} {f : List OV → CRes} {gs : Env → Res (List Opd)} {E : L2.St → XK} (hf : ∀ os, os.length ≠ np → f os = .bad) : ∀ Q, TEo G (fun ρ => (gs ρ).bd fun p ρ => callAs f p ρ) σ H Q → tCallSD (spD G np f) [] E (TBo G gs) σ H Q := by
  rintro Q ⟨ρ, F, S, R, hs, hw, hp⟩
  show TBo G gs σ H _
  obtain ⟨ρ', F', S', R', a1, a2, a3⟩ := step (G := G) (rep := repB G σ) (T := []) hs hw hp
  refine ⟨ρ', F', S', R', a1, a2, a3.imp ?_⟩
  rintro vs H1 ⟨bs, ρ1, F1, S1, Sb, hF1, _, hs1, rb, hw1, hp1⟩
  unfold callAs at hp1
  cases e : takeAs bs ρ1 with
  | none => simp only [e] at hp1; exact False.elim hp1
  | some p =>
    obtain ⟨os, ρ2⟩ := p
    simp only [e] at hp1
    obtain ⟨So, S2, k1, k2, k3⟩ := takeAs_ok rb hs1 e
    have hl : os.length = vs.length := by rw [takeAs_length e, rb.length]
    have hnp : os.length = np := by
      by_cases h : os.length = np
      · exact h
      · rw [hf os h] at hp1; exact False.elim hp1
    rw [List.append_nil]
    refine ⟨hl ▸ hnp, os, F1, So, S2 ++ R, k1, hw1.sub (by intro a; have := k3 a; simp only [List.count_append] at this ⊢; simp; omega), ?_⟩
    cases ef : f os with
    | bad => rw [ef] at hp1; exact False.elim hp1
    | exc x => rw [ef] at hp1; exact False.elim hp1
    | ok r outs =>
      rw [ef] at hp1
      simp only [CRes.back] at hp1
      intro v F' H' Sv So' h1 h2 h3 h4 h5
      cases eb : Ev.backTo bs outs ρ2 with
      | none => simp only [eb] at hp1; exact False.elim hp1
      | some ρ3 =>
        simp only [eb] at hp1
        obtain ⟨S3, g1, g2⟩ := backTo_ok rb.bor h4 (k2.mono h1 fun a ha => h2 a (by simp [ha])) eb
        exact hp1 v F' H' S3 Sv h1 (fun a ha => h2 a (by simp [ha])) g1 h3 (h5.sub (by intro a; have := g2 a; simp only [List.count_append] at this ⊢; omega))
end
end Ev
end
section
set_option Elab.async false
set_option linter.all false
set_option maxRecDepth 100000
set_option maxHeartbeats 1000000
/-! EvK: displays of dicts, iterators. -/
namespace Ev
open PySem L2 PyProof.Rows RZ
section
variable {G : Gx} {X : Cx} {σ : L2.St} {H : Hp}

/-! ### {k: v, ..} -/
inductive RPs (G : Gx) (F : Fz) : List (V × V) → List (D × D) → Prop
  | nil : RPs G F [] []
  | cons {x y : V} {dx dy : D} {ps : List (V × V)} {ds : List (D × D)} : Rf G F x dx → Rf G F y dy → RPs G F ps ds → RPs G F ((x, y) :: ps) ((dx, dy) :: ds)
abbrev repP (G : Gx) : Fz → Hp → List (V × V) → List (D × D) → List Addr → Prop := fun F _ ps ds S => RPs G F ps ds ∧ S = []
theorem tps_nil : ∀ Q, TR G (repP G) (fun ρ => .ok [] ρ) σ H Q → tPairs [] σ H Q := by
  rintro Q ⟨ρ, F, S, R, hs, hw, hp⟩
  exact hp [] F H S [] .refl (fun _ _ => rfl) hs ⟨.nil, rfl⟩ (by simpa using hw)
theorem tps_cons {ga gb : Env → Res OV} {gs : Env → Res (List (D × D))} {trs : List (TE × TE)} (h : ∀ σ H Q, TR G (repP G) gs σ H Q → tPairs trs σ H Q) : ∀ Q, TR G (repP G) (fun ρ => (ga ρ).bd fun x ρ => (gb ρ).bd fun y ρ => (gs ρ).bd fun r ρ => .ok ((x.d, y.d) :: r) ρ) σ H Q → tPairs ((TEo G ga, TEo G gb) :: trs) σ H Q := by
  rintro Q ⟨ρ, F, S, R, hs, hw, hp⟩
  show TEo G ga σ H _
  obtain ⟨ρ', F', S', R', a1, a2, a3⟩ := step (G := G) (rep := repE G) (T := []) hs hw hp
  refine ⟨ρ', F', S', R', a1, a2, a3.imp ?_⟩
  rintro x H1 ⟨ox, ρ1, F1, S1, Sx, hF1, _, hs1, rx, hw1, hp1⟩
  obtain ⟨F1', k1, k2, k3⟩ := rx.freeze hw1
  have hs1' := hs1.mono k1 (fun _ _ => rfl)
  obtain ⟨ρ', F', S', R', a1, a2, a3⟩ := step (G := G) (rep := repE G) (T := []) hs1' (by simpa using k3) (hp1.rebase k1 fun _ _ => rfl)
  refine ⟨ρ', F', S', R', a1, a2, a3.imp ?_⟩
  rintro y H2 ⟨oy, ρ2, F2, S2, Sy, hF2, _, hs2, ry, hw2, hp2⟩
  obtain ⟨F2', j1, j2, j3⟩ := ry.freeze hw2
  have hs2' := hs2.mono j1 (fun _ _ => rfl)
  obtain ⟨ρ', F', S', R', a1, a2, a3⟩ := step (G := G) (rep := repP G) (T := []) hs2' (by simpa using j3) (hp2.rebase j1 fun _ _ => rfl)
  refine h σ H2 _ ⟨ρ', F', S', R', a1, a2, a3.imp ?_⟩
  rintro ps H3 ⟨ds, ρ3, F3, S3, Sz, hF3, _, hs3, ⟨rz, rfl⟩, hw3, hp3⟩
  exact hp3 ((x, y) :: ps) F3 H3 S3 [] .refl (fun _ _ => rfl) hs3 ⟨.cons ((k2.mono hF2).mono (j1.trans hF3)) (j2.mono hF3) rz, rfl⟩ (by simpa using hw3)
theorem rps_keys {F : Fz} {ps : List (V × V)} {ds : List (D × D)} (r : RPs G F ps ds) (h : ds.all (fun p => keyOk p.1) = true) : ∃ kvs : List (Key × V), ps = kvs.map (fun kv => (kV kv.1, kv.2)) ∧ Rkv G F kvs ds := by
  induction r with
  | nil => exact ⟨[], rfl, .nil⟩
  | @cons x y dx dy ps ds rx ry r ih =>
    simp only [List.all_cons, Bool.and_eq_true] at h
    obtain ⟨kvs, e, rk⟩ := ih h.2
    obtain ⟨k, hk, hv⟩ := keyD_of h.1
    cases hv G F x rx
    subst hk
    exact ⟨(k, y) :: kvs, by rw [e]; rfl, .cons ry rk⟩
theorem rkv_merge {F : Fz} {kvs : List (Key × V)} {ds : List (D × D)} (r : Rkv G F kvs ds) : ∀ {acc : List (Key × V)} {dacc : List (D × D)}, Rkv G F acc dacc → Rkv G F (mergeK acc kvs) (ds.foldl (fun m p => dPut m p.1 p.2) dacc) := by
  induction kvs generalizing ds with
  | nil => cases r; intro acc dacc q; exact q
  | cons p t ih =>
    cases r with
    | cons r rs => intro acc dacc q; exact ih rs (q.put _ r)
theorem St'.laid {F : Fz} {ρ : Env} {S : List Addr} {p : Addr} {o : HO} (hs : St' G F H σ ρ S) (hp : H p = none) (hn : ∀ a ∈ S, H a ≠ none) : St' G F (upd H p o) σ ρ S := hs.mono .refl fun a ha => upd_ne fun z => hn a ha (z ▸ hp)
theorem tdct {gs : Env → Res (List (D × D))} {trs : List (TE × TE)} (h : ∀ σ H Q, TR G (repP G) gs σ H Q → tPairs trs σ H Q) : ∀ Q, TEo G (fun ρ => (gs ρ).bd fun ps ρ => if ps.length ≤ 15 && ps.all (fun p => keyOk p.1) then .ok (.dct (ps.foldl (fun m p => dPut m p.1 p.2) [])) ρ else .bad) σ H Q → tDisp trs σ H Q := by
  rintro Q ⟨ρ, F, S, R, hs, hw, hp⟩ p hpn
  have w1 : Own F (upd H p (.dK [])) (p :: (S ++ R)) := hw.new hpn
  have hs1 := hs.laid (o := .dK []) hpn fun a ha => (hw.fr a (by simp [ha])).2
  obtain ⟨ρ', F', S', R', a1, a2, a3⟩ := step (G := G) (rep := repP G) (T := [p]) hs1 w1 (hp.rebase .refl fun x hx => upd_ne fun z => (hw.fr x (by simp [hx])).2 (z ▸ hpn))
  refine h σ _ _ ⟨ρ', F', S', R', a1, a2, a3.imp ?_⟩
  rintro ps H2 ⟨ds, ρ2, F2, S2, Sy, hF2, hT, hs2, ⟨ry, rfl⟩, hw2, hp2⟩
  have hpp : H2 p = some (.dK []) := (hT p (by simp)).trans upd_same
  split at hp2
  · rename_i c
    simp only [Bool.and_eq_true, decide_eq_true_eq] at c
    obtain ⟨kvs, e, rk⟩ := rps_keys ry c.2
    refine ⟨hpp, kvs, e, by rw [rk.length]; exact c.1, ?_⟩
    have hw3 : Own F2 H2 ([p] ++ (S2 ++ R)) := by simpa using hw2
    have hne : ∀ a ∈ S2 ++ R, a ≠ p := fun a ha z => by
      subst z
      have h1 := hw3.one a
      have h2 := List.count_pos_iff.mpr ha
      rw [List.count_append, List.count_singleton_self] at h1
      omega
    exact hp2 _ F2 _ S2 [p] .refl (fun x hx => upd_ne (hne x (by simp [hx]))) (hs2.mono .refl fun a ha => upd_ne (hne a (by simp [ha]))) (.dct upd_same (rkv_merge rk .nil)) (hw3.write (by simp))
  · exact False.elim hp2

/-! ### what is gone through -/
/-- the iterator hands out the data ds, whatever comes meanwhile -/
def JOk (G : Gx) (F : Fz) (J : L2.It) (ds : List D) : Prop := ∀ F' H', FLe F F' → Le F' H' → (∀ i, i < ds.length → J.go i H') ∧ (∀ i, ds.length ≤ i → J.stop i H') ∧
  ∀ i d x H'', ds[i]? = some d → J.yld i H' x H'' → ∀ L, Own F' H' L → ∃ F'', FLe F' F'' ∧ Rf G F'' x d ∧ Own F'' H'' L ∧ ∀ a, H' a ≠ none → H'' a = H' a
abbrev repI (G : Gx) : Fz → Hp → L2.It → List D → List Addr → Prop := fun F _ J ds S => JOk G F J ds ∧ S = []
def TIo (G : Gx) (g : Env → Res (List D)) : TI := fun σ H R => TR G (repI G) g σ H R
theorem pi_weak {tg e : Expr} {t t' : TI} (h : PI X tg e t) (k : ∀ σ H R, t' σ H R → t σ H R) : PI X tg e t' := ⟨fun pins s σ H R I q => h.run pins s σ H R I (k σ H R q)⟩

theorem Rf.seqL {F : Fz} {v : V} {ds : List D} (r : Rf G F v (.lst ds)) : ∃ a xs, v = .ref a ∧ Rfs G F xs ds ∧ ∀ F' H', FLe F F' → Le F' H' → SqL G.K H' a xs := by
  cases r with | lst e r => exact ⟨_, _, rfl, r, fun F' H' h le => .of (le_lst le (h _ _ e))⟩
theorem Rf.seqT {F : Fz} {v : V} {ds : List D} (r : Rf G F v (.tup ds)) : ∃ a xs, v = .ref a ∧ Rfs G F xs ds ∧ ∀ F' H', FLe F F' → Le F' H' → SqT G.K H' a xs := by
  cases r with
  | tup e r => exact ⟨_, _, rfl, r, fun F' H' h le => .of (le_tup le (h _ _ e))⟩
  | tupW e r => exact ⟨_, _, rfl, r, fun F' H' h le => .inr e⟩
theorem jok_l {F : Fz} {a : Addr} {xs : List V} {ds : List D} (r : Rfs G F xs ds) (h : ∀ F' H', FLe F F' → Le F' H' → SqL G.K H' a xs) : JOk G F (Itl G.K a) ds := by
  intro F' H' hF le
  have q := h F' H' hF le
  refine ⟨fun i hi => ?_, fun i hi => ⟨xs, q, by rw [r.length]; exact hi⟩, ?_⟩
  · have hi' : i < xs.length := by rw [r.length]; exact hi
    exact ⟨xs, xs[i], q, List.getElem?_eq_getElem hi'⟩
  · rintro i d x H'' hd ⟨rfl, hx⟩ L w
    obtain ⟨v, e, rv⟩ := r.get hd
    rw [hx xs q] at e; cases e
    exact ⟨F', .refl, rv.mono hF, w, fun _ _ => rfl⟩
theorem jok_t {F : Fz} {a : Addr} {xs : List V} {ds : List D} (r : Rfs G F xs ds) (h : ∀ F' H', FLe F F' → Le F' H' → SqT G.K H' a xs) : JOk G F (Itt G.K a) ds := by
  intro F' H' hF le
  have q := h F' H' hF le
  refine ⟨fun i hi => ?_, fun i hi => ⟨xs, q, by rw [r.length]; exact hi⟩, ?_⟩
  · have hi' : i < xs.length := by rw [r.length]; exact hi
    exact ⟨xs, xs[i], q, List.getElem?_eq_getElem hi'⟩
  · rintro i d x H'' hd ⟨rfl, hx⟩ L w
    obtain ⟨v, e, rv⟩ := r.get hd
    rw [hx xs q] at e; cases e
    exact ⟨F', .refl, rv.mono hF, w, fun _ _ => rfl⟩
theorem jok_s {F : Fz} (x : Tx) : JOk G F (Its (sv x)) (x.map fun c => .str [c]) := by
  intro F' H' hF le
  refine ⟨fun i hi => ?_, fun i hi => ?_, ?_⟩
  · show i < (sv x).cps.size; simpa [sv] using hi
  · show (sv x).cps.size ≤ i; simpa [sv] using hi
  · rintro i d v H'' hd ⟨rfl, c, hc, rfl⟩ L w
    rw [List.getElem?_map] at hd
    obtain ⟨c', e, rfl⟩ := Option.map_eq_some_iff.mp hd
    have : (sv x).cps[i]? = x[i]? := by simp [sv]
    rw [this, e] at hc; cases hc
    exact ⟨F', .refl, .str [_], w, fun _ _ => rfl⟩
theorem jok_r {F : Fz} (lo : Int) (n : Nat) : JOk G F (Itr lo n) (rngOf lo n) := by
  have hl : (rngOf lo n).length = n := by simp [rngOf]
  intro F' H' hF le
  refine ⟨fun i hi => by rw [hl] at hi; exact hi, fun i hi => by rw [hl] at hi; exact hi, ?_⟩
  rintro i d v H'' hd ⟨rfl, rfl⟩ L w
  simp only [rngOf, List.getElem?_map] at hd
  obtain ⟨j, e, rfl⟩ := Option.map_eq_some_iff.mp hd
  rw [List.getElem?_range (by
    by_cases h : i < n
    · exact h
    · rw [List.getElem?_eq_none (by simpa using h)] at e; cases e)] at e
  cases e
  exact ⟨F', .refl, .int _, w, fun _ _ => rfl⟩
theorem jok_c {F : Fz} (lo c : Int) (n : Nat) : JOk G F (Itc lo c n) (rngC lo c n) := by
  have hl : (rngC lo c n).length = n := by simp [rngC]
  intro F' H' hF le
  refine ⟨fun i hi => by rw [hl] at hi; exact hi, fun i hi => by rw [hl] at hi; exact hi, ?_⟩
  rintro i d v H'' hd ⟨rfl, rfl⟩ L w
  simp only [rngC, List.getElem?_map] at hd
  obtain ⟨j, e, rfl⟩ := Option.map_eq_some_iff.mp hd
  rw [List.getElem?_range (by
    by_cases h : i < n
    · exact h
    · rw [List.getElem?_eq_none (by simpa using h)] at e; cases e)] at e
  cases e
  exact ⟨F', .refl, .int _, w, fun _ _ => rfl⟩
theorem own_newT {F : Fz} {L : List Addr} {T : Addr} {xs : List V} {ds : List D} (w : Own F H L) (hT : H T = none) (r : Rfs G F xs ds) : ∃ F'', FLe F F'' ∧ Rf G F'' (.ref T) (.tup ds) ∧ Own F'' (upd H T (.tup xs)) L ∧ ∀ a, H a ≠ none → upd H T (.tup xs) a = H a := by
  obtain ⟨h1, h2⟩ := w.newT (xs := xs) hT
  exact ⟨_, h1, .tup fput_same (r.mono h1), h2, fun a ha => upd_ne fun z => ha (z ▸ hT)⟩
theorem jok_e {F : Fz} {a : Addr} {xs : List V} {ds : List D} (r : Rfs G F xs ds) (h : ∀ F' H', FLe F F' → Le F' H' → SqL G.K H' a xs) : JOk G F (Ite G.K a) (ds.zipIdx.map fun p => .tup [.int p.2, p.1]) := by
  have hl : (ds.zipIdx.map fun p => D.tup [.int p.2, p.1]).length = ds.length := by simp
  intro F' H' hF le
  have q := h F' H' hF le
  refine ⟨fun i hi => ?_, fun i hi => ⟨xs, q, by rw [r.length]; rw [hl] at hi; exact hi⟩, ?_⟩
  · have hi' : i < xs.length := by rw [r.length]; rw [hl] at hi; exact hi
    exact ⟨xs, xs[i], q, List.getElem?_eq_getElem hi'⟩
  · rintro i d v H'' hd ⟨T, x, rfl, hT, rfl, hx⟩ L w
    simp only [List.getElem?_map, List.getElem?_zipIdx] at hd
    obtain ⟨p, e, rfl⟩ := Option.map_eq_some_iff.mp hd
    obtain ⟨d0, e0, rfl⟩ := Option.map_eq_some_iff.mp e
    obtain ⟨v, e1, rv⟩ := r.get e0
    rw [hx xs q] at e1; cases e1
    refine own_newT w hT ?_
    simp only [Nat.zero_add]
    exact .cons (.int _) (.cons (rv.mono hF) .nil)
theorem zip_get {F : Fz} {xs ys : List V} {ds es : List D} (r : Rfs G F xs ds) (r' : Rfs G F ys es) {i : Nat} {d : D} {x y : V} (h : ((ds.zip es).map fun p => D.tup [p.1, p.2])[i]? = some d) (hx : xs[i]? = some x) (hy : ys[i]? = some y) : ∃ a b, d = .tup [a, b] ∧ Rf G F x a ∧ Rf G F y b := by
  rw [List.getElem?_map] at h
  obtain ⟨p, e, rfl⟩ := Option.map_eq_some_iff.mp h
  obtain ⟨e1, e2⟩ := List.getElem?_zip_eq_some.mp e
  obtain ⟨v1, g1, q1⟩ := r.get e1
  obtain ⟨v2, g2, q2⟩ := r'.get e2
  rw [hx] at g1; cases g1
  rw [hy] at g2; cases g2
  exact ⟨_, _, rfl, q1, q2⟩
theorem jok_z {F : Fz} {a b : Addr} {xs ys : List V} {ds es : List D} (r : Rfs G F xs ds) (r' : Rfs G F ys es) (h : ∀ F' H', FLe F F' → Le F' H' → SqL G.K H' a xs) (h' : ∀ F' H', FLe F F' → Le F' H' → SqL G.K H' b ys) : JOk G F (Itz G.K a b) ((ds.zip es).map fun p => .tup [p.1, p.2]) := by
  have hl : ((ds.zip es).map fun p => D.tup [p.1, p.2]).length = min xs.length ys.length := by simp [r.length, r'.length]
  intro F' H' hF le
  have q := h F' H' hF le
  have q' := h' F' H' hF le
  refine ⟨fun i hi => ?_, fun i hi => ⟨xs, ys, q, q', by rw [hl] at hi; omega⟩, ?_⟩
  · rw [hl] at hi
    have h1 : i < xs.length := by omega
    have h2 : i < ys.length := by omega
    exact ⟨xs, ys, xs[i], ys[i], q, q', List.getElem?_eq_getElem h1, List.getElem?_eq_getElem h2⟩
  · rintro i d v H'' hd ⟨T, x, y, rfl, hT, rfl, hx, hy⟩ L w
    obtain ⟨a', b', rfl, q1, q2⟩ := zip_get r r' hd (hx xs q) (hy ys q')
    exact own_newT w hT (.cons (q1.mono hF) (.cons (q2.mono hF) .nil))
theorem jok_zT {F : Fz} {a b : Addr} {xs ys : List V} {ds es : List D} (r : Rfs G F xs ds) (r' : Rfs G F ys es) (h : ∀ F' H', FLe F F' → Le F' H' → SqT G.K H' a xs) (h' : ∀ F' H', FLe F F' → Le F' H' → SqT G.K H' b ys) : JOk G F (ItzT G.K a b) ((ds.zip es).map fun p => .tup [p.1, p.2]) := by
  have hl : ((ds.zip es).map fun p => D.tup [p.1, p.2]).length = min xs.length ys.length := by simp [r.length, r'.length]
  intro F' H' hF le
  have q := h F' H' hF le
  have q' := h' F' H' hF le
  refine ⟨fun i hi => ?_, fun i hi => ⟨xs, ys, q, q', by rw [hl] at hi; omega⟩, ?_⟩
  · rw [hl] at hi
    have h1 : i < xs.length := by omega
    have h2 : i < ys.length := by omega
    exact ⟨xs, ys, xs[i], ys[i], q, q', List.getElem?_eq_getElem h1, List.getElem?_eq_getElem h2⟩
  · rintro i d v H'' hd ⟨T, x, y, rfl, hT, rfl, hx, hy⟩ L w
    obtain ⟨a', b', rfl, q1, q2⟩ := zip_get r r' hd (hx xs q) (hy ys q')
    exact own_newT w hT (.cons (q1.mono hF) (.cons (q2.mono hF) .nil))

/-- by what comes -/
def iAny (K : PySem.W.Frag) (t : TE) : TI := fun σ H R => t σ H fun x H1 => (∃ a xs, x = .ref a ∧ SqL K H1 a xs ∧ R (Itl K a) H1) ∨ (∃ a xs, x = .ref a ∧ SqT K H1 a xs ∧ R (Itt K a) H1) ∨ ∃ z, x = .str z ∧ R (Its z) H1
theorem pi_any {tg e : Expr} {te : TE} (he : PE X e te) : PI X tg e (iAny X.K te) := by
  refine ⟨fun pins s σ H R I h => ?_⟩
  refine thn (he.run pins s σ H _ I h) fun v s1 ⟨x, H1, I1, r1, q1⟩ => ?_
  rcases q1 with ⟨a, xs, ex, hq, q⟩ | ⟨a, xs, ex, hq, q⟩ | ⟨z, ex, q⟩
  · subst ex
    cases r1
    obtain ⟨its, rv, p, hz⟩ := I1.list hq
    refine wpAny_pyIter_list p.isList ?_
    exact pi_one (tk := s1.toks) I1 _ (turn_list a _) ⟨_, Heap.get?_push_size _ rfl, rfl, rfl⟩ q
  · subst ex
    cases r1
    obtain ⟨its, rv, p, hz⟩ := I1.tuple hq
    refine wpAny_pyIter_tuple (show s1.heap.IsTuple a its.toArray from p) ?_
    exact pi_one (tk := s1.toks) I1 _ (turn_tuple a _) ⟨_, Heap.get?_push_size _ rfl, rfl, rfl⟩ q
  · subst ex
    obtain ⟨t, rfl⟩ := r1
    cases ha : z.cps.all (· < 128)
    · exact wpAny_pyIter_wide ha (pi_one (tk := s1.toks) I1 _ (turn_str _ z t "str_iterator" (.inr rfl)) ⟨_, Heap.get?_push_size _ rfl, rfl, rfl⟩ q)
    · exact wpAny_pyIter_ascii ha (pi_one (tk := s1.toks) I1 _ (turn_str _ z t "str_ascii_iterator" (.inl rfl)) ⟨_, Heap.get?_push_size _ rfl, rfl, rfl⟩ q)
theorem tit_any {ga : Env → Res OV} : ∀ R, TIo G (fun ρ => (ga ρ).bd fun x ρ => .of (itemsV x.d) ρ) σ H R → iAny G.K (TEo G ga) σ H R := by
  rintro Q ⟨ρ, F, S, R, hs, hw, hp⟩
  show TEo G ga σ H _
  obtain ⟨ρ', F', S', R', a1, a2, a3⟩ := step (G := G) (rep := repE G) (T := []) hs hw hp
  refine ⟨ρ', F', S', R', a1, a2, a3.imp ?_⟩
  rintro x H1 ⟨ox, ρ1, F1, S1, Sx, hF1, _, hs1, rx, hw1, hp1⟩
  obtain ⟨F1', k1, k2, k3⟩ := rx.freeze hw1
  have hs1' := hs1.mono k1 (fun _ _ => rfl)
  have hp1 := hp1.rebase k1 fun _ _ => rfl
  have k3' : Own F1' H1 (S1 ++ R) := by simpa using k3
  cases hx : ox.d with
  | lst l =>
    rw [hx] at hp1 k2
    obtain ⟨a, xs, rfl, r, st⟩ := k2.seqL
    exact .inl ⟨a, xs, rfl, st F1' H1 .refl k3.le, hp1 _ F1' H1 S1 [] .refl (fun _ _ => rfl) hs1' ⟨jok_l r st, rfl⟩ k3'⟩
  | tup l =>
    rw [hx] at hp1 k2
    obtain ⟨a, xs, rfl, r, st⟩ := k2.seqT
    exact .inr (.inl ⟨a, xs, rfl, st F1' H1 .refl k3.le, hp1 _ F1' H1 S1 [] .refl (fun _ _ => rfl) hs1' ⟨jok_t r st, rfl⟩ k3'⟩)
  | str z =>
    rw [hx] at hp1 k2
    cases k2
    exact .inr (.inr ⟨_, rfl, hp1 _ F1' H1 S1 [] .refl (fun _ _ => rfl) hs1' ⟨jok_s z, rfl⟩ k3'⟩)
  | scr l =>
    rw [hx] at hp1 k2
    cases k2 with
    | @scr a o _ e =>
      have st : ∀ F' H', FLe F1' F' → Le F' H' → SqL G.K H' a (l.map V.int) := fun F' H' h le => .inl (.inr ⟨o, le_scr le (h _ _ e)⟩)
      exact .inl ⟨a, _, rfl, st F1' H1 .refl k3.le, hp1 _ F1' H1 S1 [] .refl (fun _ _ => rfl) hs1' ⟨jok_l Rfs.of_ints st, rfl⟩ k3'⟩
    | @scrW a _ e =>
      have st : ∀ F' H', FLe F1' F' → Le F' H' → SqL G.K H' a (l.map V.int) := fun F' H' h le => .inr e
      exact .inl ⟨a, _, rfl, st F1' H1 .refl k3.le, hp1 _ F1' H1 S1 [] .refl (fun _ _ => rfl) hs1' ⟨jok_l Rfs.of_ints st, rfl⟩ k3'⟩
  | _ => rw [hx] at hp1; exact False.elim hp1

/-! ### ranges -/
theorem okRng_iff {i : Int} : okRng i = true ↔ -(2 ^ 62) ≤ i ∧ i < 2 ^ 62 := by simp [okRng]
theorem tit_r1 {ga : Env → Res Opd} : ∀ R, TIo G (fun ρ => (ga ρ).bd fun x ρ => .of ((x.view ρ).bind fun x => match x with | .int j => if okRng j then some (rngOf 0 j.toNat) else none | _ => none) ρ) σ H R → iRng1 (tCons (TOo G ga) tNil) σ H R := by
  rintro Q ⟨ρ, F, S, R, hs, hw, hp⟩
  show TOo G ga σ H _
  obtain ⟨ρ', F', S', R', a1, a2, a3⟩ := step (G := G) (rep := repO G σ) (T := []) hs hw hp
  refine ⟨ρ', F', S', R', a1, a2, a3.imp ?_⟩
  rintro x H1 ⟨ox, ρ1, F1, S1, Sx, hF1, _, hs1, rx, hw1, hp1⟩
  cases e : (ox.view ρ1).bind fun x => (match x with | .int j => if okRng j then some (rngOf 0 j.toNat) else none | _ => none : Option (List D)) with
  | none => simp only [e, Res.of] at hp1; exact False.elim hp1
  | some ds =>
    simp only [e, Res.of] at hp1
    obtain ⟨dx, e1, e2⟩ := Option.bind_eq_some_iff.mp e
    obtain ⟨vx, Sx', qx, rfl⟩ := rx.view hs1 e1
    cases hx : vx.d with
    | int j =>
      rw [hx] at e2
      dsimp only at e2
      split at e2
      · rename_i c
        cases e2
        cases qx.int hx
        obtain ⟨c1, c2⟩ := okRng_iff.mp c
        exact ⟨j, rfl, c1, c2, hp1 _ F1 H1 S1 [] .refl (fun _ _ => rfl) hs1 ⟨jok_r 0 _, rfl⟩ (hw1.sub (by intro a; simp only [List.count_append]; simp))⟩
      · cases e2
    | _ => rw [hx] at e2; cases e2
theorem tit_r2 {ga gb : Env → Res Opd} : ∀ R, TIo G (fun ρ => (ga ρ).bd fun x ρ => (gb ρ).bd fun y ρ => .of ((x.view ρ).bind fun x => (y.view ρ).bind fun y => match x, y with
      | .int i, .int j => if okRng i && okRng j then some (rngOf i (j - i).toNat) else none | _, _ => none) ρ) σ H R → iRng2 (tCons (TOo G ga) (tCons (TOo G gb) tNil)) σ H R := by
  rintro Q ⟨ρ, F, S, R, hs, hw, hp⟩
  show TOo G ga σ H _
  obtain ⟨ρ', F', S', R', a1, a2, a3⟩ := step (G := G) (rep := repO G σ) (T := []) hs hw hp
  refine ⟨ρ', F', S', R', a1, a2, a3.imp ?_⟩
  rintro x H1 ⟨ox, ρ1, F1, S1, Sx, hF1, _, hs1, rx, hw1, hp1⟩
  show TOo G gb σ H1 _
  obtain ⟨ρ', F', S', R', a1, a2, a3⟩ := step (G := G) (rep := repO G σ) (T := Sx) hs1 (by simpa using hw1) hp1
  refine ⟨ρ', F', S', R', a1, a2, a3.imp ?_⟩
  rintro y H2 ⟨oy, ρ2, F2, S2, Sy, hF2, hT2, hs2, ry, hw2, hp2⟩
  cases e : (ox.view ρ2).bind fun x => (oy.view ρ2).bind fun y => (match x, y with
      | .int i, .int j => if okRng i && okRng j then some (rngOf i (j - i).toNat) else none | _, _ => none : Option (List D)) with
  | none => simp only [e, Res.of] at hp2; exact False.elim hp2
  | some ds =>
    simp only [e, Res.of] at hp2
    obtain ⟨dx, e1, e⟩ := Option.bind_eq_some_iff.mp e
    obtain ⟨dy, e2, e3⟩ := Option.bind_eq_some_iff.mp e
    obtain ⟨vx, Sx', qx, rfl⟩ := (rx.mono hF2 hT2).view hs2 e1
    obtain ⟨vy, Sy', qy, rfl⟩ := ry.view hs2 e2
    cases hx : vx.d with
    | int i =>
      cases hy : vy.d with
      | int j =>
        rw [hx, hy] at e3
        dsimp only at e3
        split at e3
        · rename_i c
          cases e3
          cases qx.int hx
          cases qy.int hy
          simp only [Bool.and_eq_true, okRng_iff] at c
          exact ⟨i, j, rfl, ⟨c.1.1, c.1.2, c.2.1, c.2.2⟩, hp2 _ F2 H2 S2 [] .refl (fun _ _ => rfl) hs2 ⟨jok_r i _, rfl⟩ (hw2.sub (by intro a; simp only [List.count_append]; simp; omega))⟩
        · cases e3
      | _ => rw [hx, hy] at e3; cases e3
    | _ => rw [hx] at e3; cases e3
/-- the way down -/
theorem tit_down {ga gb : Env → Res Opd} : ∀ R, TIo G (fun ρ => (ga ρ).bd fun x ρ => (gb ρ).bd fun y ρ => .of ((x.view ρ).bind fun x => (y.view ρ).bind fun y => match x, y with
      | .int i, .int j => if okRng i && okRng j then some (rngC i (-1) (i - j).toNat) else none | _, _ => none) ρ) σ H R → iRng3 (tCons (TOo G ga) (tCons (TOo G gb) (tCons (tC (.int (-1))) tNil))) σ H R := by
  rintro Q ⟨ρ, F, S, R, hs, hw, hp⟩
  show TOo G ga σ H _
  obtain ⟨ρ', F', S', R', a1, a2, a3⟩ := step (G := G) (rep := repO G σ) (T := []) hs hw hp
  refine ⟨ρ', F', S', R', a1, a2, a3.imp ?_⟩
  rintro x H1 ⟨ox, ρ1, F1, S1, Sx, hF1, _, hs1, rx, hw1, hp1⟩
  show TOo G gb σ H1 _
  obtain ⟨ρ', F', S', R', a1, a2, a3⟩ := step (G := G) (rep := repO G σ) (T := Sx) hs1 (by simpa using hw1) hp1
  refine ⟨ρ', F', S', R', a1, a2, a3.imp ?_⟩
  rintro y H2 ⟨oy, ρ2, F2, S2, Sy, hF2, hT2, hs2, ry, hw2, hp2⟩
  cases e : (ox.view ρ2).bind fun x => (oy.view ρ2).bind fun y => (match x, y with
      | .int i, .int j => if okRng i && okRng j then some (rngC i (-1) (i - j).toNat) else none | _, _ => none : Option (List D)) with
  | none => simp only [e, Res.of] at hp2; exact False.elim hp2
  | some ds =>
    simp only [e, Res.of] at hp2
    obtain ⟨dx, e1, e⟩ := Option.bind_eq_some_iff.mp e
    obtain ⟨dy, e2, e3⟩ := Option.bind_eq_some_iff.mp e
    obtain ⟨vx, Sx', qx, rfl⟩ := (rx.mono hF2 hT2).view hs2 e1
    obtain ⟨vy, Sy', qy, rfl⟩ := ry.view hs2 e2
    cases hx : vx.d with
    | int i =>
      cases hy : vy.d with
      | int j =>
        rw [hx, hy] at e3
        dsimp only at e3
        split at e3
        · rename_i c
          cases e3
          cases qx.int hx
          cases qy.int hy
          simp only [Bool.and_eq_true, okRng_iff] at c
          exact ⟨i, j, -1, _, rfl, RgC.neg c.1.1 c.1.2 c.2.1 c.2.2, hp2 _ F2 H2 S2 [] .refl (fun _ _ => rfl) hs2 ⟨jok_c i (-1) _, rfl⟩ (hw2.sub (by intro a; simp only [List.count_append]; simp; omega))⟩
        · cases e3
      | _ => rw [hx, hy] at e3; cases e3
    | _ => rw [hx] at e3; cases e3

/-! ### enumerate, zip -/
theorem tit_enum {ga : Env → Res OV} : ∀ R, TIo G (fun ρ => (ga ρ).bd fun x ρ => .of ((lstOf x.d).map fun l => l.zipIdx.map fun p => .tup [.int p.2, p.1]) ρ) σ H R → iEnum G.K (tCons (TEo G ga) tNil) σ H R := by
  rintro Q ⟨ρ, F, S, R, hs, hw, hp⟩
  show TEo G ga σ H _
  obtain ⟨ρ', F', S', R', a1, a2, a3⟩ := step (G := G) (rep := repE G) (T := []) hs hw hp
  refine ⟨ρ', F', S', R', a1, a2, a3.imp ?_⟩
  rintro x H1 ⟨ox, ρ1, F1, S1, Sx, hF1, _, hs1, rx, hw1, hp1⟩
  obtain ⟨F1', k1, k2, k3⟩ := rx.freeze hw1
  have hs1' := hs1.mono k1 (fun _ _ => rfl)
  have hp1 := hp1.rebase k1 fun _ _ => rfl
  have k3' : Own F1' H1 (S1 ++ R) := by simpa using k3
  cases hx : ox.d with
  | lst l =>
    rw [hx] at hp1 k2
    obtain ⟨a, xs, rfl, r, st⟩ := k2.seqL
    exact ⟨a, xs, rfl, st F1' H1 .refl k3.le, hp1 _ F1' H1 S1 [] .refl (fun _ _ => rfl) hs1' ⟨jok_e r st, rfl⟩ k3'⟩
  | _ => rw [hx] at hp1; exact False.elim hp1
theorem tit_zip {ga gb : Env → Res OV} : ∀ R, TIo G (fun ρ => (ga ρ).bd fun x ρ => (gb ρ).bd fun y ρ => .of (match x.d, y.d with
      | .lst l, .lst m => some ((l.zip m).map fun p => .tup [p.1, p.2])
      | .tup l, .tup m => some ((l.zip m).map fun p => .tup [p.1, p.2])
      | _, _ => none) ρ) σ H R → iZipA G.K (tCons (TEo G ga) (tCons (TEo G gb) tNil)) σ H R := by
  rintro Q ⟨ρ, F, S, R, hs, hw, hp⟩
  show TEo G ga σ H _
  obtain ⟨ρ', F', S', R', a1, a2, a3⟩ := step (G := G) (rep := repE G) (T := []) hs hw hp
  refine ⟨ρ', F', S', R', a1, a2, a3.imp ?_⟩
  rintro x H1 ⟨ox, ρ1, F1, S1, Sx, hF1, _, hs1, rx, hw1, hp1⟩
  obtain ⟨F1', k1, k2, k3⟩ := rx.freeze hw1
  have hs1' := hs1.mono k1 (fun _ _ => rfl)
  obtain ⟨ρ', F', S', R', a1, a2, a3⟩ := step (G := G) (rep := repE G) (T := []) hs1' (by simpa using k3) (hp1.rebase k1 fun _ _ => rfl)
  refine ⟨ρ', F', S', R', a1, a2, a3.imp ?_⟩
  rintro y H2 ⟨oy, ρ2, F2, S2, Sy, hF2, _, hs2, ry, hw2, hp2⟩
  obtain ⟨F2', j1, j2, j3⟩ := ry.freeze hw2
  have hs2' := hs2.mono j1 (fun _ _ => rfl)
  have hp2 := hp2.rebase j1 fun _ _ => rfl
  have j3' : Own F2' H2 (S2 ++ R) := by simpa using j3
  have k2 := k2.mono (hF2.trans j1)
  cases hx : ox.d with
  | lst l =>
    cases hy : oy.d with
    | lst m =>
      rw [hx, hy] at hp2; rw [hx] at k2; rw [hy] at j2
      obtain ⟨a, xs, rfl, r, st⟩ := k2.seqL
      obtain ⟨b, ys, rfl, r', st'⟩ := j2.seqL
      exact ⟨a, b, xs, ys, rfl, .inl ⟨st F2' H2 .refl j3.le, st' F2' H2 .refl j3.le, hp2 _ F2' H2 S2 [] .refl (fun _ _ => rfl) hs2' ⟨jok_z r r' st st', rfl⟩ j3'⟩⟩
    | _ => rw [hx, hy] at hp2; exact False.elim hp2
  | tup l =>
    cases hy : oy.d with
    | tup m =>
      rw [hx, hy] at hp2; rw [hx] at k2; rw [hy] at j2
      obtain ⟨a, xs, rfl, r, st⟩ := k2.seqT
      obtain ⟨b, ys, rfl, r', st'⟩ := j2.seqT
      exact ⟨a, b, xs, ys, rfl, .inr ⟨st F2' H2 .refl j3.le, st' F2' H2 .refl j3.le, hp2 _ F2' H2 S2 [] .refl (fun _ _ => rfl) hs2' ⟨jok_zT r r' st st', rfl⟩ j3'⟩⟩
    | _ => rw [hx, hy] at hp2; exact False.elim hp2
  | _ => rw [hx] at hp2; exact False.elim hp2
end
end Ev
end
section
set_option Elab.async false
set_option linter.all false
set_option maxRecDepth 100000
set_option maxHeartbeats 4000000
/-! EvR2: d.update(e). -/
namespace L2
open PySem PySem.Spec PyProof.Rows
def rUpd : V → List V → Hp → VK → Prop := fun x xs H Q => ∃ (a b : Addr) (kvs more : List (Key × V)), x = .ref a ∧ xs = [.ref b] ∧ H a = some (.dK kvs) ∧ Rd H b (.dK more) ∧ a ≠ b ∧ kvs.length + more.length ≤ sizeLine ∧ Q .non (upd H a (.dK (mergeK kvs more)))
theorem mt_update {X : Cx} : MtR X "dict.update" rUpd := by
  intro pins s σ H x xs v us Q I rx rxs h
  obtain ⟨a, b, kvs, more, rfl, rfl, ha, hb, hne, hz, q⟩ := h
  cases rx
  obtain ⟨u1, rfl, r1⟩ := vals1 rxs
  cases r1
  obtain ⟨z, hd, vs, rel, dd⟩ := dk_of I.hok ha
  obtain ⟨z2, hd2, ws, rel2, dd2⟩ := dk_rd I.hok hb
  have l1 : vs.length = kvs.length := rel.length.symm
  have l2 : ws.length = more.length := rel2.length.symm
  refine call_meetsIn PySem.F.slot_dict_update dd.typeIs PySem.F.entry_dict_update (PySem.F.args_dict_update_2 _ _) (meets_dict_update (mixKind X.prog X.w) a b hne hd2)
    ⟨vs, ws, dd, dd2, by rw [l1, l2]; exact hz, fun h' d1 d2 sb => ?_⟩
  have he : ∃ q, h'.get? a = some q := let ⟨q, _, _, hq, _⟩ := d1; ⟨q, hq⟩
  refine ⟨.non, _, d_write (t' := s.toks) I (by rw [ha]; exact True.intro) sb he (dk_new (Nat.le_trans (length_mergeK more kvs) hz) hd (rel2.merge rel) d1), rfl, q⟩
end L2
namespace Ev
open PySem L2 PyProof.Rows
section
variable {G : Gx} {X : Cx} {σ : L2.St} {H : Hp} {cl : CL}
theorem tupd {i : Nat} {ga : Env → Res OV} : ∀ Q, TEo G (fun ρ => (match ρ.at i with
    | some (.dct _) => (ga ρ).bd fun x ρ => (match ρ.at i, x.d with
      | some (.dct l), .dct m => if l.length + m.length ≤ mostLen then .ok (.fz .non) (ρ.put i (.dct (m.foldl (fun acc p => dPut acc p.1 p.2) l))) else .bad
      | _, _ => .bad)
    | _ => .bad)) σ H Q → tBM G.K "dict" rUpd (tVar i) (tCons (TEo G ga) tNil) σ H Q := by
  rintro Q ⟨ρ, F, S, R, hs, hw, hp⟩
  dsimp only at hp
  split at hp
  · rename_i l0 q0
    obtain ⟨v, S1, Sv, S2, h1, h2, h3, h4, h5⟩ := hs.get q0
    obtain ⟨a, xs0, rfl, rfl, ha0, hx0⟩ := ro_dct h2
    refine ⟨_, h1, ?_, ?_⟩
    · exact .inr (.inr (.inl ⟨rfl, .inl ⟨xs0, ha0⟩⟩))
    show TEo G ga σ H _
    obtain ⟨ρ', F', S', R', a1, a2, a3⟩ := step (G := G) (rep := repE G) (T := []) hs hw hp
    refine ⟨ρ', F', S', R', a1, a2, a3.imp ?_⟩
    rintro y H1 ⟨oy, ρ1, F1, S1', Sy, hF1, _, hs1, ry, hw1, hp1⟩
    obtain ⟨F1', k1, k2, k3⟩ := ry.freeze hw1
    have hs1 := hs1.mono k1 fun _ _ => rfl
    have hp1 := hp1.rebase k1 fun _ _ => rfl
    show rUpd (.ref a) [y] H1 Q
    split at hp1
    · rename_i l m q1 q2
      split at hp1
      · rename_i c
        obtain ⟨v', T1, Tv, T2, g1, g2, g3, g4, g5⟩ := hs1.get q1
        rw [h1] at g1; cases g1
        obtain ⟨a', xs, ea, rfl, ha, hx⟩ := ro_dct g2
        cases ea
        have k3' : Own F1' H1 ([] ++ (S1' ++ R)) := by simpa using k3
        rw [q2] at k2
        cases k2 with
        | @dct b kvs _ eb rb =>
          have hb : Rd H1 b (.dK kvs) := k3.le b _ eb
          have hne : a ≠ b := fun e => by
            subst e
            rw [(k3'.fr a (by rw [g3]; simp)).1] at eb
            cases eb
          refine ⟨a, b, xs, kvs, rfl, rfl, ha, hb, hne, by rw [hx.length, rb.length, line_eq]; exact c, ?_⟩
          obtain ⟨S'', b1, b2, b3⟩ := slot_write (T := []) hs1 k3' q1 h1 (fun Sv r => (ro_dct r).elim fun a2 h => h.elim fun _ h => by cases h.1; exact h.2.1) (ho := .dK (mergeK xs kvs)) (o' := .dct (m.foldl (fun acc p => dPut acc p.1 p.2) l)) (.dct upd_same (rkv_merge rb hx))
          exact hp1 .non F1' _ S'' [] .refl (fun x hx => b3 x (by simpa using hx)) b1 (.fz .non) (by simpa using b2)
      · exact False.elim hp1
    · exact False.elim hp1
  · exact False.elim hp
end
end Ev
end
section
set_option Elab.async false
set_option linter.all false
set_option maxRecDepth 100000
set_option maxHeartbeats 3200000
/-! EvV: sets of ints and texts: what set(..) makes, and that it is gone through. -/
namespace Ev
open PySem L2 PyProof.Rows
def keyV (v : Value) : Key := match v with
  | .int i _ => .inl i
  | .str x _ => .inr x
  | _ => .inl 0
theorem keyIs_V {k : Key} {v : Value} (h : keyIs k v = true) : keyV v = k ∧ v.scannable = true := by
  rcases keyIs_shape h with ⟨i, t, rfl, rfl⟩ | ⟨x, t, rfl, rfl⟩ <;> exact ⟨rfl, rfl⟩
theorem keyIs_uniq {j k : Key} {v : Value} (h : keyIs k v = true) : keyIs j v = true ↔ keyV v = j :=
  ⟨fun q => (keyIs_V q).1, fun q => by rw [← q, (keyIs_V h).1]; exact h⟩
abbrev keyE (e : Int × Value) : Key := keyV e.2
/-- the set at a holds just the keys of ks -/
def SKR (P : Program) (w : World) (h : Heap) (a : Addr) (ks : List Key) : Prop :=
  ∃ o es ep t, h.get? a = some o ∧ o.ExactSet ∧ o.data = .set es ep t ∧ ElemsOf (mixKind P w) es.toList ∧ (es.toList.map keyE).Nodup ∧ (∀ k, k ∈ ks ↔ k ∈ es.toList.map keyE) ∧
    es.size < scanBound ∧ t.fits es.size = true ∧ es.size ≤ ks.length ∧ Ris t.place.toList ∧ (w.params.followText "set-order" = true ∨ t.led = true)
section
variable {P : Program} {w : World} {A : Around} {E : Value → Shared → Prop} {s : Shared} {a : Addr} {ks : List Key}
theorem SKR.at {h h' : Heap} (R : SKR P w h a ks) (k : ∀ o, h.get? a = some o → h'.get? a = some o) : SKR P w h' a ks := by
  obtain ⟨o, es, ep, t, ho, r⟩ := R
  exact ⟨o, es, ep, t, k o ho, r⟩
theorem skr_mem {l : List (Int × Value)} (g : ElemsOf (mixKind P w) l) (k : Key) : k ∈ l.map keyE ↔ ∃ e ∈ l, (mixKind P w).is k e.2 = true := by
  rw [List.mem_map]
  constructor
  · rintro ⟨e, he, q⟩
    obtain ⟨⟨k0, h0, _⟩, _⟩ := g e he
    exact ⟨e, he, (keyIs_uniq h0).2 q⟩
  · rintro ⟨e, he, q⟩
    exact ⟨e, he, (keyIs_V q).1⟩
theorem skr_tail {g : Bool → Sem Unit} (hg : ∀ (b : Bool) (s₁ : Shared) (Q' : Unit → Shared → Prop), Q' () s₁ → wpAny (model P w) A (g b) Q' E s₁)
    {o : Obj} {es : Array (Int × Value)} {ep : Nat} {t : SetTable} (ho : s.heap.get? a = some o) (hex : o.ExactSet) (hd : o.data = .set es ep t)
    {es1 : Array (Int × Value)} {t2 : SetTable} (g1 : ElemsOf (mixKind P w) es1.toList) (nd1 : (es1.toList.map keyE).Nodup) (m1 : ∀ k, k ∈ ks ↔ k ∈ es1.toList.map keyE)
    (hb1 : es1.size < scanBound) (hf2 : t2.fits es1.size = true) (hn1 : es1.size ≤ ks.length) (hr : Ris t2.place.toList) (hl : w.params.followText "set-order" = true ∨ t2.led = true) {wasDummy : Bool} {R : Option Bool → Shared → Prop}
    (hR : ∀ h', Heap.SameBut a s.heap h' → SKR P w h' a ks → R (some true) { s with heap := h' }) :
    wpAny (model P w) A (do
        storeSet a es1 t2
        if (!wasDummy && t2.tooFull) = true then do
            g (relayAll t2 es1 (SetTable.grown es1.size)).2.2
            storeSet a (relayAll t2 es1 (SetTable.grown es1.size)).1 (relayAll t2 es1 (SetTable.grown es1.size)).2.1
            pure (some true)
          else pure (some true)) R E s := by
  refine wpAny_bind (wpAny_storeSet_of ho hd ?_ (fits_of_scanBound hb1))
  have ho1 := store_at (es' := es1) (t' := t2) ho hd
  have sb1 := Heap.SameBut.update s.heap a (Obj.putSet es1 t2)
  split
  · have pm := relayAll_perm t2 es1 (SetTable.grown es1.size)
    have hf3 := relayAll_fits t2 es1 (SetTable.grown es1.size)
    have hr3 := relayAll_ris t2 es1 (SetTable.grown es1.size)
    have hl3 := relayAll_led t2 es1 (SetTable.grown es1.size)
    generalize relayAll t2 es1 (SetTable.grown es1.size) = Z at pm hf3 hr3 hl3 ⊢
    obtain ⟨es2, t3, gave⟩ := Z
    dsimp only at pm hf3 hr3 hl3 ⊢
    have hsz : es2.size = es1.size := by rw [← Array.length_toList, pm.length_eq, Array.length_toList]
    have hb2 : es2.size < scanBound := by rw [hsz]; exact hb1
    refine wpAny_bind (hg _ _ _ ?_)
    refine wpAny_bind (wpAny_storeSet_of ho1 rfl ?_ (fits_of_scanBound hb2))
    have ho2 := store_at (es' := es2) (t' := t3) ho1 rfl
    refine wpAny_pure (hR _ (sb1.trans (Heap.SameBut.update _ a _)) ?_)
    exact ⟨_, es2, _, t3, ho2, hex, rfl, fun e he => g1 e (pm.mem_iff.mp he), (pm.map keyE).nodup_iff.mpr nd1, fun k => (m1 k).trans (pm.map keyE).mem_iff.symm, hb2, hf3, by rw [hsz]; exact hn1, hr3,
      hl.imp id fun z => by rw [hl3]; exact z⟩
  · exact wpAny_pure (hR _ sb1 ⟨_, es1, _, t2, ho1, hex, rfl, g1, nd1, m1, hb1, hf2, hn1, hr, hl⟩)
theorem skr_add {k : Key} {v : Value} {Q : Bool → Shared → Prop} (hkey : keyIs k v = true) (R : SKR P w s.heap a ks) (room : ks.length + 1 < scanBound)
    (hQ : ∀ b h', Heap.SameBut a s.heap h' → SKR P w h' a (ks ++ [k]) → Q b { s with heap := h' }) :
    wpAny (model P w) A (setAddHashed a v ((mixKind P w).hash k)) Q E s := by
  obtain ⟨o, es, ep, t, ho, hex, hd, hel, nd, hm, hb, hf, hn, hr, hl⟩ := R
  have hkey : (mixKind P w).is k v = true := hkey
  have hsc : v.scannable = true := (keyIs_V hkey).2
  unfold setAddHashed setAddHashedIn
  refine wpAny_holding (wpAny_bind (wpAny_setState_of ho hd hf ?_))
  dsimp only
  rw [byScan_of hsc hb hel]
  simp only [↓reduceIte]
  unfold setAddByScan
  refine wpAny_bind ?_
  refine wpAny_bind (wpAny_rule ?_)
  refine wpAny_bind (wpAny_setScan_of hkey ho hd hf hel ?_)
  cases hfi : List.findIdx? (fun e => (mixKind P w).is k e.2) es.toList with
  | some j =>
    dsimp only
    obtain ⟨hj, pj, _⟩ := List.findIdx?_eq_some_iff_getElem.mp hfi
    have hSk : k ∈ ks := (hm k).2 ((skr_mem hel k).2 ⟨es.toList[j], List.getElem_mem hj, pj⟩)
    refine wpAny_pure (wpAny_pure ?_)
    exact hQ _ s.heap (Heap.SameBut.refl a s.heap) ⟨o, es, ep, t, ho, hex, hd, hel, nd, fun i => by
      rw [List.mem_append, List.mem_singleton, ← hm i]
      exact ⟨fun z => z.elim id (fun e => e ▸ hSk), .inl⟩, hb, hf, by rw [List.length_append]; exact Nat.le_trans hn (Nat.le_add_right _ _), hr, hl⟩
  | none =>
    dsimp only
    have hnk : k ∉ es.toList.map keyE := fun z => by
      obtain ⟨e, he, q⟩ := (skr_mem hel k).1 z
      have c := List.findIdx?_eq_none_iff.mp hfi e he
      rw [q] at c
      cases c
    have hgw : ∀ (b : Bool) {s₁ : Shared} {Q' : Unit → Shared → Prop}, Q' () s₁ → wpAny (model P w) A (match b with | true => rule "set.scan.the-table-gave-way" | false => pure ()) Q' E s₁ :=
      fun b s₁ Q' q => by cases b <;> first | exact wpAny_pure q | exact wpAny_rule q
    have pm := layNew_perm t es ((mixKind P w).hash k) v
    have hf1 := layNew_fits t es ((mixKind P w).hash k) v
    have hr1 := layNew_ris t es ((mixKind P w).hash k) v hr
    have hl1 := layNew_led t es ((mixKind P w).hash k) v
    generalize layNew t es ((mixKind P w).hash k) v = Z at pm hf1 hr1 hl1 ⊢
    obtain ⟨es1, t1, wasDummy, gave⟩ := Z
    dsimp only at pm hf1 hr1 hl1 ⊢
    rw [Array.toList_push] at pm
    have pc : es1.toList.Perm (((mixKind P w).hash k, v) :: es.toList) := pm.trans (List.perm_append_singleton _ _)
    have pk : (es1.toList.map keyE).Perm (k :: es.toList.map keyE) := by
      have := pc.map keyE
      rwa [List.map_cons, show keyE ((mixKind P w).hash k, v) = k from (keyIs_V hkey).1] at this
    have g1 : ElemsOf (mixKind P w) es1.toList := fun e he => by
      rcases List.mem_cons.mp (pc.mem_iff.mp he) with z | z
      · rw [z]; exact ⟨⟨k, hkey, rfl⟩, hsc⟩
      · exact hel e z
    have nd1 : (es1.toList.map keyE).Nodup := pk.nodup_iff.mpr (List.nodup_cons.mpr ⟨hnk, nd⟩)
    have m1 : ∀ i, i ∈ ks ++ [k] ↔ i ∈ es1.toList.map keyE := fun i => by
      rw [List.mem_append, List.mem_singleton, hm i, pk.mem_iff, List.mem_cons]
      exact Or.comm
    have hsz : es1.size = es.size + 1 := by rw [← Array.length_toList, pc.length_eq, List.length_cons, Array.length_toList]
    have hb1 : es1.size < scanBound := by omega
    have hn1 : es1.size ≤ (ks ++ [k]).length := by rw [List.length_append]; simp; omega
    have hled : w.params.followText "set-order" = true ∨ t1.led = true := hl.imp id fun z => by rw [hl1]; exact z
    refine wpAny_bind (hgw _ ?_)
    split
    · refine wpAny_bind ?_
      rw [hashByValue_scannable 8 hsc]
      refine wpAny_pure ?_
      refine skr_tail ?_ ho hex hd g1 nd1 m1 hb1 ?_ hn1 ?_ ?_ ?_
      · intro b s₁ Q' q; cases b <;> first | exact wpAny_pure q | exact wpAny_rule q
      · first | (split <;> first | exact hf1 | exact SetTable.fits_plain_off hf1) | exact hf1
      · first | (split <;> exact hr1) | exact hr1
      · first | (split <;> exact hled) | exact hled
      · intro h' sb r; dsimp only; exact wpAny_pure (hQ _ h' sb r)
    · refine wpAny_bind (wpAny_pure ?_)
      simp only [↓reduceIte]
      refine skr_tail ?_ ho hex hd g1 nd1 m1 hb1 hf1 hn1 hr1 hled ?_
      · intro b s₁ Q' q; cases b <;> first | exact wpAny_pure q | exact wpAny_rule q
      · intro h' sb r; dsimp only; exact wpAny_pure (hQ _ h' sb r)
theorem skr_new {h : Heap} (ho : h.get? a = some { cls := .type "set", dict := none, data := .set #[] 0 (.fresh 0 0 (!w.params.followText "set-order")) }) : SKR P w h a [] :=
  ⟨_, #[], 0, _, ho, ⟨rfl, rfl, rfl⟩, rfl, (fun e he => by simp at he), (by simp), (fun k => by simp), (by decide), (by rfl), Nat.le_refl _, List.Pairwise.nil, by
    show _ ∨ (!w.params.followText "set-order") = true
    cases w.params.followText "set-order"
    · exact .inr rfl
    · exact .inl rfl⟩
theorem skr_update {I : Addr} {fp wr : List Addr} {G : Array GenState → Array GenState → Prop} {n : Nat} {Pv : Nat → Value → Prop} {St : Nat → Shared → Prop} {R : Result → Shared → Prop}
    (W : WalksS P w A.in1 I fp wr G n Pv St) (S : Addr) (hSf : S ∉ fp) (ns : List Key) (hn : n = ns.length) (hb : ns.length + 1 < scanBound) (hval : ∀ i v, Pv i v → ∃ k, ns[i]? = some k ∧ keyIs k v = true) :
    ∀ (k i : Nat) (s : Shared), n - i = k → i ≤ n → St i s → SKR P w s.heap S (ns.take i) →
      (∀ s', Moved (S :: wr) G s s' → SKR P w s'.heap S ns → R (.ok (.ret .none)) s') →
      codeAny (model P w) A (.builtin "set.update.loop" ⟨[.ref S, .ref I], []⟩) R s := by
  have hSw : S ∉ wr := fun h => hSf (W.sub _ h)
  have hsub : ∀ b ∈ wr, b ∈ S :: wr := fun b hb => List.mem_cons_of_mem _ hb
  intro k
  induction k with
  | zero =>
    intro i s hk' hi hst hS hR
    have hin : i = n := by omega
    subst hin
    refine codeAny_builtin PyProof.Rows.F.entry_set_update_loop ?_
    rw [Around.under_plainId PyProof.Rows.F.plain_set_update_loop _]
    show wpAny _ A.in1 (pyNext (.ref I) >>= _) _ _ s
    refine wpAny_bind (W.done s _ _ hst fun s' hm => ?_)
    show wpAny _ A.in1 (ret Value.none) _ _ s'
    have e : ns.take i = ns := List.take_of_length_le (by omega)
    rw [e] at hS
    exact wpAny_pure (hR s' (hm.mono hsub) (hS.at fun o e => hm.heap S o hSw e))
  | succ k ih =>
    intro i s hk' hi hst hS hR
    have hlt : i < n := by omega
    refine codeAny_builtin PyProof.Rows.F.entry_set_update_loop ?_
    rw [Around.under_plainId PyProof.Rows.F.plain_set_update_loop _]
    show wpAny _ A.in1 (pyNext (.ref I) >>= _) _ _ s
    refine wpAny_bind (W.item i s _ _ hlt hst fun v s' hP hst' hm => ?_)
    obtain ⟨z, hz, hk⟩ := hval i v hP
    have hS' : SKR P w s'.heap S (ns.take i) := hS.at fun o e => hm.heap S o hSw e
    show wpAny _ A.in1 (holding [v] (setAdd S v) >>= _) _ _ s'
    refine wpAny_bind (wpAny_holding ?_)
    unfold setAdd
    refine wpAny_holding ?_
    refine wpAny_bind ((mixKind P w).pyHash (k := z) hk ?_)
    refine skr_add (s := { s' with toks := s'.toks + 1 }) hk hS' (by rw [List.length_take]; omega) fun b h' hsb hS2 => ?_
    have hS3 : SKR P w h' S (ns.take (i + 1)) := by
      rw [List.take_add_one, hz]
      exact hS2
    refine wpAny_pure ⟨plainId_quiet PyProof.Rows.F.plain_set_update_loop _, ih (i + 1) _ (by omega) hlt (W.frame _ s' _ _ hst' (Nat.le_succ _) fun b hb o e => ?_) hS3 fun s'' hm'' hS'' => ?_⟩
    · rw [hsb.2 b (fun h : b = S => hSf (by rw [← h]; exact hb))]; exact e
    · refine hR s'' (Moved.trans W.gtrans ((hm.mono hsub).then_heap (Nat.le_succ _) fun b o hb e => ?_) hm'') hS''
      rw [hsb.2 b (fun h : b = S => hb (by rw [h]; exact List.mem_cons_self))]; exact e

theorem call_set_listK {l : Addr} {items : Array Value} (ks : List Key) {Q : Value → Shared → Prop} (hh : A.handled = none) (hl : s.heap.IsList l items) (hsz : items.size = ks.length) (hval : ∀ (i : Nat) (v : Value), items[i]? = some v → ∃ k, ks[i]? = some k ∧ keyIs k v = true) (hb : ks.length + 1 < scanBound)
    (h : ∀ (h' : Heap) (tk : Nat), SKR P w h' s.heap.objs.size ks → (∀ b o, s.heap.get? b = some o → h'.get? b = some o) → Q (.ref s.heap.objs.size) { s with heap := h', toks := tk }) :
    wpAny (model P w) A (call (.type "set") [.ref l]) Q E s := by
  obtain ⟨c, tl, hmro⟩ := PySem.F.called_set.mro
  have hmade := PySem.F.called_set.made
  have hsub := PySem.F.called_set.sub
  refine wpAny_call (codeAny_of_tree ?_)
  show wpAny _ _ (callAny (.type "set") _) _ _ _
  refine wpAny_pure ⟨Code.quiet_builtin _ (by decide +kernel), codeAny_builtin PySem.F.entry_type_call ?_⟩
  rw [Around.under_plain (weight_type_call_type "set" [.ref l] []) rfl]
  have h1 := PySem.F.called_set.notType
  have h2 := PySem.F.called_set.canCreate
  have hct := PySem.F.typeCall_set_1 (.ref l)
  repeat (any_goals (first | assumption | wp_step))

  refine codeAny_mono (code_set_led1 (.ref l) (E := E) (Q₁ := fun obj s₁ => obj = .ref s.heap.objs.size ∧ s₁ = { s with heap := s.heap.push { cls := .type "set", dict := none, data := .set #[] 0 (.fresh 0 0 (!w.params.followText "set-order")) } }) ⟨rfl, rfl⟩) fun r s₁ hr => ?_
  cases r with
  | error e => exact hr
  | ok fl =>
    cases fl with
    | ret obj =>
      obtain ⟨rfl, rfl⟩ := hr
      have hS : (s.heap.push { cls := .type "set", dict := none, data := .set #[] 0 (.fresh 0 0 (!w.params.followText "set-order")) }).get? s.heap.objs.size = some { cls := .type "set", dict := none, data := .set #[] 0 (.fresh 0 0 (!w.params.followText "set-order")) } := Heap.get?_push_size _ rfl
      have hT : Shared.TypeIs { s with heap := s.heap.push { cls := .type "set", dict := none, data := .set #[] 0 (.fresh 0 0 (!w.params.followText "set-order")) } } (.ref s.heap.objs.size) "set" := ⟨_, hS, rfl⟩
      have hli := PySem.F.called_set.init.lookup
      have hbi := PySem.F.called_set.init.bind (.ref s.heap.objs.size)
      repeat (any_goals (first | assumption | wp_step))

      refine codeAny_mono (codeAny_call_builtin (R := wants (fun r s₂ => r = .none ∧ ∃ h' tk, s₂ = { s with heap := h', toks := tk } ∧ SKR P w h' s.heap.objs.size ks ∧
          (∀ b o, s.heap.get? b = some o → h'.get? b = some o)) E) PySem.F.called_set.init.plain PySem.F.entry_set_init (check_set_init_1 hT ?_)) fun r₂ s₂ hr₂ => ?_
      · obtain ⟨ol, hol, hcl, nl, hdl⟩ := hl
        obtain ⟨ocls, odict, odata, oslots⟩ := ol
        simp only at hcl hdl
        subst hcl; subst hdl
        have hol' : (s.heap.push { cls := .type "set", dict := none, data := .set #[] 0 (.fresh 0 0 (!w.params.followText "set-order")) }).get? l = some { cls := .type "list", dict := odict, data := .seq items nl, slots := oslots } := Heap.get?_push_of_some _ hol
        have hsls := PySem.F.sub_list_set
        have hslf := PySem.F.sub_list_frozenset
        have hne : (Value.type "list" == Value.type "dict") = false := by decide
        have hl1 : (s.heap.push { cls := .type "set", dict := none, data := .set #[] 0 (.fresh 0 0 (!w.params.followText "set-order")) }).IsList l items := ⟨_, hol', rfl, nl, rfl⟩
        unfold Builtin.«set.__init__» noKeywords Builtin.Frozenset.updateFrom
        generalize hPI : pyIter = PI
        wp_walk
        subst hPI

        have hh3 : A.in1.in1.in1.handled = none := by simp [hh]
        refine wpAny_pyIter_list hl1 ?_
        refine wpAny_bind (wpAny_runValue ?_)
        have hlS : l < s.heap.objs.size := Heap.lt_size hol
        have hneI : l ≠ (s.heap.push { cls := .type "set", dict := none, data := .set #[] 0 (.fresh 0 0 (!w.params.followText "set-order")) }).objs.size := by
          rw [Heap.size_push]; exact Nat.ne_of_lt (Nat.lt_succ_of_lt hlS)
        have hSf : s.heap.objs.size ∉ [(s.heap.push { cls := .type "set", dict := none, data := .set #[] 0 (.fresh 0 0 (!w.params.followText "set-order")) }).objs.size, l] := by
          rw [Heap.size_push]; simp only [List.mem_cons, List.mem_singleton, List.not_mem_nil, or_false, not_or]
          exact ⟨Nat.ne_of_lt (Nat.lt_succ_self _), Nat.ne_of_gt hlS⟩
        refine skr_update ((Walks.list hh3 _ l hneI items).toS) s.heap.objs.size
          hSf ks hsz hb hval (items.size - 0) 0 _ (by omega) (Nat.zero_le _)
          ⟨⟨_, Heap.get?_push_size _ rfl, rfl, rfl⟩, (hl1.push _)⟩ ?hS0 ?hR
        case hS0 =>
          exact skr_new (Heap.get?_push_of_some _ hS)
        case hR =>
          intro s' hm hS'
          obtain ⟨h', g2, d', tk', os'⟩ := s'
          have eg : g2 = s.gens := hm.gens
          have ed : d' = s.drawn := hm.drawn
          have eo : os' = s.os := hm.os
          subst eg; subst ed; subst eo
          show wpAny _ _ _ _ _ _
          refine wpAny_pure ?_
          show wpAny _ _ (ret Value.none) _ _ _
          refine wpAny_pure ⟨rfl, h', tk', rfl, hS', fun b o e => ?_⟩
          have hb0 : b < s.heap.objs.size := Heap.lt_size e
          have hb1 : b ≠ s.heap.objs.size := Nat.ne_of_lt hb0
          have hb2 : b ≠ (s.heap.push { cls := .type "set", dict := none, data := .set #[] 0 (.fresh 0 0 (!w.params.followText "set-order")) }).objs.size := by
            rw [Heap.size_push]; exact Nat.ne_of_lt (Nat.lt_succ_of_lt hb0)
          exact hm.heap b o (by simp only [List.mem_cons, List.mem_singleton, List.not_mem_nil, or_false, not_or]; exact ⟨hb1, hb2⟩) (Heap.get?_push_of_some _ (Heap.get?_push_of_some _ e))
      · cases r₂ with
        | error e => exact hr₂
        | ok fl₂ =>
          cases fl₂ with
          | ret r =>
            obtain ⟨rfl, h', tk, rfl, hS', hk'⟩ := hr₂
            repeat (any_goals (first | assumption | wp_step))
            exact h _ _ hS' hk'
          | _ => exact hr₂.elim
    | _ => exact hr.elim

theorem call_set_tupK {l : Addr} {items : Array Value} (ks : List Key) {Q : Value → Shared → Prop} (hh : A.handled = none) (hl : s.heap.IsTuple l items) (hsz : items.size = ks.length) (hval : ∀ (i : Nat) (v : Value), items[i]? = some v → ∃ k, ks[i]? = some k ∧ keyIs k v = true) (hb : ks.length + 1 < scanBound)
    (h : ∀ (h' : Heap) (tk : Nat), SKR P w h' s.heap.objs.size ks → (∀ b o, s.heap.get? b = some o → h'.get? b = some o) → Q (.ref s.heap.objs.size) { s with heap := h', toks := tk }) :
    wpAny (model P w) A (call (.type "set") [.ref l]) Q E s := by
  obtain ⟨c, tl, hmro⟩ := PySem.F.called_set.mro
  have hmade := PySem.F.called_set.made
  have hsub := PySem.F.called_set.sub
  refine wpAny_call (codeAny_of_tree ?_)
  show wpAny _ _ (callAny (.type "set") _) _ _ _
  refine wpAny_pure ⟨Code.quiet_builtin _ (by decide +kernel), codeAny_builtin PySem.F.entry_type_call ?_⟩
  rw [Around.under_plain (weight_type_call_type "set" [.ref l] []) rfl]
  have h1 := PySem.F.called_set.notType
  have h2 := PySem.F.called_set.canCreate
  have hct := PySem.F.typeCall_set_1 (.ref l)
  repeat (any_goals (first | assumption | wp_step))

  refine codeAny_mono (code_set_led1 (.ref l) (E := E) (Q₁ := fun obj s₁ => obj = .ref s.heap.objs.size ∧ s₁ = { s with heap := s.heap.push { cls := .type "set", dict := none, data := .set #[] 0 (.fresh 0 0 (!w.params.followText "set-order")) } }) ⟨rfl, rfl⟩) fun r s₁ hr => ?_
  cases r with
  | error e => exact hr
  | ok fl =>
    cases fl with
    | ret obj =>
      obtain ⟨rfl, rfl⟩ := hr
      have hS : (s.heap.push { cls := .type "set", dict := none, data := .set #[] 0 (.fresh 0 0 (!w.params.followText "set-order")) }).get? s.heap.objs.size = some { cls := .type "set", dict := none, data := .set #[] 0 (.fresh 0 0 (!w.params.followText "set-order")) } := Heap.get?_push_size _ rfl
      have hT : Shared.TypeIs { s with heap := s.heap.push { cls := .type "set", dict := none, data := .set #[] 0 (.fresh 0 0 (!w.params.followText "set-order")) } } (.ref s.heap.objs.size) "set" := ⟨_, hS, rfl⟩
      have hli := PySem.F.called_set.init.lookup
      have hbi := PySem.F.called_set.init.bind (.ref s.heap.objs.size)
      repeat (any_goals (first | assumption | wp_step))

      refine codeAny_mono (codeAny_call_builtin (R := wants (fun r s₂ => r = .none ∧ ∃ h' tk, s₂ = { s with heap := h', toks := tk } ∧ SKR P w h' s.heap.objs.size ks ∧
          (∀ b o, s.heap.get? b = some o → h'.get? b = some o)) E) PySem.F.called_set.init.plain PySem.F.entry_set_init (check_set_init_1 hT ?_)) fun r₂ s₂ hr₂ => ?_
      · obtain ⟨ol, hol, hcl, nl, hdl⟩ := hl
        obtain ⟨ocls, odict, odata, oslots⟩ := ol
        simp only at hcl hdl
        subst hcl; subst hdl
        have hol' : (s.heap.push { cls := .type "set", dict := none, data := .set #[] 0 (.fresh 0 0 (!w.params.followText "set-order")) }).get? l = some { cls := .type "tuple", dict := odict, data := .seq items nl, slots := oslots } := Heap.get?_push_of_some _ hol
        have hsls := PySem.F.sub_tuple_set
        have hslf := PySem.F.sub_tuple_frozenset
        have hne : (Value.type "tuple" == Value.type "dict") = false := by decide
        have hl1 : (s.heap.push { cls := .type "set", dict := none, data := .set #[] 0 (.fresh 0 0 (!w.params.followText "set-order")) }).IsTuple l items := ⟨_, hol', rfl, nl, rfl⟩
        unfold Builtin.«set.__init__» noKeywords Builtin.Frozenset.updateFrom
        generalize hPI : pyIter = PI
        wp_walk
        subst hPI

        have hh3 : A.in1.in1.in1.handled = none := by simp [hh]
        refine wpAny_pyIter_tuple hl1 ?_
        refine wpAny_bind (wpAny_runValue ?_)
        have hlS : l < s.heap.objs.size := Heap.lt_size hol
        have hneI : l ≠ (s.heap.push { cls := .type "set", dict := none, data := .set #[] 0 (.fresh 0 0 (!w.params.followText "set-order")) }).objs.size := by
          rw [Heap.size_push]; exact Nat.ne_of_lt (Nat.lt_succ_of_lt hlS)
        have hSf : s.heap.objs.size ∉ [(s.heap.push { cls := .type "set", dict := none, data := .set #[] 0 (.fresh 0 0 (!w.params.followText "set-order")) }).objs.size, l] := by
          rw [Heap.size_push]; simp only [List.mem_cons, List.mem_singleton, List.not_mem_nil, or_false, not_or]
          exact ⟨Nat.ne_of_lt (Nat.lt_succ_self _), Nat.ne_of_gt hlS⟩
        refine skr_update ((Walks.tuple hh3 _ l hneI items).toS) s.heap.objs.size
          hSf ks hsz hb hval (items.size - 0) 0 _ (by omega) (Nat.zero_le _)
          ⟨⟨_, Heap.get?_push_size _ rfl, rfl, rfl⟩, (hl1.push _)⟩ ?hS0 ?hR
        case hS0 =>
          exact skr_new (Heap.get?_push_of_some _ hS)
        case hR =>
          intro s' hm hS'
          obtain ⟨h', g2, d', tk', os'⟩ := s'
          have eg : g2 = s.gens := hm.gens
          have ed : d' = s.drawn := hm.drawn
          have eo : os' = s.os := hm.os
          subst eg; subst ed; subst eo
          show wpAny _ _ _ _ _ _
          refine wpAny_pure ?_
          show wpAny _ _ (ret Value.none) _ _ _
          refine wpAny_pure ⟨rfl, h', tk', rfl, hS', fun b o e => ?_⟩
          have hb0 : b < s.heap.objs.size := Heap.lt_size e
          have hb1 : b ≠ s.heap.objs.size := Nat.ne_of_lt hb0
          have hb2 : b ≠ (s.heap.push { cls := .type "set", dict := none, data := .set #[] 0 (.fresh 0 0 (!w.params.followText "set-order")) }).objs.size := by
            rw [Heap.size_push]; exact Nat.ne_of_lt (Nat.lt_succ_of_lt hb0)
          exact hm.heap b o (by simp only [List.mem_cons, List.mem_singleton, List.not_mem_nil, or_false, not_or]; exact ⟨hb1, hb2⟩) (Heap.get?_push_of_some _ (Heap.get?_push_of_some _ e))
      · cases r₂ with
        | error e => exact hr₂
        | ok fl₂ =>
          cases fl₂ with
          | ret r =>
            obtain ⟨rfl, h', tk, rfl, hS', hk'⟩ := hr₂
            repeat (any_goals (first | assumption | wp_step))
            exact h _ _ hS' hk'
          | _ => exact hr₂.elim
    | _ => exact hr.elim

theorem call_set_str {x : Str} {t : Tok} (ks : List Key) {Q : Value → Shared → Prop} (hh : A.handled = none) (hsz : x.cps.size = ks.length) (hval : ∀ (i : Nat) (v : Value), SignAt x i v → ∃ k, ks[i]? = some k ∧ keyIs k v = true) (hb : ks.length + 1 < scanBound)
    (h : ∀ (h' : Heap) (tk : Nat), SKR P w h' s.heap.objs.size ks → (∀ b o, s.heap.get? b = some o → h'.get? b = some o) → Q (.ref s.heap.objs.size) { s with heap := h', toks := tk }) :
    wpAny (model P w) A (call (.type "set") [.str x t]) Q E s := by
  obtain ⟨c, tl, hmro⟩ := PySem.F.called_set.mro
  have hmade := PySem.F.called_set.made
  have hsub := PySem.F.called_set.sub
  refine wpAny_call (codeAny_of_tree ?_)
  show wpAny _ _ (callAny (.type "set") _) _ _ _
  refine wpAny_pure ⟨Code.quiet_builtin _ (by decide +kernel), codeAny_builtin PySem.F.entry_type_call ?_⟩
  rw [Around.under_plain (weight_type_call_type "set" [.str x t] []) rfl]
  have h1 := PySem.F.called_set.notType
  have h2 := PySem.F.called_set.canCreate
  have hct := PySem.F.typeCall_set_1 (.str x t)
  repeat (any_goals (first | assumption | wp_step))

  refine codeAny_mono (code_set_led1 (.str x t) (E := E) (Q₁ := fun obj s₁ => obj = .ref s.heap.objs.size ∧ s₁ = { s with heap := s.heap.push { cls := .type "set", dict := none, data := .set #[] 0 (.fresh 0 0 (!w.params.followText "set-order")) } }) ⟨rfl, rfl⟩) fun r s₁ hr => ?_
  cases r with
  | error e => exact hr
  | ok fl =>
    cases fl with
    | ret obj =>
      obtain ⟨rfl, rfl⟩ := hr
      have hS : (s.heap.push { cls := .type "set", dict := none, data := .set #[] 0 (.fresh 0 0 (!w.params.followText "set-order")) }).get? s.heap.objs.size = some { cls := .type "set", dict := none, data := .set #[] 0 (.fresh 0 0 (!w.params.followText "set-order")) } := Heap.get?_push_size _ rfl
      have hT : Shared.TypeIs { s with heap := s.heap.push { cls := .type "set", dict := none, data := .set #[] 0 (.fresh 0 0 (!w.params.followText "set-order")) } } (.ref s.heap.objs.size) "set" := ⟨_, hS, rfl⟩
      have hli := PySem.F.called_set.init.lookup
      have hbi := PySem.F.called_set.init.bind (.ref s.heap.objs.size)
      repeat (any_goals (first | assumption | wp_step))

      refine codeAny_mono (codeAny_call_builtin (R := wants (fun r s₂ => r = .none ∧ ∃ h' tk, s₂ = { s with heap := h', toks := tk } ∧ SKR P w h' s.heap.objs.size ks ∧
          (∀ b o, s.heap.get? b = some o → h'.get? b = some o)) E) PySem.F.called_set.init.plain PySem.F.entry_set_init (check_set_init_1 hT ?_)) fun r₂ s₂ hr₂ => ?_
      · have hsls := PySem.F.sub_str_set
        have hslf := PySem.F.sub_str_frozenset
        have hne : (Value.type "str" == Value.type "dict") = false := by decide
        unfold Builtin.«set.__init__» noKeywords Builtin.Frozenset.updateFrom
        generalize hPI : pyIter = PI
        wp_walk
        subst hPI

        have hh3 : A.in1.in1.in1.handled = none := by simp [hh]
        refine wpAny_pyIter_str fun o St W st => ?_
        refine wpAny_bind (wpAny_runValue ?_)
        have hSf : s.heap.objs.size ∉ [(s.heap.push { cls := .type "set", dict := none, data := .set #[] 0 (.fresh 0 0 (!w.params.followText "set-order")) }).objs.size] := by
          rw [Heap.size_push]; simp only [List.mem_singleton]
          exact Nat.ne_of_lt (Nat.lt_succ_self _)
        refine skr_update ((W _ hh3).toS) s.heap.objs.size
          hSf ks hsz hb hval (x.cps.size - 0) 0 _ (by omega) (Nat.zero_le _)
          st ?hS0 ?hR
        case hS0 =>
          exact skr_new (Heap.get?_push_of_some _ hS)
        case hR =>
          intro s' hm hS'
          obtain ⟨h', g2, d', tk', os'⟩ := s'
          have eg : g2 = s.gens := hm.gens
          have ed : d' = s.drawn := hm.drawn
          have eo : os' = s.os := hm.os
          subst eg; subst ed; subst eo
          show wpAny _ _ _ _ _ _
          refine wpAny_pure ?_
          show wpAny _ _ (ret Value.none) _ _ _
          refine wpAny_pure ⟨rfl, h', tk', rfl, hS', fun b o e => ?_⟩
          have hb0 : b < s.heap.objs.size := Heap.lt_size e
          have hb1 : b ≠ s.heap.objs.size := Nat.ne_of_lt hb0
          have hb2 : b ≠ (s.heap.push { cls := .type "set", dict := none, data := .set #[] 0 (.fresh 0 0 (!w.params.followText "set-order")) }).objs.size := by
            rw [Heap.size_push]; exact Nat.ne_of_lt (Nat.lt_succ_of_lt hb0)
          exact hm.heap b o (by simp only [List.mem_cons, List.mem_singleton, List.not_mem_nil, or_false, not_or]; exact ⟨hb1, hb2⟩) (Heap.get?_push_of_some _ (Heap.get?_push_of_some _ e))
      · cases r₂ with
        | error e => exact hr₂
        | ok fl₂ =>
          cases fl₂ with
          | ret r =>
            obtain ⟨rfl, h', tk, rfl, hS', hk'⟩ := hr₂
            repeat (any_goals (first | assumption | wp_step))
            exact h _ _ hS' hk'
          | _ => exact hr₂.elim
    | _ => exact hr.elim
end
end Ev
end
section
set_option Elab.async false
set_option linter.all false
set_option maxRecDepth 100000
set_option maxHeartbeats 3200000
/-! EvW: sorted(set(..)) of ints or of texts. -/
namespace Ev
open PySem L2 PyProof.Rows
def pyK : Key → PyData
  | .inl i => .int i
  | .inr x => .str x
section
variable {P : Program} {w : World} {A : Around} {E : Value → Shared → Prop} {s : Shared} {a : Addr} {ks : List Key}
theorem reads_key {h : Heap} {k : Key} {v : Value} (q : keyIs k v = true) : Reads h v (pyK k) [] := by
  rcases keyIs_shape q with ⟨i, t, rfl, rfl⟩ | ⟨x, t, rfl, rfl⟩
  · exact .int i t
  · exact .str x t
theorem pyK_depth (k : Key) : (pyK k).depth = 0 := by cases k <;> rfl
theorem each_keys {h : Heap} {b : Addr} : ∀ {vs : List Value}, (∀ v ∈ vs, keyIs (keyV v) v = true) → PySem.W.EachIs (fun v k => keyIs k v = true) vs (vs.map keyV) ∧ PySem.W.EachIs (fun v k => ∃ as, Reads h v (pyK k) as ∧ b ∉ as) vs (vs.map keyV)
  | [], _ => ⟨.nil, .nil⟩
  | v :: vs, q => by
    obtain ⟨h1, h2⟩ := each_keys (h := h) (b := b) (vs := vs) fun v hv => q v (List.mem_cons_of_mem _ hv)
    have hv := q v (by simp)
    exact ⟨.cons hv h1, .cons ⟨[], reads_key hv, by simp⟩ h2⟩
theorem sorted_setK {Q : Value → Shared → Prop} (R : SKR P w s.heap a ks) (hh : A.handled = none) (hu : A.units + 64 < cLine) (hal : PySem.W.AllAlike (ks.map pyK))
    (hQ : ∀ s' p (out : List Value) (c : Nat) (ms : List Key), (∀ b o, s.heap.get? b = some o → s'.heap.get? b = some o) → s'.gens = s.gens → s'.os = s.os → s.heap.objs.size ≤ p →
      s'.heap.get? p = some (seqObj "list" out.toArray c) → PySem.W.EachIs (fun v k => keyIs k v = true) out (ms.mergeSort (PySem.W.dataLe false pyK)) → ms.Nodup → (∀ k, k ∈ ms ↔ k ∈ ks) → out.length < 4096 → Q (.ref p) s') :
    wpAny (model P w) A (call (.builtin "sorted") [.ref a]) Q E s := by
  obtain ⟨o, es, ep, t, ho, hex, hd, g, nd, hm, hb, hf, hn, hr, hl⟩ := R
  refine Calls.call_function_entry kind_sorted plain_sorted entry_sorted (args_sorted1 _) ?_
  unfold Builtin.«sorted»
  refine wpAny_bind (m := checkCount "sorted" 1 1 _) (wpAny_pure ?_)
  refine wpAny_bind (collect_set (A := A.in1) hh ⟨o, ho, hex.1, hd⟩ hf hb hr hl fun s1 vs k1 hz g1 o1 pm => ?_)
  have hvl : vs.length < 4096 := by rw [pm.length_eq, List.length_map, Array.length_toList]; exact hb
  have hkv : ∀ v ∈ vs, keyIs (keyV v) v = true := fun v hv => by
    obtain ⟨e, he, q⟩ := List.mem_map.mp (pm.mem_iff.mp hv)
    obtain ⟨⟨k, h1, _⟩, _⟩ := g e he
    rw [← q]
    exact (keyIs_uniq h1).2 rfl
  have pk : (vs.map keyV).Perm (es.toList.map keyE) := by
    have q := pm.map keyV
    rw [List.map_map] at q
    exact q
  have hmem : ∀ k, k ∈ vs.map keyV ↔ k ∈ ks := fun k => by rw [pk.mem_iff, ← hm k]
  refine wpAny_bind (wpAny_newList ?_ (by rw [sizeLine_eq]; omega))
  have hoL : (s1.heap.push (seqObj "list" vs.toArray 0)).get? s1.heap.objs.size = some (seqObj "list" vs.toArray 0) := Heap.get?_push_size _ rfl
  obtain ⟨e1, e2⟩ := each_keys (h := s1.heap.push (seqObj "list" vs.toArray 0)) (b := s1.heap.objs.size) hkv
  have hal' : PySem.W.AllAlike ((vs.map keyV).map pyK) := fun d hd d' hd' => by
    obtain ⟨k, h1, rfl⟩ := List.mem_map.mp hd
    obtain ⟨k', h1', rfl⟩ := List.mem_map.mp hd'
    exact hal _ (List.mem_map_of_mem ((hmem k).1 h1)) _ (List.mem_map_of_mem ((hmem k').1 h1'))
  have hso : PySem.W.Sortable ((vs.map keyV).map pyK) := .inr fun d hd => by
    obtain ⟨k, h1, rfl⟩ := List.mem_map.mp hd
    cases k <;> exact ⟨by simp [pyK], by simp [pyK]⟩
  refine wpAny_bind (wpAny_holding (PySem.W.list_sort_data hoL e1 e2 hal' hso (by rw [List.length_map, sizeLine_eq]; omega) (fun b _ => ?_) fun out hlo he => ?_))
  · rw [pyK_depth]
    have : A.in1.units ≤ A.units + 1 := by first | exact Nat.le_refl _ | simp [Around.in1]
    omega
  obtain ⟨c, hc⟩ := PyProof.Rows.sortedHeap_at (vs := vs) (out := out.toArray) hoL
  refine wpAny_pure ⟨_, rfl, hQ _ s1.heap.objs.size out c (vs.map keyV) (fun b u e => ?_) g1 o1 hz hc he (pk.nodup_iff.mpr nd) hmem (by rw [hlo, List.length_map]; exact hvl)⟩
  have q := k1 b u e
  have hlt := Heap.lt_size q
  show (PyProof.Rows.sortedHeap (s1.heap.push (seqObj "list" vs.toArray 0)) s1.heap.objs.size vs out.toArray).get? b = some u
  rw [PyProof.Rows.sortedHeap_old (Nat.ne_of_lt hlt) (by rw [size_push']; exact Nat.lt_succ_of_lt hlt)]
  exact Heap.get?_push_of_some _ q
end
/-- the set at p, tracked -/
def SKo (P : Program) (w : World) (p : Addr) (ks : List Key) : HO := .ext fun h => SKR P w h p ks
theorem sko_new {P : Program} {w : World} {H : Hp} {h : Heap} {a : Addr} {ks : List Key} (R : SKR P w h a ks) : ObjOk P w H h a (SKo P w a ks) := by
  have ⟨o, _, _, _, ho, _⟩ := R
  exact ⟨R, ⟨o, ho⟩, fun h1 h2 p k => SKR.at p k⟩
/-- what is handed to set(..) -/
def KeysAt (K : PySem.W.Frag) (H : Hp) (v : V) (ks : List Key) : Prop :=
  (∃ p, v = .ref p ∧ (SqL K H p (ks.map kV) ∨ SqT K H p (ks.map kV))) ∨ ∃ x : Str, v = .str x ∧ ks = x.cps.toList.map fun c => .inr ⟨#[c]⟩
def rSetKs (K : PySem.W.Frag) (P : Program) (w : World) : List V → Hp → VK → Prop := fun xs H Q => ∃ v ks, xs = [v] ∧ KeysAt K H v ks ∧ ks.length + 1 < 4096 ∧ ∀ p, H p = none → Q (.ref p) (upd H p (SKo P w p ks))
def rSortKs (P : Program) (w : World) : List V → Hp → VK → Prop := fun xs H Q => ∃ a ks, xs = [.ref a] ∧ H a = some (SKo P w a ks) ∧ PySem.W.AllAlike (ks.map pyK) ∧
  ∀ (ms : List Key) (p : Addr), ms.Nodup → (∀ k, k ∈ ms ↔ k ∈ ks) → H p = none → Q (.ref p) (upd H p (.lst ((ms.mergeSort (PySem.W.dataLe false pyK)).map kV)))
theorem vals_keys : ∀ {ks : List Key} {us : List Value}, Vals (ks.map kV) us → ∀ (i : Nat) (v : Value), us[i]? = some v → ∃ k, ks[i]? = some k ∧ keyIs k v = true := by
  intro ks us r i v hv
  obtain ⟨x, hx, rx⟩ : ∃ x, (ks.map kV)[i]? = some x ∧ RelV x v := by
    induction ks generalizing us i with
    | nil => cases r; simp at hv
    | cons k ks ih =>
      rw [List.map_cons] at r
      cases r with
      | cons r rs =>
        cases i with
        | zero => simp at hv; subst hv; exact ⟨_, rfl, r⟩
        | succ i => simpa using ih rs i (by simpa using hv)
  rw [List.getElem?_map] at hx
  obtain ⟨k, hk, rfl⟩ := Option.map_eq_some_iff.mp hx
  refine ⟨k, hk, ?_⟩
  cases k with
  | inl i => obtain ⟨t, rfl⟩ := rx; exact keyIs_int i t
  | inr x => obtain ⟨t, rfl⟩ := rx; exact keyIs_str x t
theorem cr_setKs {X : Cx} (hc : X.calm = true) : CallR X (.type "set") (rSetKs X.K X.prog X.w) := by
  intro pins s σ H xs us Q I r h
  obtain ⟨v, ks, rfl, hk, hl, q⟩ := h
  obtain ⟨u, rfl, ru⟩ := Vals.one r
  have fin : ∀ (h' : Heap) (tk : Nat), SKR X.prog X.w h' s.heap.objs.size ks → (∀ b o, s.heap.get? b = some o → h'.get? b = some o) → EP X pins σ Q (.ref s.heap.objs.size) { s with heap := h', toks := tk } := fun h' tk R k =>
    ⟨.ref _, upd H s.heap.objs.size (SKo X.prog X.w s.heap.objs.size ks), I.laid (t' := tk) k (Nat.le_refl _) (sko_new R), rfl, q _ (I.hok.fresh (Nat.le_refl _))⟩
  rcases hk with ⟨p, rfl, hp | hp⟩ | ⟨x, rfl, rfl⟩
  · cases ru
    obtain ⟨its, rv, pl, hz⟩ := I.list hp
    have hlen := rv.length
    exact call_set_listK ks (I.ok.hd hc) pl.isList (by rw [List.size_toArray, ← hlen, List.length_map]) (fun i v hv => vals_keys rv i v (by simpa using hv)) hl fin
  · cases ru
    obtain ⟨its, rv, pl, hz⟩ := I.tuple hp
    have hlen := rv.length
    exact call_set_tupK ks (I.ok.hd hc) (show s.heap.IsTuple p its.toArray from pl) (by rw [List.size_toArray, ← hlen, List.length_map]) (fun i v hv => vals_keys rv i v (by simpa using hv)) hl fin
  · obtain ⟨t, rfl⟩ := ru
    refine call_set_str _ (I.ok.hd hc) (by rw [List.length_map, Array.length_toList]) (fun i v hv => ?_) hl fin
    obtain ⟨c, u, h1, rfl⟩ := hv
    refine ⟨.inr ⟨#[c]⟩, ?_, keyIs_str _ _⟩
    rw [List.getElem?_map, Array.getElem?_toList, h1]
    rfl
theorem each_vals2 : ∀ {out : List Value} {ks : List Key}, PySem.W.EachIs (fun v k => keyIs k v = true) out ks → Vals (ks.map kV) out
  | [], _, .nil => .nil
  | v :: vs, _, .cons h t => by
    rename_i k ks
    rw [List.map_cons]
    refine .cons ?_ (each_vals2 t)
    rcases keyIs_shape h with ⟨i, t, rfl, rfl⟩ | ⟨x, t, rfl, rfl⟩ <;> exact ⟨_, rfl⟩
theorem cr_sortKs {X : Cx} (hc : X.calm = true) (hu : X.A.units + 64 < cLine) : CallR X (.builtin "sorted") (rSortKs X.prog X.w) := by
  intro pins s σ H xs us Q I r h
  obtain ⟨a, ks, rfl, ha, hal, q⟩ := h
  obtain ⟨u, rfl, ru⟩ := Vals.one r
  cases ru
  refine sorted_setK (I.hok a _ ha).1 (I.ok.hd hc) hu hal fun s' p out c ms k g o hp hg he hnd hm hlt => ?_
  have rv := each_vals2 he
  have hlen : ((ms.mergeSort (PySem.W.dataLe false pyK)).map kV).length ≤ sizeLine := by rw [rv.length, sizeLine_eq]; omega
  have hn : H p = none := I.hok.fresh hp
  have J : Inv X pins σ (upd H p (.lst ((ms.mergeSort (PySem.W.dataLe false pyK)).map kV))) { s with heap := s'.heap, gens := s'.gens, drawn := s'.drawn, toks := s'.toks } :=
    I.call (ch := []) (Un.laid k hp hn) (I.hok.laid k hp ⟨hlen, out, c, rv, hg⟩) (by rw [g]; exact I.bare) (fun _ z => nomatch z)
  have e : s' = { s with heap := s'.heap, gens := s'.gens, drawn := s'.drawn, toks := s'.toks } := by
    cases s'
    cases s
    cases o
    rfl
  rw [e]
  exact ⟨.ref p, _, J, rfl, q ms p hnd hm hn⟩
end Ev

namespace Ev
open PySem L2 PyProof.Rows
/-! ### the plain side: each once, in order -/
section
variable {α : Type} [DecidableEq α]
theorem mem_once {x : α} : ∀ {l : List α}, x ∈ once l ↔ x ∈ l
  | [] => by simp [once]
  | y :: l => by
    simp only [once, List.mem_cons, List.mem_filter, decide_eq_true_eq, mem_once (l := l)]
    by_cases h : x = y <;> simp [h]
theorem nodup_once : ∀ l : List α, (once l).Nodup
  | [] => List.nodup_nil
  | y :: l => by
    rw [once, List.nodup_cons]
    exact ⟨by simp [List.mem_filter], (nodup_once l).filter _⟩
end
theorem sort_uniq {α : Type} {le : α → α → Bool} (tr : ∀ a b c, le a b → le b c → le a c) (tot : ∀ a b, le a b || le b a) (anti : ∀ a b, le a b → le b a → a = b) {l m : List α} (h : l.Perm m) : l.mergeSort le = m.mergeSort le :=
  List.Perm.eq_of_pairwise (le := fun a b => le a b = true) (fun a b _ _ => anti a b) (List.pairwise_mergeSort tr tot l) (List.pairwise_mergeSort tr tot m) ((List.mergeSort_perm l le).trans (h.trans (List.mergeSort_perm m le).symm))
theorem dle_int (a b : Int) : PySem.W.dataLe false pyK (.inl a) (.inl b) = decide (a ≤ b) := congrFun (congrFun (PySem.W.dataLe_int (β := Int) id) a) b
theorem dle_str (a b : Tx) : PySem.W.dataLe false pyK (.inr (sv a)) (.inr (sv b)) = decide (a ≤ b) := by
  have := congrFun (congrFun (PySem.W.dataLe_str (β := Tx) sv) a) b
  rw [sv_cps, sv_cps] at this
  exact this
theorem map_of_mem {α β : Type} {f : α → β} : ∀ {ms : List β}, (∀ k ∈ ms, ∃ a, f a = k) → ∃ mi : List α, ms = mi.map f
  | [], _ => ⟨[], rfl⟩
  | k :: ms, h => by
    obtain ⟨a, rfl⟩ := h k (by simp)
    obtain ⟨mi, rfl⟩ := map_of_mem fun k hk => h k (List.mem_cons_of_mem _ hk)
    exact ⟨a :: mi, rfl⟩
theorem nodup_of_map {α β : Type} {f : α → β} {l : List α} (h : (l.map f).Nodup) : l.Nodup := by
  rw [List.Nodup, List.pairwise_map] at h
  exact h.imp fun hab e => hab (by rw [e])
theorem ss_gen {α : Type} [DecidableEq α] {f : α → Key} (inj : ∀ a b, f a = f b → a = b) {le : α → α → Bool} (hle : ∀ a b, PySem.W.dataLe false pyK (f a) (f b) = le a b) (tr : ∀ a b c, le a b → le b c → le a c) (tot : ∀ a b, le a b || le b a) (anti : ∀ a b, le a b → le b a → a = b)
    {is : List α} {ms : List Key} (nd : ms.Nodup) (hm : ∀ k, k ∈ ms ↔ k ∈ is.map f) : ms.mergeSort (PySem.W.dataLe false pyK) = ((once is).mergeSort le).map f := by
  obtain ⟨mi, rfl⟩ := map_of_mem (f := f) fun k hk => by
    obtain ⟨a, _, e⟩ := List.mem_map.mp ((hm k).1 hk)
    exact ⟨a, e⟩
  have hmi : ∀ a, a ∈ mi ↔ a ∈ once is := fun a => by
    rw [mem_once]
    constructor
    · intro h
      obtain ⟨b, hb, e⟩ := List.mem_map.mp ((hm (f a)).1 (List.mem_map_of_mem h))
      rw [← inj _ _ e]; exact hb
    · intro h
      obtain ⟨b, hb, e⟩ := List.mem_map.mp ((hm (f a)).2 (List.mem_map_of_mem h))
      rw [← inj _ _ e]; exact hb
  have hp : mi.Perm (once is) := (List.perm_ext_iff_of_nodup (nodup_of_map nd) (nodup_once is)).2 hmi
  rw [← List.map_mergeSort (r := le) (s := PySem.W.dataLe false pyK) (f := f) fun a _ b _ => (hle a b).symm, sort_uniq tr tot anti hp]
theorem ss_int {is : List Int} {ms : List Key} (nd : ms.Nodup) (hm : ∀ k, k ∈ ms ↔ k ∈ is.map .inl) : ms.mergeSort (PySem.W.dataLe false pyK) = ((once is).mergeSort fun a b => decide (a ≤ b)).map .inl :=
  ss_gen (f := .inl) (fun a b e => Sum.inl.inj e) dle_int (fun a b c h1 h2 => by simp only [decide_eq_true_eq] at *; omega) (fun a b => by simp only [Bool.or_eq_true, decide_eq_true_eq]; omega) (fun a b h1 h2 => by simp only [decide_eq_true_eq] at *; omega) nd hm
theorem ss_str {ts : List Tx} {ms : List Key} (nd : ms.Nodup) (hm : ∀ k, k ∈ ms ↔ k ∈ ts.map fun x => .inr (sv x)) : ms.mergeSort (PySem.W.dataLe false pyK) = ((once ts).mergeSort fun a b => decide (a ≤ b)).map fun x => .inr (sv x) :=
  ss_gen (f := fun x => .inr (sv x)) (fun a b e => sv_inj (Sum.inr.inj e)) dle_str (fun a b c h1 h2 => by simp only [decide_eq_true_eq] at *; exact List.le_trans h1 h2) (fun a b => by simp only [Bool.or_eq_true, decide_eq_true_eq]; exact List.le_total a b) (fun a b h1 h2 => by simp only [decide_eq_true_eq] at *; exact List.le_antisymm h1 h2) nd hm

/-! ### the operator -/
def rSS (K : PySem.W.Frag) (P : Program) (w : World) : V → Hp → VK → Prop := fun x H Q => rSetKs K P w [x] H fun y H2 => rSortKs P w [y] H2 Q
theorem kV_ints (is : List Int) : (is.map (Sum.inl : Int → Key)).map kV = is.map V.int := by rw [List.map_map]; rfl
theorem kV_strs (ts : List Tx) : (ts.map fun x => (Sum.inr (sv x) : Key)).map kV = (ts.map sv).map V.str := by rw [List.map_map, List.map_map]; rfl
theorem ss_fin {G : Gx} {P : Program} {w : World} {F : Fz} {H : Hp} {x : V} {L : List Addr} {ks : List Key} {ds : List D} {Q : VK} (hw : Own F H L) (hd : Done G F H L (.lst ds) Q) (hk : KeysAt G.K H x ks) (hl : ks.length ≤ 4000) (hal : PySem.W.AllAlike (ks.map pyK))
    (hs : ∀ ms : List Key, ms.Nodup → (∀ k, k ∈ ms ↔ k ∈ ks) → Rfs G F ((ms.mergeSort (PySem.W.dataLe false pyK)).map kV) ds) : rSS G.K P w x H Q := by
  refine ⟨x, ks, rfl, hk, by omega, fun p hp => ⟨p, ks, rfl, upd_same, hal, fun ms q nd hm hq => ?_⟩⟩
  have hq' : H q = none := by
    by_cases e : q = p
    · subst e; exact hp
    · rw [upd_ne e] at hq; exact hq
  have hne : q ≠ p := fun e => by subst e; rw [upd_same] at hq; cases hq
  have w1 : Own F (upd H p (SKo P w p ks)) L := (hw.new hp).sub (by intro a; rw [List.count_cons]; omega)
  refine hd _ F _ [q] .refl (fun a ha => ?_) (.lst upd_same (hs ms nd hm)) (w1.new hq)
  have n1 : a ≠ q := fun z => ha (by rw [z]; exact hq')
  have n2 : a ≠ p := fun z => ha (by rw [z]; exact hp)
  rw [upd_ne n1, upd_ne n2]
theorem alike_ik (is : List Int) : PySem.W.AllAlike ((is.map (Sum.inl : Int → Key)).map pyK) := fun d hd d' hd' => by
  obtain ⟨k, h1, rfl⟩ := List.mem_map.mp hd
  obtain ⟨i, _, rfl⟩ := List.mem_map.mp h1
  obtain ⟨k', h1', rfl⟩ := List.mem_map.mp hd'
  obtain ⟨j, _, rfl⟩ := List.mem_map.mp h1'
  exact py_alike (.int i) (.int j) rfl
theorem alike_sk (ts : List Tx) : PySem.W.AllAlike ((ts.map fun x => (Sum.inr (sv x) : Key)).map pyK) := fun d hd d' hd' => by
  obtain ⟨k, h1, rfl⟩ := List.mem_map.mp hd
  obtain ⟨i, _, rfl⟩ := List.mem_map.mp h1
  obtain ⟨k', h1', rfl⟩ := List.mem_map.mp hd'
  obtain ⟨j, _, rfl⟩ := List.mem_map.mp h1'
  exact py_alike (.str i) (.str j) rfl
theorem ss_ok {G : Gx} {P : Program} {w : World} : Op1Ok G (rSS G.K P w) (bi1 .sortset) := by
  intro F H x ox Sx L o Q rx hw e hd
  simp only [bi1] at e
  obtain ⟨l, e1, e2⟩ := Option.bind_eq_some_iff.mp e
  split at e2
  · rename_i c
    -- what stands there, as keys
    have src : ∀ ks : List Key, (∀ xs, Rfs G F xs l → xs = ks.map kV) → (∀ z, ox.d = .str z → ks = z.map fun c => .inr (sv [c])) → KeysAt G.K H x ks := by
      intro ks h1 h2
      cases hx : ox.d with
      | lst l' =>
        rw [hx] at e1; cases e1
        obtain ⟨p, xs, rfl, hp, hxs⟩ := rx.lst' hw.le hx
        exact .inl ⟨p, rfl, .inl (by rw [← h1 xs hxs]; exact .of hp)⟩
      | tup l' =>
        rw [hx] at e1; cases e1
        obtain ⟨p, xs, rfl, hp, hxs⟩ := rx.tup hw.le hx
        exact .inl ⟨p, rfl, .inr (by rw [← h1 xs hxs]; exact hp)⟩
      | str z =>
        cases rx.str hx
        exact .inr ⟨_, rfl, by rw [h2 z hx, sv_cps]⟩
      | scr l' =>
        rw [hx] at e1; cases e1
        obtain ⟨p, rfl, hp⟩ := rx.scr' hw.le hx
        exact .inl ⟨p, rfl, .inl (by rw [← h1 _ Rfs.of_ints]; exact hp)⟩
      | _ => rw [hx] at e1; simp [itemsV] at e1
    cases ei : allI l with
    | some is =>
      rw [ei] at e2
      cases e2
      have hl := allI_some ei
      subst hl
      refine ss_fin hw hd (src (is.map .inl) (fun xs hxs => by rw [kV_ints]; exact hxs.ints) fun z hz => ?_) (by rw [List.length_map] at c ⊢; exact c) (alike_ik is) fun ms nd hm => ?_
      · rw [hz] at e1
        simp only [itemsV, Option.some.injEq] at e1
        cases z with
        | nil => cases is with
          | nil => rfl
          | cons i is => simp at e1
        | cons c z => cases is with
          | nil => simp at e1
          | cons i is => simp at e1
      · rw [ss_int nd hm, kV_ints]; exact Rfs.of_ints
    | none =>
      rw [ei] at e2
      obtain ⟨ts, es, e2⟩ := Option.bind_eq_some_iff.mp e2
      cases e2
      have hl := allS_some es
      subst hl
      refine ss_fin hw hd (src (ts.map fun x => .inr (sv x)) (fun xs hxs => by rw [kV_strs]; exact hxs.strs) fun z hz => ?_) (by rw [List.length_map] at c ⊢; exact c) (alike_sk ts) fun ms nd hm => ?_
      · rw [hz] at e1
        simp only [itemsV, Option.some.injEq] at e1
        have : ts = z.map fun c => [c] := by
          have h1 : (z.map fun c => [c]).map D.str = ts.map D.str := by rw [List.map_map]; exact e1
          exact (List.map_inj_right (fun a b h => by cases h; rfl)).mp h1.symm
        rw [this, List.map_map]; rfl
      · rw [ss_str nd hm, kV_strs]; exact Rfs.of_strs
  · cases e2
end Ev
end
section
set_option Elab.async false
set_option linter.all false
set_option maxRecDepth 100000
set_option maxHeartbeats 3200000
/-! EvR3: sorted(d) of a dict, any number of keys. -/
namespace Ev
open PySem L2 PyProof.Rows
def rSortDk : List V → Hp → VK → Prop := fun xs H Q => ∃ (a : Addr) (kvs : List (Key × V)), xs = [.ref a] ∧ Rd H a (.dK kvs) ∧ PySem.W.AllAlike ((kvs.map (·.1)).map pyK) ∧
  ∀ p, H p = none → Q (.ref p) (upd H p (.lst (((kvs.map (·.1)).mergeSort (PySem.W.dataLe false pyK)).map kV)))
theorem keyV_of {k : Key} {v : Value} (h : keyIs k v = true) : keyV v = k := (keyIs_V h).1
theorem cr_sortDk {X : Cx} (hc : X.calm = true) (hu : X.A.units + 64 < cLine) : CallR X (.builtin "sorted") rSortDk := by
  intro pins s σ H xs us Q I r h
  obtain ⟨a, kvs, rfl, hd, hal, q⟩ := h
  obtain ⟨u, rfl, ru⟩ := Vals.one r
  cases ru
  obtain ⟨z, lo, vs, rel, dd⟩ := dk_rd I.hok hd
  obtain ⟨ep, hat⟩ := dd.dictAt
  have hkeys : vs.map (·.1) = kvs.map (·.1) := rel.keys.symm
  have hl : vs.length = kvs.length := by
    have e := congrArg List.length hkeys
    rw [List.length_map, List.length_map] at e
    exact e
  have h16 : vs.length ≤ sizeLine := by rw [hl]; exact z
  refine Calls.call_function_entry PyProof.Rows.kind_sorted PyProof.Rows.plain_sorted PyProof.Rows.entry_sorted (PyProof.Rows.args_sorted1 _) ?_
  unfold Builtin.«sorted»
  refine wpAny_bind (m := checkCount "sorted" 1 1 _) (wpAny_pure ?_)
  refine wpAny_bind (PySem.W.kdu_collect (A := X.A.in1) (PySem.W.kdl_dict (knd := mixKind X.prog X.w) (kvs := vs) (ep := ep) lo) (I.ok.hd hc) hat h16 fun h' tk acc hk hacc => ?_)
  have hall : acc.toList.length = kvs.length := by rw [Array.length_toList, hacc.1, hl]
  have hat2 : ∀ (j : Nat) (v : Value), acc.toList[j]? = some v → ∃ k, (kvs.map (·.1))[j]? = some k ∧ keyIs k v = true := fun j v e => by
    obtain ⟨k, x, e1, e2⟩ := hacc.2 j v (by rw [← Array.getElem?_toList]; exact e)
    refine ⟨k, ?_, e2⟩
    rw [← hkeys, List.getElem?_map, e1]; rfl
  have hkv : ∀ v ∈ acc.toList, keyIs (keyV v) v = true := fun v hv => by
    obtain ⟨j, e⟩ := List.getElem?_of_mem hv
    obtain ⟨k, _, e2⟩ := hat2 j v e
    rw [keyV_of e2]; exact e2
  have hmap : acc.toList.map keyV = kvs.map (·.1) := by
    apply List.ext_getElem?
    intro j
    rw [List.getElem?_map]
    cases e : acc.toList[j]? with
    | none =>
      have : acc.toList.length ≤ j := List.getElem?_eq_none_iff.mp e
      rw [List.getElem?_eq_none (by rw [List.length_map]; omega)]; rfl
    | some v =>
      obtain ⟨k, e1, e2⟩ := hat2 j v e
      rw [e1, Option.map_some, keyV_of e2]
  have I1 : Inv X pins σ H { s with heap := h', toks := tk } := I.kept hk
  refine wpAny_bind (wpAny_newList ?_ (by rw [hall]; exact z))
  have hoL : (h'.push (seqObj "list" acc.toList.toArray 0)).get? h'.objs.size = some (seqObj "list" acc.toList.toArray 0) := Heap.get?_push_size _ rfl
  show wpAny _ _ _ _ _ { s with heap := h'.push (seqObj "list" acc.toList.toArray 0), toks := tk }
  obtain ⟨e1, e2⟩ := each_keys (h := h'.push (seqObj "list" acc.toList.toArray 0)) (b := h'.objs.size) hkv
  rw [hmap] at e1 e2
  have hso : PySem.W.Sortable ((kvs.map (·.1)).map pyK) := .inr fun d hd => by
    obtain ⟨k, h1, rfl⟩ := List.mem_map.mp hd
    cases k <;> exact ⟨by simp [pyK], by simp [pyK]⟩
  refine wpAny_bind (wpAny_holding (PySem.W.list_sort_data (s := { s with heap := h'.push (seqObj "list" acc.toList.toArray 0), toks := tk }) hoL e1 e2 hal hso (by rw [List.length_map]; exact z) (fun b _ => ?_) fun out hlo he => ?_))
  · rw [pyK_depth]
    have : X.A.in1.units ≤ X.A.units + 1 := by first | exact Nat.le_refl _ | simp [Around.in1]
    omega
  obtain ⟨c, hc2⟩ := PyProof.Rows.sortedHeap_at (vs := acc.toList) (out := out.toArray) hoL
  have rv := each_vals2 he
  have hlen : (((kvs.map (·.1)).mergeSort (PySem.W.dataLe false pyK)).map kV).length ≤ sizeLine := by
    rw [List.length_map, List.length_mergeSort, List.length_map]; exact z
  refine wpAny_pure ⟨_, rfl, .ref h'.objs.size, upd H h'.objs.size (.lst (((kvs.map (·.1)).mergeSort (PySem.W.dataLe false pyK)).map kV)), I1.laid (t' := tk) (fun b u e => ?_) (Nat.le_refl _)
    (show ObjOk X.prog X.w _ _ _ (.lst _) from ⟨hlen, out, c, rv, hc2⟩), rfl, q _ (I1.hok.fresh (Nat.le_refl _))⟩
  have hb : b < h'.objs.size := Heap.lt_size e
  rw [PyProof.Rows.sortedHeap_old (Nat.ne_of_lt hb) (by rw [size_push']; exact Nat.lt_succ_of_lt hb)]
  exact Heap.get?_push_of_some _ e
theorem rkv_keys {G : Gx} {F : Fz} : ∀ {kvs : List (Key × V)} {ds : List (D × D)}, Rkv G F kvs ds → ds.map (·.1) = (kvs.map (·.1)).map keyD
  | _, _, .nil => rfl
  | _, _, .cons _ t => by rw [List.map_cons, List.map_cons, List.map_cons, rkv_keys t]
theorem keys_int : ∀ {ks : List Key} {is : List Int}, ks.map keyD = is.map .int → ks = is.map .inl
  | [], [], _ => rfl
  | k :: ks, i :: is, h => by
    rw [List.map_cons, List.map_cons] at h
    injection h with h1 h2
    rw [keys_int h2, List.map_cons]
    cases k with
    | inl j => cases h1; rfl
    | inr x => cases h1
  | [], _ :: _, h => by cases h
  | _ :: _, [], h => by cases h
theorem keys_str : ∀ {ks : List Key} {ts : List Tx}, ks.map keyD = ts.map .str → ks = ts.map fun x => .inr (sv x)
  | [], [], _ => rfl
  | k :: ks, t :: ts, h => by
    rw [List.map_cons, List.map_cons] at h
    injection h with h1 h2
    rw [keys_str h2, List.map_cons]
    cases k with
    | inl j => cases h1
    | inr x =>
      have h1 : D.str x.cps.toList = D.str t := h1
      cases h1
      rw [sv_list]
  | [], _ :: _, h => by cases h
  | _ :: _, [], h => by cases h
theorem sortdk_ok {G : Gx} : Op1Ok G (fun x H Q => rSortDk [x] H Q) (bi1 .sortdk) := by
  intro F H x ox Sx L o Q rx w e hd
  cases hx : ox.d with
  | dct l =>
    rw [hx] at e
    simp only [bi1] at e
    obtain ⟨a, xs, rfl, ha, hxs⟩ := rx.dct' w.le hx
    have hk := rkv_keys hxs
    cases ei : allI (l.map (·.1)) with
    | some is =>
      rw [ei] at e
      cases e
      have h1 := keys_int (hk.symm.trans (allI_some ei))
      refine ⟨a, xs, rfl, ha, by rw [h1]; exact alike_ik is, fun p hp => ?_⟩
      rw [h1, ← List.map_mergeSort (r := fun a b => decide (a ≤ b)) (s := PySem.W.dataLe false pyK) (f := .inl) fun a _ b _ => (dle_int a b).symm, kV_ints]
      exact hd.lst w hp Rfs.of_ints
    | none =>
      rw [ei] at e
      obtain ⟨ts, es, e2⟩ := Option.bind_eq_some_iff.mp e
      cases e2
      have h1 := keys_str (hk.symm.trans (allS_some es))
      refine ⟨a, xs, rfl, ha, by rw [h1]; exact alike_sk ts, fun p hp => ?_⟩
      rw [h1, ← List.map_mergeSort (r := fun a b => decide (a ≤ b)) (s := PySem.W.dataLe false pyK) (f := fun x => .inr (sv x)) fun a _ b _ => (dle_str a b).symm, kV_strs]
      exact hd.lst w hp Rfs.of_strs
  | _ => rw [hx] at e; simp [bi1] at e
end Ev
end
section
set_option Elab.async false
set_option linter.all false
set_option maxRecDepth 100000
set_option maxHeartbeats 1000000
/-! EvL: targets, comprehensions. -/
namespace Ev
open PySem L2 PyProof.Rows RZ
section
variable {G : Gx} {X : Cx} {σ : L2.St} {H : Hp} {α β W : Type}

/-- slots agree outside vs -/
def Agree (σ σ' : L2.St) (vs : List Nat) : Prop := σ'.length = σ.length ∧ ∀ i, i ∉ vs → σ'[i]? = σ[i]?
theorem Agree.refl {σ : L2.St} {vs : List Nat} : Agree σ σ vs := ⟨rfl, fun _ _ => rfl⟩
theorem Agree.trans {σ σ' σ'' : L2.St} {vs ws us : List Nat} (h : Agree σ σ' vs) (h' : Agree σ' σ'' ws) (h1 : ∀ i ∈ vs, i ∈ us) (h2 : ∀ i ∈ ws, i ∈ us) : Agree σ σ'' us :=
  ⟨h'.1.trans h.1, fun i hi => (h'.2 i fun z => hi (h2 i z)).trans (h.2 i fun z => hi (h1 i z))⟩
theorem Agree.set {σ : L2.St} {i : Nat} {v : Option V} : Agree σ (σ.set i v) [i] := ⟨by simp, fun j hj => by
  rw [List.getElem?_set_ne]
  intro z; subst z; simp at hj⟩
theorem ewipe_get (σ : L2.St) : ∀ (vs : List Nat) (i : Nat), i ∈ vs → i < σ.length → (L2.wipe σ vs)[i]? = some none
  | [], i, h, _ => by simp at h
  | v :: vs, i, h, hl => by
    rw [L2.wipe, List.getElem?_set]
    by_cases e : v = i
    · subst e; rw [if_pos rfl, if_pos (by rw [wipe_length]; exact hl)]
    · rw [if_neg e]
      rcases List.mem_cons.mp h with z | z
      · exact absurd z.symm e
      · exact ewipe_get σ vs i z hl
theorem wipe_agree {σ σ' : L2.St} {vs : List Nat} (h : Agree σ σ' vs) : L2.wipe σ' vs = L2.wipe σ vs := by
  apply List.ext_getElem?
  intro i
  by_cases hi : i ∈ vs
  · by_cases hl : i < σ.length
    · rw [ewipe_get _ _ _ hi hl, ewipe_get _ _ _ hi (by rw [h.1]; exact hl)]
    · have h1 := h.1
      rw [List.getElem?_eq_none (by rw [wipe_length]; omega), List.getElem?_eq_none (by rw [wipe_length]; omega)]
  · rw [wipe_get _ _ _ hi, wipe_get _ _ _ hi, h.2 i hi]
theorem wipe_is_agree (σ : L2.St) (vs : List Nat) : Agree σ (L2.wipe σ vs) vs := ⟨wipe_length _ _, fun i hi => wipe_get σ vs i hi⟩

/-- THE STEP, whatever is asked behind it -/
theorem step' {rep : Fz → Hp → W → α → List Addr → Prop} {P : Res β → Prop} (hb : ¬ P .bad) (hx : ∀ x ρ, ¬ P (.exc x ρ)) {g : Env → Res α} {k : α → Env → Res β} {ρ : Env} {F : Fz} {S T R : List Addr}
    (hs : St' G F H σ ρ S) (hw : Own F H (T ++ (S ++ R))) (hp : P ((g ρ).bd k)) :
    TR G rep g σ H fun w H1 => ∃ a ρ1 F1 S1 Sv, FLe F F1 ∧ (∀ x ∈ T ++ R, H1 x = H x) ∧ St' G F1 H1 σ ρ1 S1 ∧ rep F1 H1 w a Sv ∧ Own F1 H1 (Sv ++ (T ++ (S1 ++ R))) ∧ P (k a ρ1) := by
  cases e : g ρ with
  | bad => rw [e] at hp; exact absurd hp hb
  | exc x ρ' => rw [e] at hp; exact absurd hp (hx x ρ')
  | ok a ρ1 =>
    rw [e] at hp
    refine ⟨ρ, F, S, T ++ R, hs, hw.sub (by intro a; simp only [List.count_append]; omega), ?_⟩
    rw [e]
    intro w F1 H1 S1 Sv h1 h2 h3 h4 h5
    exact ⟨a, ρ1, F1, S1, Sv, h1, h2, h3, h4, h5.sub (by intro a; simp only [List.count_append]; omega), hp⟩
theorem Res.bd_ok {a : α} {ρ : Env} {f : α → Env → Res β} : (Res.ok a ρ).bd f = f a ρ := rfl
theorem Res.bd_assoc {γ : Type} (r : Res α) (f : α → Env → Res β) (g : β → Env → Res γ) : (r.bd f).bd g = r.bd fun a ρ => (f a ρ).bd g := by cases r <;> rfl

/-! ### targets -/
def TGo (G : Gx) (g : Tg) : TG := fun v σ H Q => ∃ o ρ ρ' F Sv S R, Ro G F H v o Sv ∧ St' G F H σ ρ S ∧ Own F H (Sv ++ (S ++ R)) ∧ Tg.put g o ρ = some ρ' ∧ ∀ σ' S', St' G F H σ' ρ' S' → Own F H (S' ++ R) → Agree σ σ' g.sets → Q σ' H
def TGso (G : Gx) (gs : Tgs) : TGs := fun vs σ H Q => ∃ ds ρ ρ' F S R, Rfs G F vs ds ∧ St' G F H σ ρ S ∧ Own F H (S ++ R) ∧ Tgs.put gs ds ρ = some ρ' ∧ ∀ σ' S', St' G F H σ' ρ' S' → Own F H (S' ++ R) → Agree σ σ' gs.sets → Q σ' H
theorem pg_weak {e : Expr} {t t' : TG} (h : PG X e t) (k : ∀ v σ H Q, t' v σ H Q → t v σ H Q) : PG X e t' := ⟨fun pins s σ H v u Q I r q => h.run pins s σ H v u Q I r (k v σ H Q q)⟩
theorem pgs_weak {e : List Expr} {t t' : TGs} (h : PGs X e t) (k : ∀ v σ H Q, t' v σ H Q → t v σ H Q) : PGs X e t' := ⟨fun pins s σ H v u Q I r q => h.run pins s σ H v u Q I r (k v σ H Q q)⟩
theorem set_out {γ : Type} {l : List γ} {i : Nat} {v : γ} (h : ¬ i < l.length) : l.set i v = l := List.set_eq_of_length_le (by omega)
/-- a slot is written, in range or not -/
theorem St'.put' {F : Fz} {ρ : Env} {S : List Addr} (hs : St' G F H σ ρ S) (i : Nat) {v : V} {o : OV} {Sv : List Addr} (q : Ro G F H v o Sv) : ∃ S', St' G F H (σ.set i (some v)) (ρ.put i o) S' ∧ ∀ a, S'.count a ≤ Sv.count a + S.count a := by
  by_cases h : i < σ.length
  · exact hs.put h q
  · rw [set_out h]
    have e : ρ.put i o = ρ := set_out (by rw [← hs.length]; exact h)
    rw [e]
    exact ⟨S, hs, fun a => Nat.le_add_left _ _⟩
theorem tg_nm {v : V} {i : Nat} {Q : L2.St → Hp → Prop} (h : TGo G (.nm i) v σ H Q) : gName i v σ H Q := by
  obtain ⟨o, ρ, ρ', F, Sv, S, R, rv, hs, hw, e, k⟩ := h
  simp only [Tg.put] at e
  cases e
  obtain ⟨S', h1, h2⟩ := hs.put' i rv
  exact k _ S' h1 (hw.sub (by intro a; have := h2 a; simp only [List.count_append]; omega)) Agree.set
theorem tgs_nil {vs : List V} {Q : L2.St → Hp → Prop} (h : TGso G .nil vs σ H Q) : gNil vs σ H Q := by
  obtain ⟨ds, ρ, ρ', F, S, R, rv, hs, hw, e, k⟩ := h
  cases ds with
  | nil => simp only [Tgs.put] at e; cases e; cases rv; exact ⟨rfl, k σ S hs hw .refl⟩
  | cons d ds => simp [Tgs.put] at e
theorem tgs_cons {t : Tg} {l : Tgs} {vs : List V} {Q : L2.St → Hp → Prop} (h : TGso G (.cons t l) vs σ H Q) : gCons (TGo G t) (TGso G l) vs σ H Q := by
  obtain ⟨ds, ρ, ρ', F, S, R, rv, hs, hw, e, k⟩ := h
  cases ds with
  | nil => simp [Tgs.put] at e
  | cons d ds =>
    simp only [Tgs.put] at e
    obtain ⟨ρ1, e1, e2⟩ := Option.bind_eq_some_iff.mp e
    cases rv with
    | @cons v vs _ _ r rs =>
      refine ⟨v, vs, rfl, .fz d, ρ, ρ1, F, [], S, R, .fz r, hs, by simpa using hw, e1, fun σ' S' h1 h2 h3 => ?_⟩
      refine ⟨ds, ρ1, ρ', F, S', R, rs, h1, h2, e2, fun σ'' S'' g1 g2 g3 => k σ'' S'' g1 g2 (h3.trans g3 (fun i hi => ?_) fun i hi => ?_)⟩
      · simp only [Tgs.sets, List.mem_append]; exact .inl hi
      · simp only [Tgs.sets, List.mem_append]; exact .inr hi
def Tgs.len : Tgs → Nat
  | .nil => 0
  | .cons _ l => l.len + 1
theorem put_len : ∀ {l : Tgs} {ds : List D} {ρ ρ' : Env}, Tgs.put l ds ρ = some ρ' → ds.length = l.len
  | .nil, [], _, _, _ => rfl
  | .nil, d :: ds, _, _, e => by simp [Tgs.put] at e
  | .cons t l, [], _, _, e => by simp [Tgs.put] at e
  | .cons t l, d :: ds, ρ, ρ', e => by
    simp only [Tgs.put] at e
    obtain ⟨ρ1, e1, e2⟩ := Option.bind_eq_some_iff.mp e
    simp [Tgs.len, put_len e2]
theorem tg_tp {l : Tgs} {v : V} {Q : L2.St → Hp → Prop} (h : TGo G (.tp l) v σ H Q) : gTup G.K l.len (TGso G l) v σ H Q := by
  obtain ⟨o, ρ, ρ', F, Sv, S, R, rv, hs, hw, e, k⟩ := h
  cases o with
  | fz d =>
    cases d with
    | tup ds =>
      simp only [Tg.put] at e
      obtain ⟨rfl, r⟩ := ro_bl rv
      obtain ⟨a, xs, rfl, rs, st⟩ := r.seqT
      refine ⟨a, xs, rfl, st F H .refl hw.le, by rw [rs.length, put_len e], ds, ρ, ρ', F, S, R, rs, hs, by simpa using hw, e, fun σ' S' h1 h2 h3 => k σ' S' h1 h2 ?_⟩
      simpa [Tg.sets] using h3
    | _ => simp [Tg.put] at e
  | _ => simp [Tg.put] at e

/-! ### [.. for .. in ..] -/
abbrev lcF (g : Tg) (own : List Nat) (gt : Env → Res Bool) (ge : Env → Res OV) : D → Env → Res (Option D) := fun d ρb => (Res.of (Tg.put g (.fz d) (Ev.wipe ρb own)) ρb).bd fun ρg _ =>
  (gt ρg).bd fun b ρ => if b then (ge ρ).bd fun o ρ => .ok (some o.d) (Ev.unwipe ρb ρ own) else .ok none (Ev.unwipe ρb ρ own)
theorem tlc {g : Tg} {own : List Nat} {gi : Env → Res (List D)} {gt : Env → Res Bool} {ge : Env → Res OV} (hg : ∀ i ∈ g.sets, i ∈ own) : ∀ Q, TEo G (fun ρ => (gi ρ).bd fun ds ρ => (lcGo (lcF g own gt ge) ds [] ρ).bd fun l ρ' => .ok (.lst l) ρ') σ H Q →
    tLc (TIo G gi) (TGo G g) (TTo G gt) (TEo G ge) own σ H Q := by
  rintro Q ⟨ρ0, F0, S0, R, hs0, hw0, hp0⟩
  show TIo G gi σ H _
  obtain ⟨ρ', F', S', R', a1, a2, a3⟩ := step (G := G) (rep := repI G) (T := []) hs0 hw0 hp0
  refine ⟨ρ', F', S', R', a1, a2, a3.imp ?_⟩
  rintro J H1 ⟨ds, ρ1, F1, S1, Sx, hF1, _, hs1, ⟨jok, rfl⟩, hw1, hp1⟩ D hD
  have hw1 : Own F1 H1 (S1 ++ R) := by simpa using hw1
  refine ⟨fun i m H => m = ds.length - i ∧ i ≤ ds.length ∧ ∃ ρ F S acc xs, St' G F H σ ρ S ∧ FLe F1 F ∧ H D = some (.lst xs) ∧ Rfs G F xs acc ∧ Own F H (D :: (S ++ R)) ∧
    Post G (repE G) σ R F H Q ((lcGo (lcF g own gt ge) (ds.drop i) acc ρ).bd fun l ρ' => .ok (.lst l) ρ'), ?_, ?_⟩
  · refine ⟨ds.length, by simp, Nat.zero_le _, ρ1, F1, S1, [], [], hs1.laid hD fun a ha => (hw1.fr a (by simp [ha])).2, .refl, upd_same, .nil, hw1.new hD, ?_⟩
    exact hp1.rebase .refl fun x hx => upd_ne fun z => (hw1.fr x (by simp [hx])).2 (z ▸ hD)
  · rintro i m H ⟨rfl, hi, ρ, F, S, acc, xs, hs, hF, hDx, hxs, hw, hp⟩
    have hJ := jok F H hF hw.le
    by_cases hlt : i < ds.length
    · refine .inr ⟨hJ.1 i hlt, fun H => i + 1 ≤ ds.length ∧ ∃ ρ F S acc xs, St' G F H σ ρ S ∧ FLe F1 F ∧ H D = some (.lst xs) ∧ Rfs G F xs acc ∧ Own F H (D :: (S ++ R)) ∧
        Post G (repE G) σ R F H Q ((lcGo (lcF g own gt ge) (ds.drop (i + 1)) acc ρ).bd fun l ρ' => .ok (.lst l) ρ'), fun H' h => ⟨ds.length - (i + 1), by omega, rfl, h.1, h.2⟩, fun x H' hy => ?_⟩
      obtain ⟨F2, hF2, rx, hw2, hk2⟩ := hJ.2.2 i ds[i] x H' (List.getElem?_eq_getElem hlt) hy _ hw
      rw [List.drop_eq_getElem_cons hlt] at hp
      simp only [lcGo, Res.bd_assoc] at hp
      have hkS : ∀ a ∈ D :: (S ++ R), H' a = H a := fun a ha => hk2 a (hw.fr a ha).2
      have hs2 : St' G F2 H' σ ρ S := hs.mono hF2 fun a ha => hkS a (by simp [ha])
      have hp := hp.rebase hF2 fun a ha => hkS a (by simp [ha])
      have hDx2 : H' D = some (.lst xs) := (hkS D (by simp)).trans hDx
      have hxs2 := hxs.mono hF2
      cases eg : Tg.put g (.fz ds[i]) (Ev.wipe ρ own) with
      | none => simp only [lcF, eg, Res.of, Res.bd] at hp; exact False.elim hp
      | some ρg =>
        simp only [lcF, eg, Res.of, Res.bd_assoc, Res.bd_ok] at hp
        obtain ⟨Sw, hsw, hcw⟩ := hs2.wipe own
        refine ⟨.fz ds[i], Ev.wipe ρ own, ρg, F2, [], Sw, D :: R, .fz rx, hsw, hw2.sub (by intro a; have := hcw a; simp only [List.count_append, List.count_cons, List.nil_append] at this ⊢; omega), eg, fun σ2 S2 hs2' hw2' hag => ?_⟩
        have hag' : L2.wipe σ2 own = L2.wipe σ own := by
          have h1 : Agree σ σ2 own := (wipe_is_agree σ own).trans hag (fun _ h => h) hg
          exact wipe_agree h1
        refine ⟨hag', ?_⟩
        change Post G (repE G) σ R F2 H' Q ((gt ρg).bd fun b ρ_1 => _) at hp
        -- the tests
        obtain ⟨ρ', F', S', R', a1, a2, a3⟩ := step' (G := G) (H := H') (P := fun r => Post G (repE G) σ R F2 H' Q r) (rep := repT) (T := []) (fun h => h) (fun _ _ h => h) hs2' (by simpa using hw2') hp
        refine ⟨ρ', F', S', R', a1, a2, a3.imp ?_⟩
        rintro b H3 ⟨b', ρ3, F3, S3, Sz, hF3, hT3, hs3, ⟨rfl, rfl⟩, hw3, hp3⟩
        have hk3 : ∀ a ∈ D :: R, H3 a = H' a := fun a ha => hT3 a (by simpa using ha)
        have hw3 : Own F3 H3 (S3 ++ (D :: R)) := by simpa using hw3
        cases b with
        | false =>
          simp only [Bool.false_eq_true, if_false, Res.bd_ok] at hp3 ⊢
          obtain ⟨S4, hs4, hc4⟩ := hs2.unwipe hs3 hF3 hag'
          refine ⟨hlt, _, F3, S4, acc, xs, hs4, (hF.trans hF2).trans hF3, (hk3 D (by simp)).trans hDx2, hxs2.mono hF3, hw3.sub (by intro a; have := hc4 a; simp only [List.count_append, List.count_cons] at this ⊢; omega), ?_⟩
          exact Post.rebase hp3 hF3 fun a ha => hk3 a (by simp [ha])
        | true =>
          simp only [if_true, Res.bd_assoc] at hp3 ⊢
          obtain ⟨ρ', F', S', R', a1, a2, a3⟩ := step' (G := G) (H := H3) (P := fun r => Post G (repE G) σ R F2 H' Q r) (rep := repE G) (T := []) (fun h => h) (fun _ _ h => h) hs3 (by simpa using hw3) hp3
          refine ⟨ρ', F', S', R', a1, a2, a3.imp ?_⟩
          rintro y H4 ⟨o, ρ4, F4, S4, Sy, hF4, hT4, hs4, ry, hw4, hp4⟩
          have hk4 : ∀ a ∈ D :: R, H4 a = H3 a := fun a ha => hT4 a (by simpa using ha)
          obtain ⟨F5, hF5, ry, hw5⟩ := ry.freeze hw4
          have hw5 : Own F5 H4 (S4 ++ (D :: R)) := by simpa using hw5
          have hs5 := hs4.mono hF5 fun _ _ => rfl
          obtain ⟨S6, hs6, hc6⟩ := hs2.unwipe hs5 ((hF3.trans hF4).trans hF5) hag'
          have hD4 : H4 D = some (.lst xs) := (hk4 D (by simp)).trans ((hk3 D (by simp)).trans hDx2)
          simp only [Res.bd_ok] at hp4
          split at hp4
          · rename_i c
            have hne : ∀ a ∈ S6 ++ R, a ≠ D := fun a ha z => by
              subst z
              have h1 := hw5.one a
              have h2 := List.count_pos_iff.mpr ha
              have h3 := hc6 a
              simp only [List.count_append, List.count_cons] at h1 h2
              simp at h1
              omega
            refine ⟨xs, hD4, by rw [hxs.length, line_eq]; exact c, hlt, _, F5, S6, acc ++ [o.d], xs ++ [y], hs6.mono .refl fun a ha => upd_ne (hne a (by simp [ha])), ((hF.trans hF2).trans hF3).trans (hF4.trans hF5), upd_same, ?_, ?_, ?_⟩
            · exact ((hxs2.mono hF3).mono (hF4.trans hF5)).append (.cons ry .nil)
            · exact (hw5.sub (by intro a; have := hc6 a; simp only [List.count_append, List.count_cons] at this ⊢; omega)).write (by simp)
            · exact Post.rebase hp4 ((hF3.trans hF4).trans hF5) fun a ha => (upd_ne (hne a (by simp [ha]))).trans ((hk4 a (by simp [ha])).trans (hk3 a (by simp [ha])))
          · exact False.elim hp4
    · have e : i = ds.length := by omega
      subst e
      refine .inl ⟨hJ.2.1 _ (Nat.le_refl _), ?_⟩
      rw [List.drop_length] at hp
      exact hp (.ref D) F H S [D] .refl (fun _ _ => rfl) hs (.lst hDx hxs) (by simpa using hw)
end
end Ev
end
section
set_option Elab.async false
set_option linter.all false
set_option maxRecDepth 100000
set_option maxHeartbeats 1000000
/-! EvM: statements. -/
namespace Ev
open PySem L2 PyProof.Rows RZ
section
variable {G : Gx} {X : Cx} {σ : L2.St} {H : Hp} {α β W : Type}

/-- behind a statement -/
def PostS (G : Gx) (vs : List Nat) (σ : L2.St) (R : List Addr) (F : Fz) (H : Hp) (D : Ends) : Res Flow → Prop
  | .ok fl ρ' => ∀ σ' F' H' S', FLe F F' → (∀ x ∈ R, H' x = H x) → Agree σ σ' vs → St' G F' H' σ' ρ' S' → (match fl with
    | .nx => Own F' H' (S' ++ R) → D.nx σ' H'
    | .brk => Own F' H' (S' ++ R) → D.bk σ' H'
    | .cnt => Own F' H' (S' ++ R) → D.ct σ' H'
    | .ret o => ∀ v Sv, Ro G F' H' v o Sv → Own F' H' (Sv ++ (S' ++ R)) → D.rt v H')
  | _ => False
def TSo (G : Gx) (vs : List Nat) (g : Env → Res Flow) : TS := fun D σ H => ∃ ρ F S R, St' G F H σ ρ S ∧ Own F H (S ++ R) ∧ PostS G vs σ R F H D (g ρ)
theorem PostS.rebase {vs : List Nat} {R : List Addr} {F F1 : Fz} {H1 : Hp} {D : Ends} {r : Res Flow} (h : PostS G vs σ R F H D r) (hF : FLe F F1) (hR : ∀ x ∈ R, H1 x = H x) : PostS G vs σ R F1 H1 D r := by
  cases r with
  | ok a ρ => exact fun σ' F' H' S' a1 a2 a3 a4 => h σ' F' H' S' (hF.trans a1) (fun x hx => (a2 x hx).trans (hR x hx)) a3 a4
  | exc x ρ => exact h
  | bad => exact h
theorem PostS.slots {vs : List Nat} {R : List Addr} {F : Fz} {D : Ends} {r : Res Flow} {σ1 : L2.St} (h : PostS G vs σ R F H D r) (ha : Agree σ σ1 vs) : PostS G vs σ1 R F H D r := by
  cases r with
  | ok a ρ => exact fun σ' F' H' S' a1 a2 a3 a4 => h σ' F' H' S' a1 a2 (ha.trans a3 (fun _ h => h) fun _ h => h) a4
  | exc x ρ => exact h
  | bad => exact h
theorem PostS.more {vs ws : List Nat} {R : List Addr} {F : Fz} {D : Ends} {r : Res Flow} (h : PostS G vs σ R F H D r) (hv : ∀ i ∈ ws, i ∈ vs) : PostS G ws σ R F H D r := by
  cases r with
  | ok a ρ => exact fun σ' F' H' S' a1 a2 a3 a4 => h σ' F' H' S' a1 a2 (Agree.refl (vs := []).trans a3 (fun _ h => absurd h (by simp)) hv) a4
  | exc x ρ => exact h
  | bad => exact h
theorem pb {vs : List Nat} {R : List Addr} {F : Fz} {D : Ends} : ¬ PostS G vs σ R F H D .bad := fun h => h
theorem px {vs : List Nat} {R : List Addr} {F : Fz} {D : Ends} : ∀ x ρ, ¬ PostS G vs σ R F H D (.exc x ρ) := fun _ _ h => h
/-- on: as things are now -/
theorem PostS.nx {vs : List Nat} {R S : List Addr} {F : Fz} {D : Ends} {ρ : Env} (h : PostS G vs σ R F H D (.ok .nx ρ)) (hs : St' G F H σ ρ S) (hw : Own F H (S ++ R)) : D.nx σ H := h σ F H S .refl (fun _ _ => rfl) .refl hs hw
theorem ps_weak {st : Stmt} {t t' : TS} (h : PS X st t) (k : ∀ D σ H, t' D σ H → t D σ H) : PS X st t' := ⟨fun pins s σ H D I q => h.run pins s σ H D I (k D σ H q)⟩
theorem pss_weak {st : List Stmt} {t t' : TS} (h : PSs X st t) (k : ∀ D σ H, t' D σ H → t D σ H) : PSs X st t' := ⟨fun pins s σ H D I q => h.run pins s σ H D I (k D σ H q)⟩

/-! ### small ones -/
theorem ts_ex {ge : Env → Res OV} : ∀ D, TSo G [] (fun ρ => (ge ρ).bd fun _ ρ => .ok .nx ρ) D σ H → tDrop (TEo G ge) D σ H := by
  rintro D ⟨ρ, F, S, R, hs, hw, hp⟩
  obtain ⟨ρ', F', S', R', a1, a2, a3⟩ := step' (G := G) (H := H) (P := PostS G [] σ R F H D) (rep := repE G) (T := []) pb px hs (by simpa using hw) hp
  refine ⟨ρ', F', S', R', a1, a2, a3.imp ?_⟩
  rintro x H1 ⟨ox, ρ1, F1, S1, Sx, hF1, hT, hs1, rx, hw1, hp1⟩
  exact (hp1.rebase hF1 (by simpa using hT)).nx hs1 (hw1.sub (by intro a; simp only [List.count_append]; simp))
theorem ts_set {g : Tg} {ge : Env → Res OV} : ∀ D, TSo G g.sets (fun ρ => (ge ρ).bd fun o ρ => (Res.of (Tg.put g o ρ) ρ).bd fun ρ' _ => .ok .nx ρ') D σ H → tAsg (TEo G ge) (TGo G g) D σ H := by
  rintro D ⟨ρ, F, S, R, hs, hw, hp⟩
  obtain ⟨ρ', F', S', R', a1, a2, a3⟩ := step' (G := G) (H := H) (P := PostS G g.sets σ R F H D) (rep := repE G) (T := []) pb px hs (by simpa using hw) hp
  refine ⟨ρ', F', S', R', a1, a2, a3.imp ?_⟩
  rintro x H1 ⟨o, ρ1, F1, S1, Sx, hF1, hT, hs1, rx, hw1, hp1⟩
  have hp1 := hp1.rebase hF1 (by simpa using hT)
  cases e : Tg.put g o ρ1 with
  | none => simp only [e, Res.of] at hp1; exact absurd hp1 pb
  | some ρ2 =>
    simp only [e, Res.of, Res.bd_ok] at hp1
    exact ⟨o, ρ1, ρ2, F1, Sx, S1, R, rx, hs1, by simpa using hw1, e, fun σ' S' h1 h2 h3 => hp1 σ' F1 H1 S' .refl (fun _ _ => rfl) h3 h1 h2⟩
theorem ts_par {i j : Nat} {ga gb : Env → Res OV} : ∀ D, TSo G [i, j] (fun ρ => (ga ρ).bd fun x ρ => (gb ρ).bd fun y ρ => .ok .nx ((ρ.put i x).put j y)) D σ H → tPar i j (tCons (TEo G ga) (tCons (TEo G gb) tNil)) D σ H := by
  rintro D ⟨ρ, F, S, R, hs, hw, hp⟩
  show TEo G ga σ H _
  obtain ⟨ρ', F', S', R', a1, a2, a3⟩ := step' (G := G) (H := H) (P := PostS G [i, j] σ R F H D) (rep := repE G) (T := []) pb px hs (by simpa using hw) hp
  refine ⟨ρ', F', S', R', a1, a2, a3.imp ?_⟩
  rintro x H1 ⟨ox, ρ1, F1, S1, Sx, hF1, hT, hs1, rx, hw1, hp1⟩
  show TEo G gb σ H1 _
  obtain ⟨ρ', F', S', R', a1, a2, a3⟩ := step' (G := G) (H := H1) (P := PostS G [i, j] σ R F H D) (rep := repE G) (T := Sx) pb px hs1 (by simpa using hw1) hp1
  refine ⟨ρ', F', S', R', a1, a2, a3.imp ?_⟩
  rintro y H2 ⟨oy, ρ2, F2, S2, Sy, hF2, hT2, hs2, ry, hw2, hp2⟩
  have hp2 := hp2.rebase (hF1.trans hF2) fun a ha => (hT2 a (by simp [ha])).trans (hT a (by simpa using ha))
  obtain ⟨S3, h1, h2⟩ := hs2.put' i (rx.mono hF2 fun a ha => hT2 a (by simp [ha]))
  obtain ⟨S4, h3, h4⟩ := h1.put' j ry
  refine ⟨x, y, rfl, ?_⟩
  refine hp2 _ F2 H2 S4 .refl (fun _ _ => rfl) ?_ h3 (hw2.sub (by intro a; have := h2 a; have := h4 a; simp only [List.count_append]; omega))
  exact Agree.trans Agree.set Agree.set (by simp) (by simp)
theorem ts_aug {i : Nat} {o : Op2} {ti : V → V → Hp → VK → Prop} {ge : Env → Res Opd} (ho : ∀ (a b : Int) (r : OV) (H : Hp) (Q : VK), bin2 o (.int a) (.int b) = some r → (∀ k, r = .fz (.int k) → Q (.int k) H) → ti (.int a) (.int b) H Q) (hi : ∀ a b r, bin2 o (.int a) (.int b) = some r → ∃ k, r = .fz (.int k)) :
    ∀ D, TSo G [i] (fun ρ => (match ρ.at i with
    | some x => (ge ρ).bd fun y ρ => (Res.of ((y.view ρ).bind fun y => augF o x y) ρ).bd fun r ρ => .ok .nx (ρ.put i r)
    | none => .bad)) D σ H → tAug i (TOo G ge) ti D σ H := by
  rintro D ⟨ρ, F, S, R, hs, hw, hp⟩
  dsimp only at hp
  cases q : ρ.at i with
  | none => simp only [q] at hp; exact absurd hp pb
  | some x =>
    simp only [q] at hp
    obtain ⟨v, S1, Sv, S2, h1, h2, h3, h4, h5⟩ := hs.get q
    refine ⟨v, h1, ?_⟩
    obtain ⟨ρ', F', S', R', a1, a2, a3⟩ := step' (G := G) (H := H) (P := PostS G [i] σ R F H D) (rep := repO G σ) (T := []) pb px hs (by simpa using hw) hp
    refine ⟨ρ', F', S', R', a1, a2, a3.imp ?_⟩
    rintro y H1 ⟨oy, ρ1, F1, S1, Sx, hF1, hT, hs1, ry, hw1, hp1⟩
    have hp1 := hp1.rebase hF1 (by simpa using hT)
    cases e : (oy.view ρ1).bind fun y => augF o x y with
    | none => simp only [e, Res.of] at hp1; exact absurd hp1 pb
    | some r =>
      simp only [e, Res.of, Res.bd_ok] at hp1
      obtain ⟨dy, e1, e2⟩ := Option.bind_eq_some_iff.mp e
      obtain ⟨vy, Sy', qy, rfl⟩ := ry.view hs1 e1
      cases x with
      | fz dx =>
        cases dx with
        | int a =>
          cases hy : vy.d with
          | int b =>
            rw [hy] at e2
            have e2 : bin2 o (.int a) (.int b) = some r := e2
            cases h2 with
            | fz h2 =>
              cases h2
              cases qy.int hy
              refine ho a b r H1 _ e2 fun k hk => ?_
              subst hk
              obtain ⟨S3, g1, g2⟩ := hs1.put' i (Ro.fz (H := H1) (Rf.int (G := G) (F := F1) k))
              exact hp1 _ F1 H1 S3 .refl (fun _ _ => rfl) Agree.set g1 (hw1.sub (by intro a; have := g2 a; simp only [List.count_append, List.count_nil] at this ⊢; omega))
          | _ => rw [hy] at e2; cases e2
        | _ => cases e2
      | _ => cases e2
theorem ts_retE {ge : Env → Res OV} : ∀ D, TSo G [] (fun ρ => (ge ρ).bd fun o ρ => .ok (.ret o) ρ) D σ H → tRet (TEo G ge) D σ H := by
  rintro D ⟨ρ, F, S, R, hs, hw, hp⟩
  obtain ⟨ρ', F', S', R', a1, a2, a3⟩ := step' (G := G) (H := H) (P := PostS G [] σ R F H D) (rep := repE G) (T := []) pb px hs (by simpa using hw) hp
  refine ⟨ρ', F', S', R', a1, a2, a3.imp ?_⟩
  rintro x H1 ⟨ox, ρ1, F1, S1, Sx, hF1, hT, hs1, rx, hw1, hp1⟩
  exact (hp1.rebase hF1 (by simpa using hT)) σ F1 H1 S1 .refl (fun _ _ => rfl) .refl hs1 x Sx rx (by simpa using hw1)
theorem ts_retN : ∀ D, TSo G [] (fun ρ => .ok (.ret (.fz .non)) ρ) D σ H → tRetN D σ H := by
  rintro D ⟨ρ, F, S, R, hs, hw, hp⟩
  exact hp σ F H S .refl (fun _ _ => rfl) .refl hs .non [] (.fz .non) (by simpa using hw)
theorem ts_pass : ∀ D, TSo G [] (fun ρ => .ok .nx ρ) D σ H → tNext D σ H := by
  rintro D ⟨ρ, F, S, R, hs, hw, hp⟩
  exact hp.nx hs hw
theorem ts_brk : ∀ D, TSo G [] (fun ρ => .ok .brk ρ) D σ H → tBreak D σ H := by
  rintro D ⟨ρ, F, S, R, hs, hw, hp⟩
  exact hp σ F H S .refl (fun _ _ => rfl) .refl hs hw
theorem ts_cnt : ∀ D, TSo G [] (fun ρ => .ok .cnt ρ) D σ H → tCont D σ H := by
  rintro D ⟨ρ, F, S, R, hs, hw, hp⟩
  exact hp σ F H S .refl (fun _ _ => rfl) .refl hs hw
theorem ts_if {gt : Env → Res Bool} {fa fb : Env → Res Flow} {va vb vs : List Nat} (ha : ∀ i ∈ va, i ∈ vs) (hb : ∀ i ∈ vb, i ∈ vs) : ∀ D, TSo G vs (fun ρ => (gt ρ).bd fun k ρ => if k then fa ρ else fb ρ) D σ H → tIfS (TTo G gt) (TSo G va fa) (TSo G vb fb) D σ H := by
  rintro D ⟨ρ, F, S, R, hs, hw, hp⟩
  obtain ⟨ρ', F', S', R', a1, a2, a3⟩ := step' (G := G) (H := H) (P := PostS G vs σ R F H D) (rep := repT) (T := []) pb px hs (by simpa using hw) hp
  refine ⟨ρ', F', S', R', a1, a2, a3.imp ?_⟩
  rintro k H1 ⟨b, ρ1, F1, S1, Sx, hF1, hT, hs1, ⟨rfl, rfl⟩, hw1, hp1⟩
  have hp1 := hp1.rebase hF1 (by simpa using hT)
  cases k with
  | true => simp only [if_true] at hp1 ⊢; exact ⟨ρ1, F1, S1, R, hs1, by simpa using hw1, hp1.more ha⟩
  | false => simp only [Bool.false_eq_true, if_false] at hp1 ⊢; exact ⟨ρ1, F1, S1, R, hs1, by simpa using hw1, hp1.more hb⟩
def seqF (f : Env → Res Flow) : Flow → Env → Res Flow := fun fl ρ => match fl with
    | .nx => f ρ
    | .brk => .ok .brk ρ
    | .cnt => .ok .cnt ρ
    | .ret v => .ok (.ret v) ρ
theorem ts_seq {f g : Env → Res Flow} {va vb vs : List Nat} (ha : ∀ i ∈ va, i ∈ vs) (hb : ∀ i ∈ vb, i ∈ vs) : ∀ D, TSo G vs (fun ρ => (f ρ).bd (seqF g)) D σ H → tSeq (TSo G va f) (TSo G vb g) D σ H := by
  rintro D ⟨ρ, F, S, R, hs, hw, hp⟩
  refine ⟨ρ, F, S, R, hs, hw, ?_⟩
  dsimp only at hp
  cases e : f ρ with
  | bad => rw [e] at hp; exact hp
  | exc x ρ' => rw [e] at hp; exact hp
  | ok fl ρ1 =>
    rw [e] at hp
    intro σ' F' H' S' a1 a2 a3 a4
    cases fl with
    | nx => exact fun a5 => ⟨ρ1, F', S', R, a4, a5, ((PostS.rebase (r := g ρ1) hp a1 a2).slots (Agree.refl (vs := []).trans a3 (fun _ h => absurd h (by simp)) ha)).more hb⟩
    | brk => exact hp σ' F' H' S' a1 a2 (Agree.refl (vs := []).trans a3 (fun _ h => absurd h (by simp)) ha) a4
    | cnt => exact hp σ' F' H' S' a1 a2 (Agree.refl (vs := []).trans a3 (fun _ h => absurd h (by simp)) ha) a4
    | ret o => exact hp σ' F' H' S' a1 a2 (Agree.refl (vs := []).trans a3 (fun _ h => absurd h (by simp)) ha) a4

/-! ### loops -/
theorem turn_body {fb : Env → Res Flow} {rest : Env → Res Flow} {vb vs : List Nat} {R : List Addr} {F : Fz} {D : Ends} {ρ : Env} (hb : ∀ i ∈ vb, i ∈ vs)
    (hp : PostS G vs σ R F H D ((fb ρ).bd fun o ρ => match o with | .nx => rest ρ | .cnt => rest ρ | .brk => .ok .nx ρ | .ret v => .ok (.ret v) ρ)) {N : L2.St → Hp → Prop}
    (hN : ∀ ρ' σ' F' H' S', FLe F F' → (∀ x ∈ R, H' x = H x) → Agree σ σ' vs → St' G F' H' σ' ρ' S' → Own F' H' (S' ++ R) → PostS G vs σ' R F' H' D (rest ρ') → N σ' H') :
    PostS G vb σ R F H { D with nx := N, ct := N, bk := D.nx } (fb ρ) := by
  cases e : fb ρ with
  | bad => rw [e] at hp; exact hp
  | exc x ρ' => rw [e] at hp; exact hp
  | ok fl ρ1 =>
    rw [e] at hp
    intro σ' F' H' S' a1 a2 a3 a4
    have a3' : Agree σ σ' vs := Agree.refl (vs := []).trans a3 (fun _ h => absurd h (by simp)) hb
    cases fl with
    | nx => exact fun a5 => hN ρ1 σ' F' H' S' a1 a2 a3' a4 a5 ((PostS.rebase (r := rest ρ1) hp a1 a2).slots a3')
    | cnt => exact fun a5 => hN ρ1 σ' F' H' S' a1 a2 a3' a4 a5 ((PostS.rebase (r := rest ρ1) hp a1 a2).slots a3')
    | brk => exact hp σ' F' H' S' a1 a2 a3' a4
    | ret o => exact hp σ' F' H' S' a1 a2 a3' a4
abbrev forF (g : Tg) (fb : Env → Res Flow) : D → Env → Res Flow := fun d ρ => (Res.of (Tg.put g (.fz d) ρ) ρ).bd fun ρ' _ => fb ρ'
theorem ts_for {g : Tg} {gi : Env → Res (List D)} {fb : Env → Res Flow} {vb vs : List Nat} (hg : ∀ i ∈ g.sets, i ∈ vs) (hb : ∀ i ∈ vb, i ∈ vs) : ∀ D, TSo G vs (fun ρ => (gi ρ).bd fun ds ρ => forGo (forF g fb) ds ρ) D σ H →
    tFor (TIo G gi) (TGo G g) (TSo G vb fb) D σ H := by
  rintro D ⟨ρ0, F0, S0, R, hs0, hw0, hp0⟩
  obtain ⟨ρ', F', S', R', a1, a2, a3⟩ := step' (G := G) (H := H) (P := PostS G vs σ R F0 H D) (rep := repI G) (T := []) pb px hs0 (by simpa using hw0) hp0
  refine ⟨ρ', F', S', R', a1, a2, a3.imp ?_⟩
  rintro J H1 ⟨ds, ρ1, F1, S1, Sx, hF1, hT, hs1, ⟨jok, rfl⟩, hw1, hp1⟩
  have hp1 := hp1.rebase hF1 (by simpa using hT)
  have hw1 : Own F1 H1 (S1 ++ R) := by simpa using hw1
  refine ⟨fun i m σ H => m = ds.length - i ∧ i ≤ ds.length ∧ ∃ ρ F S, St' G F H σ ρ S ∧ FLe F1 F ∧ Own F H (S ++ R) ∧ PostS G vs σ R F H D (forGo (forF g fb) (ds.drop i) ρ), ⟨ds.length, by simp, Nat.zero_le _, ρ1, F1, S1, hs1, .refl, hw1, hp1⟩, ?_⟩
  rintro i m σ2 H2 ⟨rfl, hi, ρ, F, S, hs, hF, hw, hp⟩
  have hJ := jok F H2 hF hw.le
  by_cases hlt : i < ds.length
  · refine .inr ⟨hJ.1 i hlt, fun σ H => i + 1 ≤ ds.length ∧ ∃ ρ F S, St' G F H σ ρ S ∧ FLe F1 F ∧ Own F H (S ++ R) ∧ PostS G vs σ R F H D (forGo (forF g fb) (ds.drop (i + 1)) ρ), fun σ' H' h => ⟨ds.length - (i + 1), by omega, rfl, h.1, h.2⟩, fun x H' hy => ?_⟩
    obtain ⟨F2, hF2, rx, hw2, hk2⟩ := hJ.2.2 i ds[i] x H' (List.getElem?_eq_getElem hlt) hy _ hw
    rw [List.drop_eq_getElem_cons hlt] at hp
    simp only [forGo, Res.bd_assoc] at hp
    have hkS : ∀ a ∈ S ++ R, H' a = H2 a := fun a ha => hk2 a (hw.fr a ha).2
    have hs2 : St' G F2 H' σ2 ρ S := hs.mono hF2 fun a ha => hkS a (by simp [ha])
    have hp := hp.rebase hF2 fun a ha => hkS a (by simp [ha])
    cases eg : Tg.put g (.fz ds[i]) ρ with
    | none => simp only [forF, eg, Res.of, Res.bd] at hp; exact False.elim hp
    | some ρg =>
      simp only [forF, eg, Res.of, Res.bd_ok] at hp
      refine ⟨.fz ds[i], ρ, ρg, F2, [], S, R, .fz rx, hs2, by simpa using hw2, eg, fun σ3 S3 hs3 hw3 hag => ?_⟩
      have hag' : Agree σ2 σ3 vs := Agree.refl (vs := []).trans hag (fun _ h => absurd h (by simp)) hg
      refine ⟨ρg, F2, S3, R, hs3, hw3, turn_body hb (hp.slots hag') fun ρ' σ' F' H' S' b1 b2 b3 b4 b5 b6 => ⟨hlt, ρ', F', S', b4, (hF.trans hF2).trans b1, b5, b6⟩⟩
  · have e : i = ds.length := by omega
    subst e
    refine .inl ⟨hJ.2.1 _ (Nat.le_refl _), ?_⟩
    rw [List.drop_length] at hp
    exact hp.nx hs hw
theorem ts_whl {gt : Env → Res Bool} {fb : Env → Res Flow} {vb vs : List Nat} {n : Nat} (hb : ∀ i ∈ vb, i ∈ vs) : ∀ D, TSo G vs (fun ρ => whlGo gt fb n ρ) D σ H → tWhile (TTo G gt) (TSo G vb fb) D σ H := by
  rintro D ⟨ρ0, F0, S0, R, hs0, hw0, hp0⟩
  refine ⟨fun m σ H => ∃ ρ F S, St' G F H σ ρ S ∧ Own F H (S ++ R) ∧ PostS G vs σ R F H D (whlGo gt fb m ρ), ⟨n, ρ0, F0, S0, hs0, hw0, hp0⟩, ?_⟩
  rintro m σ1 H1 ⟨ρ, F, S, hs, hw, hp⟩
  cases m with
  | zero => exact absurd hp pb
  | succ m =>
    simp only [whlGo] at hp
    obtain ⟨ρ', F', S', R', a1, a2, a3⟩ := step' (G := G) (H := H1) (P := PostS G vs σ1 R F H1 D) (rep := repT) (T := []) pb px hs (by simpa using hw) hp
    refine ⟨ρ', F', S', R', a1, a2, a3.imp ?_⟩
    rintro k H2 ⟨b, ρ1, F1, S1, Sx, hF1, hT, hs1, ⟨rfl, rfl⟩, hw1, hp1⟩
    have hp1 := hp1.rebase hF1 (by simpa using hT)
    have hw1 : Own F1 H2 (S1 ++ R) := by simpa using hw1
    cases k with
    | false => simp only [Bool.false_eq_true, if_false] at hp1 ⊢; exact hp1.nx hs1 hw1
    | true =>
      simp only [if_true] at hp1 ⊢
      refine ⟨fun σ H => ∃ ρ F S, St' G F H σ ρ S ∧ Own F H (S ++ R) ∧ PostS G vs σ R F H D (whlGo gt fb m ρ), fun σ' H' h => ⟨m, Nat.lt_succ_self m, h⟩, ρ1, F1, S1, R, hs1, hw1, turn_body hb hp1 fun ρ' σ' F' H' S' b1 b2 b3 b4 b5 b6 => ⟨ρ', F', S', b4, b5, b6⟩⟩

/-! ### stores in what is held -/
/-- what the changing of an owned thing does to slot i -/
theorem own_put {vs : List Nat} {R S T : List Addr} {F : Fz} {D : Ends} {ρ : Env} {i : Nat} {a : Addr} {o o' : OV} {ho : HO} (hp : PostS G vs σ R F H D (.ok .nx (ρ.put i o'))) (hs : St' G F H σ ρ S) (hw : Own F H (T ++ (S ++ R))) (q : ρ.at i = some o)
    (hv : σ[i]? = some (some (.ref a))) (ha : ∀ Sv, Ro G F H (.ref a) o Sv → Sv = [a]) (hn : Ro G F (upd H a ho) (.ref a) o' [a]) : D.nx σ (upd H a ho) := by
  obtain ⟨S', h1, h2, h3⟩ := slot_write hs hw q hv ha hn
  exact hp σ F _ S' .refl (fun x hx => h3 x (by simp [hx])) .refl h1 (h2.sub (by intro b; simp only [List.count_append]; omega))
def rSetA : TSet := fun o i v H Q => rSetL o i v H Q ∨ rSetD o i v H Q
theorem pset_all (hu : X.A.units + 1 < cLine) : PSet X rSetA := fun pins s σ H o i v ov iv u Q I r1 r2 r3 h => h.elim (set_list pins s σ H o i v ov iv u Q I r1 r2 r3) (set_dict hu pins s σ H o i v ov iv u Q I r1 r2 r3)
/-- o[k] = v, o changed -/
def sPut (td ty tv : TE) (t : TSet) : TS := fun D σ H => tv σ H fun v H1 => td σ H1 fun x H2 => ty σ H2 fun y H3 => t x y v H3 fun H4 => D.nx σ H4
theorem ps_put {o i value : Expr} {pos pos' : Pos} {td ty tv : TE} {t : TSet} (hs : PSet X t) (ho : PE X o td) (hi : PE X i ty) (hv : PE X value tv) (hsw : swapsWith value (some (.Subscript o i pos')) pos.line X.env = pure false) :
    PS X (.Assign [.Subscript o i pos'] value pos) (sPut td ty tv t) := by
  refine ⟨fun pins s σ H D I h => ?_⟩
  refine wpAny_Assign_Subscript (thn (hv.run pins s σ H _ I h) fun r s1 ⟨v, H1, I1, rv, q1⟩ => thn (ho.run pins s1 σ H1 _ I1 q1) fun u s2 ⟨x, H2, I2, rx, q2⟩ => thn (hi.run pins s2 σ H2 _ I2 q2) fun iv s3 ⟨y, H3, I3, ry, q3⟩ => ?_) hsw
  exact thn (hs pins s3 σ H3 x y v u iv r _ I3 rx ry rv q3) fun _ s4 ⟨H4, I4, q4⟩ => ⟨σ, H4, I4, q4⟩
/-- o[a:b] = l -/
def sSlc (td : TE) (tl th : TO) (tv : TE) : TS := fun D σ H => tv σ H fun v H1 => td σ H1 fun x H2 => tl σ H2 fun l H3 => th σ H3 fun u H4 => ∃ p b xs ys a c, x = .ref p ∧ v = .ref b ∧ l = some a ∧ u = some c ∧ H4 p = some (.lst xs) ∧ H4 b = some (.lst ys) ∧ p ≠ b ∧
  0 ≤ a ∧ a ≤ c ∧ c ≤ xs.length ∧ xs.length + ys.length ≤ sizeLine ∧ D.nx σ (upd H4 p (.lst (xs.take a.toNat ++ ys ++ xs.drop c.toNat)))
theorem isPart_some {v : Value} {a : Int} (h : IsPart v (some a)) : RelV (.int a) v := by
  cases h with
  | int i t => exact ⟨t, rfl⟩
theorem ps_sslc {o value : Expr} {lo hi : Option Expr} {pos pos' p2 : Pos} {td tv : TE} {tl th : TO} (ho : PE X o td) (hl : PO X lo tl) (hh : PO X hi th) (hv : PE X value tv) (hsw : swapsWith value (some (.Subscript o (.Slice lo hi none p2) pos')) pos.line X.env = pure false) :
    PS X (.Assign [.Subscript o (.Slice lo hi none p2) pos'] value pos) (sSlc td tl th tv) := by
  refine ⟨fun pins s σ H D I h => ?_⟩
  refine wpAny_Assign_Subscript (thn (hv.run pins s σ H _ I h) fun r s1 ⟨v, H1, I1, rv, q1⟩ => thn (ho.run pins s1 σ H1 _ I1 q1) fun u s2 ⟨x, H2, I2, rx, q2⟩ => ?_) hsw
  refine wpAny_Slice (thn (hl.run pins s2 σ H2 _ I2 q2) fun vl s3 ⟨l, H3, I3, pl, q3⟩ => thn (hh.run pins s3 σ H3 _ I3 q3) fun vu s4 ⟨u', H4, I4, pu, q4⟩ => wpAny_pure ?_)
  obtain ⟨p, b, xs, ys, a, c, rfl, rfl, rfl, rfl, hp, hb, hne, h0, hac, hc, hz, q⟩ := q4
  cases rx
  cases rv
  have I5 : Inv X pins σ H4 { s4 with heap := s4.heap.push { cls := .type "slice", data := .fields #[vl, vu, .none] } } := I4.kept (t' := s4.toks) fun b o e => Heap.get?_push_of_some _ e
  exact set_slice I5 hp hb hne (Heap.IsSliceOf.new ..) (isPart_some pl) (isPart_some pu) h0 hac hc hz fun s5 I6 => ⟨σ, _, I6, q⟩
theorem ro_key {F : Fz} {v : V} {o : OV} {S : List Addr} (r : Ro G F H v o S) (h : keyOk o.d = true) : ∃ k, o.d = keyD k ∧ v = kV k := by
  obtain ⟨k, h1, h2⟩ := keyD_of h
  refine ⟨k, h1, ?_⟩
  cases r with
  | fz r => exact h2 _ _ _ r
  | lst _ _ => simp [OV.d, keyOk] at h
  | dct _ _ => simp [OV.d, keyOk] at h
/-- the store itself -/
theorem set_goD {vs : List Nat} {R S T : List Addr} {F : Fz} {D : Ends} {ρ : Env} {i : Nat} {dk dv : Ev.D} {o' : OV} {k v : V} (hp : PostS G vs σ R F H D (.ok .nx (ρ.put i o'))) (hs : St' G F H σ ρ S) (hw : Own F H (T ++ (S ++ R)))
    (e : ((ρ.at i).bind fun o => setD o dk dv) = some o') (rk : Rf G F k dk) (rv : Rf G F v dv) {x : V} (hx : σ[i]? = some (some x)) : ∃ a H4, x = .ref a ∧ DPut H a k v H4 ∧ D.nx σ H4 := by
  obtain ⟨o, q, e⟩ := Option.bind_eq_some_iff.mp e
  obtain ⟨x', S1, Sv, S2, h1, h2, h3, h4, h5⟩ := hs.get q
  rw [hx] at h1; cases h1
  cases o with
  | fz d => simp [setD] at e
  | lst l => simp [setD] at e
  | dct l =>
    obtain ⟨a, kvs, rfl, rfl, ha, hkv⟩ := ro_dct h2
    simp only [setD] at e
    split at e
    · rename_i c
      simp only [Bool.and_eq_true, decide_eq_true_eq] at c
      cases e
      obtain ⟨key, h1, h2⟩ := keyD_of c.1
      cases h2 _ _ _ rk
      subst h1
      refine ⟨a, _, rfl, DPut.k ha (by rw [hkv.length, line_eq]; exact c.2), ?_⟩
      exact own_put hp hs hw q hx (fun Sv r => (ro_dct r).elim fun a2 h => h.elim fun _ h => by cases h.1; exact h.2.1) (.dct upd_same (hkv.put key rv))
    · cases e
theorem set_go {vs : List Nat} {R S T : List Addr} {F : Fz} {D : Ends} {ρ : Env} {i : Nat} {dk dv : Ev.D} {o' : OV} {k v : V} (hp : PostS G vs σ R F H D (.ok .nx (ρ.put i o'))) (hs : St' G F H σ ρ S) (hw : Own F H (T ++ (S ++ R)))
    (e : ((ρ.at i).bind fun o => setF o dk dv) = some o') (rk : Rf G F k dk) (rv : Rf G F v dv) {x : V} (hx : σ[i]? = some (some x)) : rSetA x k v H fun H4 => D.nx σ H4 := by
  have e0 := e
  obtain ⟨o, q, e⟩ := Option.bind_eq_some_iff.mp e
  obtain ⟨x', S1, Sv, S2, h1, h2, h3, h4, h5⟩ := hs.get q
  rw [hx] at h1; cases h1
  cases o with
  | fz d => simp [setF] at e
  | lst l =>
    obtain ⟨a, xs, rfl, rfl, ha, hxs⟩ := ro_lst h2
    cases dk with
    | int j =>
      cases rk
      simp only [setF] at e
      obtain ⟨n, e1, rfl⟩ := Option.map_eq_some_iff.mp e
      refine .inl ⟨a, xs, j, n, rfl, rfl, ha, by rw [hxs.length]; exact e1, ?_⟩
      exact own_put hp hs hw q hx (fun Sv r => (ro_lst r).elim fun a2 h => h.elim fun _ h => by cases h.1; exact h.2.1) (.lst upd_same (hxs.set n rv))
    | _ => simp [setF] at e
  | dct l =>
    have e' : ((ρ.at i).bind fun o => setD o dk dv) = some o' := by rw [q]; exact e
    obtain ⟨a, H4, r1, r2, r3⟩ := set_goD hp hs hw e' rk rv hx
    exact .inr ⟨a, H4, r1, r2, r3⟩
theorem ts_put {i : Nat} {gk gv : Env → Res OV} : ∀ D, TSo G [] (fun ρ => (gv ρ).bd fun v ρ => (match ρ.at i with
    | some _ => (gk ρ).bd fun k ρ => (Res.of ((ρ.at i).bind fun o => setF o k.d v.d) ρ).bd fun o ρ => .ok .nx (ρ.put i o)
    | none => .bad)) D σ H → sPut (tVar i) (TEo G gk) (TEo G gv) rSetA D σ H := by
  rintro D ⟨ρ, F, S, R, hs, hw, hp⟩
  show TEo G gv σ H _
  obtain ⟨ρ', F', S', R', a1, a2, a3⟩ := step' (G := G) (H := H) (P := PostS G [] σ R F H D) (rep := repE G) (T := []) pb px hs (by simpa using hw) hp
  refine ⟨ρ', F', S', R', a1, a2, a3.imp ?_⟩
  rintro v H1 ⟨ov, ρ1, F1, S1, Sx, hF1, hT, hs1, rx, hw1, hp1⟩
  have hp1 := hp1.rebase hF1 (by simpa using hT)
  obtain ⟨F1', k1, k2, k3⟩ := rx.freeze hw1
  have hs1 := hs1.mono k1 fun _ _ => rfl
  have hp1 := hp1.rebase k1 fun _ _ => rfl
  cases q : ρ1.at i with
  | none => simp only [q] at hp1; exact absurd hp1 pb
  | some o =>
    simp only [q] at hp1
    obtain ⟨x, T1, Tv, T2, g1, _⟩ := hs1.get q
    refine ⟨x, g1, ?_⟩
    obtain ⟨ρ', F', S', R', a1, a2, a3⟩ := step' (G := G) (H := H1) (P := PostS G [] σ R F1' H1 D) (rep := repE G) (T := []) pb px hs1 (by simpa using k3) hp1
    refine ⟨ρ', F', S', R', a1, a2, a3.imp ?_⟩
    rintro k H2 ⟨ok, ρ2, F2, S2, Sy, hF2, hT2, hs2, ry, hw2, hp2⟩
    have hp2 := hp2.rebase hF2 (by simpa using hT2)
    obtain ⟨F2', j1, j2, j3⟩ := ry.freeze hw2
    have hs2 := hs2.mono j1 fun _ _ => rfl
    have hp2 := hp2.rebase j1 fun _ _ => rfl
    cases e : (ρ2.at i).bind fun o => setF o ok.d ov.d with
    | none => simp only [e, Res.of] at hp2; exact absurd hp2 pb
    | some o' =>
      simp only [e, Res.of, Res.bd_ok] at hp2
      exact set_go (T := []) hp2 hs2 (by simpa using j3) e j2 (k2.mono (hF2.trans j1)) g1
/-- d[k] op= e of ints -/
theorem ts_saug {i : Nat} {o : Op2} {ti : V → V → Hp → VK → Prop} {gk ge : Env → Res OV} (ho : ∀ (a b : Int) (r : OV) (H : Hp) (Q : VK), bin2 o (.int a) (.int b) = some r → (∀ k, r = .fz (.int k) → Q (.int k) H) → ti (.int a) (.int b) H Q)
    : ∀ D, TSo G [] (fun ρ => (match ρ.at i with
    | some _ => (gk ρ).bd fun k ρ => (Res.of ((ρ.at i).bind fun m => getF m k.d) ρ).bd fun x ρ => (ge ρ).bd fun y ρ => (Res.of (augF o (.fz x) y.d) ρ).bd fun r ρ =>
        (Res.of ((ρ.at i).bind fun m => setD m k.d r.d) ρ).bd fun m ρ => .ok .nx (ρ.put i m)
    | none => .bad)) D σ H → sDAug (tVar i) (TEo G gk) (TEo G ge) ti D σ H := by
  rintro D ⟨ρ, F, S, R, hs, hw, hp⟩
  dsimp only at hp
  cases q : ρ.at i with
  | none => simp only [q] at hp; exact absurd hp pb
  | some m0 =>
    simp only [q] at hp
    obtain ⟨x, T1, Tv, T2, g1, _⟩ := hs.get q
    refine ⟨x, g1, ?_⟩
    obtain ⟨ρ', F', S', R', a1, a2, a3⟩ := step' (G := G) (H := H) (P := PostS G [] σ R F H D) (rep := repE G) (T := []) pb px hs (by simpa using hw) hp
    refine ⟨ρ', F', S', R', a1, a2, a3.imp ?_⟩
    rintro k H1 ⟨ok, ρ1, F1, S1, Sx, hF1, hT, hs1, rx, hw1, hp1⟩
    have hp1 := hp1.rebase hF1 (by simpa using hT)
    obtain ⟨F1', k1, k2, k3⟩ := rx.freeze hw1
    have hs1 := hs1.mono k1 fun _ _ => rfl
    have hp1 := hp1.rebase k1 fun _ _ => rfl
    cases e : (ρ1.at i).bind fun m => getF m ok.d with
    | none => simp only [e, Res.of] at hp1; exact absurd hp1 pb
    | some dx =>
      simp only [e, Res.of, Res.bd_ok] at hp1
      obtain ⟨m, q1, e⟩ := Option.bind_eq_some_iff.mp e
      obtain ⟨x', U1, Uv, U2, h1, h2, h3, h4, h5⟩ := hs1.get q1
      rw [g1] at h1; cases h1
      cases m with
      | fz d => simp [getF] at e
      | lst l => simp [getF] at e
      | dct l =>
        simp only [getF] at e
        split at e
        · rename_i c
          obtain ⟨a, kvs, rfl, rfl, ha, hkv⟩ := ro_dct h2
          obtain ⟨key, c1, c2⟩ := keyD_of c
          cases c2 _ _ _ k2
          rw [c1] at e
          rcases hkv.get key with ⟨d, vv, e1, e2, r⟩ | ⟨e1, e2⟩
          · rw [e] at e1; cases e1
            refine ⟨a, vv, rfl, .inl ⟨kvs, key, .inl ha, rfl, e2.symm⟩, ?_⟩
            obtain ⟨ρ', F', S', R', a1, a2, a3⟩ := step' (G := G) (H := H1) (P := PostS G [] σ R F1' H1 D) (rep := repE G) (T := []) pb px hs1 (by simpa using k3) hp1
            refine ⟨ρ', F', S', R', a1, a2, a3.imp ?_⟩
            rintro y H2 ⟨oy, ρ2, F2, S2, Sy, hF2, hT2, hs2, ry, hw2, hp2⟩
            have hp2 := hp2.rebase hF2 (by simpa using hT2)
            obtain ⟨F2', j1, j2, j3⟩ := ry.freeze hw2
            have hs2 := hs2.mono j1 fun _ _ => rfl
            have hp2 := hp2.rebase j1 fun _ _ => rfl
            cases eb : augF o (.fz dx) oy.d with
            | none => simp only [eb] at hp2; exact absurd hp2 pb
            | some rr =>
              simp only [eb, Res.bd_ok] at hp2
              cases dx with
              | int ia =>
                cases r
                cases hy : oy.d with
                | int ib =>
                  rw [hy] at eb j2
                  cases j2
                  have eb : bin2 o (.int ia) (.int ib) = some rr := eb
                  refine ho ia ib rr H2 _ eb fun kk hk => ?_
                  subst hk
                  cases es : (ρ2.at i).bind fun m => setD m ok.d (OV.fz (.int kk)).d with
                  | none => simp only [es] at hp2; exact absurd hp2 pb
                  | some o' =>
                    simp only [es, Res.bd_ok] at hp2
                    obtain ⟨p, H', e1, e2, e3⟩ := set_goD (T := []) hp2 hs2 (by simpa using j3) es (k2.mono (hF2.trans j1)) (.int kk) g1
                    cases e1
                    exact ⟨H', e2, e3⟩
                | _ => rw [hy] at eb; cases eb
              | _ => cases eb
          · rw [e] at e1; cases e1
        · cases e
/-- o[a:b] = l -/
theorem ts_sslc {i : Nat} {gv : Env → Res OV} {gl gh : Env → Res Opd} : ∀ D, TSo G [] (fun ρ => (gv ρ).bd fun v ρ => (match ρ.at i with
    | some _ => (gl ρ).bd fun y ρ => (Res.of ((y.view ρ).bind endOf) ρ).bd fun a ρ => (gh ρ).bd fun z ρ => (Res.of ((z.view ρ).bind endOf) ρ).bd fun b ρ =>
        (Res.of ((ρ.at i).bind fun m => cutF m a b v.d) ρ).bd fun m ρ => .ok .nx (ρ.put i m)
    | none => .bad)) D σ H → sSlc (tVar i) (tEnd (TOo G gl)) (tEnd (TOo G gh)) (TEo G gv) D σ H := by
  rintro D ⟨ρ, F, S, R, hs, hw, hp⟩
  show TEo G gv σ H _
  obtain ⟨ρ', F', S', R', a1, a2, a3⟩ := step' (G := G) (H := H) (P := PostS G [] σ R F H D) (rep := repE G) (T := []) pb px hs (by simpa using hw) hp
  refine ⟨ρ', F', S', R', a1, a2, a3.imp ?_⟩
  rintro v H1 ⟨ov, ρ1, F1, S1, Sx, hF1, hT, hs1, rx, hw1, hp1⟩
  have hp1 := hp1.rebase hF1 (by simpa using hT)
  obtain ⟨F1', k1, k2, k3⟩ := rx.freeze hw1
  have hs1 := hs1.mono k1 fun _ _ => rfl
  have hp1 := hp1.rebase k1 fun _ _ => rfl
  cases q : ρ1.at i with
  | none => simp only [q] at hp1; exact absurd hp1 pb
  | some o =>
    simp only [q] at hp1
    obtain ⟨x, T1, Tv, T2, g1, _⟩ := hs1.get q
    refine ⟨x, g1, ?_⟩
    show TOo G gl σ H1 _
    obtain ⟨ρ', F', S', R', a1, a2, a3⟩ := step' (G := G) (H := H1) (P := PostS G [] σ R F1' H1 D) (rep := repO G σ) (T := []) pb px hs1 (by simpa using k3) hp1
    refine ⟨ρ', F', S', R', a1, a2, a3.imp ?_⟩
    rintro y H2 ⟨oy, ρ2, F2, S2, Sy, hF2, hT2, hs2, ry, hw2, hp2⟩
    have hp2 := hp2.rebase hF2 (by simpa using hT2)
    have hw2 : Own F2 H2 (S2 ++ R) := hw2.sub (by intro a; simp only [List.count_append]; simp)
    cases e1 : ((oy.view ρ2).bind endOf) with
    | none => simp only [e1, Res.of] at hp2; exact absurd hp2 pb
    | some ia =>
      simp only [e1, Res.of, Res.bd_ok] at hp2
      obtain ⟨dy, q1, q2⟩ := Option.bind_eq_some_iff.mp e1
      obtain ⟨vy, Sy', qy, rfl⟩ := ry.view hs2 q1
      have go : tEnd (TOo G gh) σ H2 fun u H4 => ∃ p b xs ys a c, x = .ref p ∧ v = .ref b ∧ ia = some a ∧ u = some c ∧ H4 p = some (.lst xs) ∧ H4 b = some (.lst ys) ∧ p ≠ b ∧
          0 ≤ a ∧ a ≤ c ∧ c ≤ xs.length ∧ xs.length + ys.length ≤ sizeLine ∧ D.nx σ (upd H4 p (.lst (xs.take a.toNat ++ ys ++ xs.drop c.toNat))) := by
        show TOo G gh σ H2 _
        obtain ⟨ρ', F', S', R', a1, a2, a3⟩ := step' (G := G) (H := H2) (P := PostS G [] σ R F2 H2 D) (rep := repO G σ) (T := []) pb px hs2 (by simpa using hw2) hp2
        refine ⟨ρ', F', S', R', a1, a2, a3.imp ?_⟩
        rintro z H3 ⟨oz, ρ3, F3, S3, Sz, hF3, hT3, hs3, rz, hw3, hp3⟩
        have hp3 := hp3.rebase hF3 (by simpa using hT3)
        have hw3 : Own F3 H3 (S3 ++ R) := hw3.sub (by intro a; simp only [List.count_append]; simp)
        cases e3 : ((oz.view ρ3).bind endOf) with
        | none => simp only [e3] at hp3; exact absurd hp3 pb
        | some ib =>
          simp only [e3, Res.bd_ok] at hp3
          obtain ⟨dz, q3, q4⟩ := Option.bind_eq_some_iff.mp e3
          obtain ⟨vz, Sz', qz, rfl⟩ := rz.view hs3 q3
          cases e5 : (ρ3.at i).bind fun m => cutF m ia ib ov.d with
          | none => simp only [e5] at hp3; exact absurd hp3 pb
          | some o' =>
            simp only [e5, Res.bd_ok] at hp3
            obtain ⟨m, r1, r2⟩ := Option.bind_eq_some_iff.mp e5
            obtain ⟨x', U1, Uv, U2, h1, h2, h3, h4, h5⟩ := hs3.get r1
            rw [g1] at h1; cases h1
            have kv := k2.mono (hF2.trans hF3)
            cases m with
            | fz d => simp [cutF] at r2
            | dct l => simp [cutF] at r2
            | lst l =>
              cases ia with
              | none => simp [cutF] at r2
              | some a =>
                cases ib with
                | none => simp [cutF] at r2
                | some c =>
                  cases hv : ov.d with
                  | lst ms =>
                    rw [hv] at r2 kv
                    simp only [cutF] at r2
                    split at r2
                    · rename_i cc
                      cases r2
                      obtain ⟨p, xs, rfl, rfl, hpp, hxs⟩ := ro_lst h2
                      cases kv with
                      | @lst b ys _ eb rb =>
                        have hpF : F3 p = none := (hw3.fr p (by rw [h3]; simp)).1
                        have fin : D.nx σ (upd H3 p (.lst (xs.take a.toNat ++ ys ++ xs.drop c.toNat))) :=
                          own_put (T := []) hp3 hs3 (by simpa using hw3) r1 g1 (fun Sv r => (ro_lst r).elim fun a2 h => h.elim fun _ h => by cases h.1; exact h.2.1) (.lst upd_same (((hxs.take _).append rb).append (hxs.drop _)))
                        have main : ∃ p' b' xs' ys' a' c', V.ref p = .ref p' ∧ V.ref b = .ref b' ∧ some a = some a' ∧ some c = some c' ∧ H3 p' = some (.lst xs') ∧ H3 b' = some (.lst ys') ∧ p' ≠ b' ∧
                            0 ≤ a' ∧ a' ≤ c' ∧ c' ≤ xs'.length ∧ xs'.length + ys'.length ≤ sizeLine ∧ D.nx σ (upd H3 p' (.lst (xs'.take a'.toNat ++ ys' ++ xs'.drop c'.toNat))) :=
                          ⟨p, b, xs, ys, a, c, rfl, rfl, rfl, rfl, hpp, le_lst hw3.le eb, fun z => (by subst z; rw [hpF] at eb; cases eb), cc.1, cc.2.1, by rw [hxs.length]; exact cc.2.2.1, by rw [hxs.length, rb.length, line_eq]; exact cc.2.2.2, fin⟩
                        rcases endOf_some qz q4 with ⟨z1, z2⟩ | ⟨n, z1, z2⟩
                        · cases z1
                        · cases z1; exact .inr ⟨c, z2, main⟩
                    · cases r2
                  | _ => rw [hv] at r2; simp [cutF] at r2
      rcases endOf_some qy q2 with ⟨r1, r2⟩ | ⟨n, r1, r2⟩
      · subst r1; exact .inl ⟨r2, go⟩
      · subst r1; exact .inr ⟨n, r2, go⟩
end
end Ev
end
section
set_option Elab.async false
set_option linter.all false
set_option maxRecDepth 100000
set_option maxHeartbeats 1000000
/-! EvN: a text's expressions beside the small syntax: what must be seen of them. -/
namespace Ev
open PySem L2 PyProof.Rows RZ

/-- what is known of a text's part: the slots' names, the block's scope, the names whose cells may be stored to, the defs, the constants, the built-in names that the text leaves alone -/
structure Cxt where
  N : List Str
  sc : Scope
  fn : List Str
  defs : List (Str × Nat)
  cons : List (Str × D)
  free : List Str
  tabs : List (Str × List (D × D))

structure CDef (G : Gx) (X : Cx) (name : Str) (np : Nat) (f : List OV → CRes) : Prop where
  ex : ∃ (n : Nat) (a : Addr) (fd : FuncData) (ps : List Str), FnOk X.prog X.w X.K X.mg X.base CX0 n a fd ps (spD G np f) ∧ Room n X.A ∧ X.mg name = some (.ref a) ∧ PySem.W.keepIn X.K (.ref a) = true ∧ Binds X.K fd ps []
  len : ∀ os, os.length ≠ np → f os = .bad
structure Cok (G : Gx) (cl : CL) (c : Cxt) (X : Cx) : Prop where
  K : X.K = G.K
  N : X.N = c.N
  nd : X.N.Nodup
  sc : X.env.scope = c.sc
  calm : X.calm = true
  fn : ∀ x ∈ c.fn, X.fn x = true
  hu : X.A.units + 64 < cLine
  defs : ∀ k name np, c.defs[k]? = some (name, np) → CDef G X name np (cl k)
  free : ∀ x ∈ c.free, X.mg x = none
  cons : ∀ x d, (x, d) ∈ c.cons → ∃ v u, X.mg x = some u ∧ RelV v u ∧ ∀ F, Rf G F v d
  tabs : ∀ x kv, (x, kv) ∈ c.tabs → ∃ a es n, X.mg x = some (.ref a) ∧ KDict X.K X.w a es n ∧ ∀ k d, dGet kv k = some d → keyOk k = true → ∃ z u v, k = .str z ∧ PySem.W.nsIn X.K a (sv z) = some (some u) ∧ RelV v u ∧ ∀ F, Rf G F v d

/-! ### what is asked of names -/
def visB (sc : Scope) (x : Str) : Bool := match sc.names.lookup x with
  | some .local => true
  | some .cell => true
  | some .free => true
  | _ => false
def glB (sc : Scope) (x : Str) : Bool := match sc.names.lookup x with
  | some .globalImplicit => true
  | _ => false
def nmB (x : Str) : Bool := !(x == ("__debug__" : Str)) && !(x == ("__classdict__" : Str)) && !(x == ("__name__" : Str))
def isVar (c : Cxt) (x : Str) (i : Nat) : Bool := decide (c.N[i]? = some x) && visB c.sc x && nmB x
def isLoc (c : Cxt) (x : Str) : Bool := match c.sc.names.lookup x with
  | some .local => true
  | _ => false
def isStore (c : Cxt) (x : Str) (i : Nat) : Bool := decide (c.N[i]? = some x) && (match c.sc.names.lookup x with
  | some .local => true
  | some .cell => decide (x ∈ c.fn)
  | _ => false)
def isBlt (c : Cxt) (x name : Str) : Bool := decide (x = name) && glB c.sc x && decide (x ∈ c.free) && nmB x
def isDef (c : Cxt) (x : Str) (k n : Nat) : Bool := decide (c.defs[k]? = some (x, n)) && glB c.sc x && nmB x

section
variable {G : Gx} {X : Cx} {cl : CL} {c : Cxt} {x name : Str} {i k n : Nat}
theorem nmB_ok (h : nmB x = true) : (x == ("__debug__" : Str)) = false ∧ (x == ("__classdict__" : Str)) = false ∧ x ≠ "__name__" := by
  unfold nmB at h
  simp only [Bool.and_eq_true, Bool.not_eq_true'] at h
  exact ⟨h.1.1, h.1.2, fun e => by rw [e] at h; simp at h⟩
theorem vis_ok {sc : Scope} (h : visB sc x = true) : Vis sc x := by
  unfold visB at h
  split at h
  · exact .inl (by assumption)
  · exact .inr (.inl (by assumption))
  · exact .inr (.inr (by assumption))
  · cases h
theorem gl_ok (ok : Cok G cl c X) (h : glB c.sc x = true) : Gl X x := by
  unfold glB at h
  split at h
  · rename_i e
    show X.env.scope.names.lookup x = some .globalImplicit
    rw [ok.sc]; exact e
  · cases h
theorem pe_varB (ok : Cok G cl c X) (h : isVar c x i = true) {pos : Pos} : PE X (.Name x pos) (tVar i) := by
  unfold isVar at h
  simp only [Bool.and_eq_true, decide_eq_true_eq] at h
  obtain ⟨⟨h1, h2⟩, h3⟩ := h
  obtain ⟨d1, d2, d3⟩ := nmB_ok h3
  exact pe_var (by rw [ok.N]; exact h1) (by rw [ok.sc]; exact vis_ok h2) d1 d2
theorem store_okB (ok : Cok G cl c X) (h : isStore c x i = true) : X.N[i]? = some x ∧ Loc X.env.scope x ∧ (X.fn x = true ∨ X.env.scope.names.lookup x = some .local) := by
  unfold isStore at h
  simp only [Bool.and_eq_true, decide_eq_true_eq] at h
  obtain ⟨h1, h2⟩ := h
  refine ⟨by rw [ok.N]; exact h1, ?_, ?_⟩
  · rw [ok.sc]
    split at h2
    · exact .inl (by assumption)
    · exact .inr (by assumption)
    · cases h2
  · rw [ok.sc]
    split at h2
    · exact .inr (by assumption)
    · exact .inl (ok.fn x (of_decide_eq_true h2))
    · cases h2
theorem blt_ok (ok : Cok G cl c X) (h : isBlt c x name = true) : x = name ∧ Gl X x ∧ X.mg x = none ∧ x ≠ "__name__" ∧ (x == ("__debug__" : Str)) = false := by
  unfold isBlt at h
  simp only [Bool.and_eq_true, decide_eq_true_eq] at h
  obtain ⟨⟨⟨h1, h2⟩, h3⟩, h4⟩ := h
  obtain ⟨d1, d2, d3⟩ := nmB_ok h4
  exact ⟨h1, gl_ok ok h2, ok.free x h3, d3, d1⟩
theorem def_ok (ok : Cok G cl c X) (h : isDef c x k n = true) : Gl X x ∧ (x == ("__debug__" : Str)) = false ∧ CDef G X x n (cl k) := by
  unfold isDef at h
  simp only [Bool.and_eq_true, decide_eq_true_eq] at h
  obtain ⟨⟨h1, h2⟩, h3⟩ := h
  obtain ⟨d1, d2, d3⟩ := nmB_ok h3
  exact ⟨gl_ok ok h2, d1, ok.defs k x n h1⟩
end

/-! ### forms -/
def noStar : Expr → Bool
  | .Starred .. => false
  | _ => true
theorem star_of {e : Expr} {es : List Expr} {env : PySem.Env} (h : noStar e = true) : starEach (e :: es) env = (false, eval e env) :: starEach es env := by
  cases e <;> first | rfl | (simp [noStar] at h)
def noStars (es : List Expr) : Bool := es.all noStar
theorem star_all {env : PySem.Env} : ∀ {es : List Expr}, noStars es = true → starEach es env = es.map fun e => (false, eval e env)
  | [], _ => rfl
  | e :: es, h => by
    unfold noStars at h
    rw [List.all_cons, Bool.and_eq_true] at h
    rw [star_of h.1, star_all h.2]
    rfl
theorem bt_of {env : PySem.Env} {pos : Pos} {es : List Expr} (h : noStars es = true) : PySem.backTo pos (starEach es env) = es.map fun e => (false, eval e env) := by
  rw [star_all h]
  unfold PySem.backTo
  rw [List.map_map]
  rfl
theorem plain_of {env : PySem.Env} {pos : Pos} {es : List Expr} (h : noStars es = true) : (PySem.backTo pos (starEach es env)).any (·.1) = false := by
  rw [bt_of h]
  induction es with
  | nil => rfl
  | cons e es ih =>
    unfold noStars at h
    rw [List.all_cons, Bool.and_eq_true] at h
    simpa using ih h.2
theorem plain_all {env : PySem.Env} {pos : Pos} {es : List Expr} (h : noStars es = true) : (PySem.backTo pos (starEach es env)).all (fun x => !x.1) = true := by
  rw [bt_of h]
  induction es with
  | nil => rfl
  | cons e es ih =>
    unfold noStars at h
    rw [List.all_cons, Bool.and_eq_true] at h
    simpa using ih h.2
def noSuper : Expr → Bool
  | .Call (.Name id _) [] [] _ => id != "super"
  | _ => true
theorem base_of {o : Expr} {a : Str} {env : PySem.Env} (h : noSuper o = true) : attributeBase o a env (eval o env) = eval o env := by
  unfold attributeBase
  split
  · rename_i id p pos
    have h : (id != ("super" : Str)) = true := h
    rw [if_pos (by rw [h]; rfl)]
  · rfl
end Ev
end
section
set_option Elab.async false
set_option linter.all false
set_option maxRecDepth 100000
set_option maxHeartbeats 1000000
/-! EvO: the check of a text's expressions beside the small syntax, part by part. -/
namespace Ev
open PySem L2 PyProof.Rows RZ
section
variable {G : Gx} {X : Cx} {cl : CL} {c : Cxt}

/-! ### data alike, letter by letter -/
mutual
def D.same : D → D → Bool
  | .non, .non => true
  | .bl a, .bl b => a == b
  | .int i, .int j => decide (i = j)
  | .str x, .str y => decide (x = y)
  | .tup l, .tup m => D.sames l m
  | .lst l, .lst m => D.sames l m
  | .scr l, .scr m => decide (l = m)
  | .fn k, .fn j => decide (k = j)
  | _, _ => false
def D.sames : List D → List D → Bool
  | [], [] => true
  | d :: l, e :: m => D.same d e && D.sames l m
  | _, _ => false
end
mutual
theorem same_ok : ∀ {d e : D}, D.same d e = true → d = e
  | .non, .non, _ => rfl
  | .bl a, .bl b, h => by simp [D.same] at h; rw [h]
  | .int i, .int j, h => by simp [D.same] at h; rw [h]
  | .str x, .str y, h => by simp [D.same] at h; rw [h]
  | .tup l, .tup m, h => by rw [sames_ok (show D.sames l m = true by simpa [D.same] using h)]
  | .lst l, .lst m, h => by rw [sames_ok (show D.sames l m = true by simpa [D.same] using h)]
  | .scr l, .scr m, h => by simp [D.same] at h; rw [h]
  | .fn l, .fn m, h => by simp [D.same] at h; rw [h]
  | .dct _, _, h => by simp [D.same] at h
  | .non, .bl _, h | .non, .int _, h | .non, .str _, h | .non, .tup _, h | .non, .lst _, h | .non, .dct _, h | .non, .fn _, h | .non, .scr _, h => by simp [D.same] at h
  | .bl _, .non, h | .bl _, .int _, h | .bl _, .str _, h | .bl _, .tup _, h | .bl _, .lst _, h | .bl _, .dct _, h | .bl _, .fn _, h | .bl _, .scr _, h => by simp [D.same] at h
  | .int _, .non, h | .int _, .bl _, h | .int _, .str _, h | .int _, .tup _, h | .int _, .lst _, h | .int _, .dct _, h | .int _, .fn _, h | .int _, .scr _, h => by simp [D.same] at h
  | .str _, .non, h | .str _, .bl _, h | .str _, .int _, h | .str _, .tup _, h | .str _, .lst _, h | .str _, .dct _, h | .str _, .fn _, h | .str _, .scr _, h => by simp [D.same] at h
  | .tup _, .non, h | .tup _, .bl _, h | .tup _, .int _, h | .tup _, .str _, h | .tup _, .lst _, h | .tup _, .dct _, h | .tup _, .fn _, h | .tup _, .scr _, h => by simp [D.same] at h
  | .lst _, .non, h | .lst _, .bl _, h | .lst _, .int _, h | .lst _, .str _, h | .lst _, .tup _, h | .lst _, .dct _, h | .lst _, .fn _, h | .lst _, .scr _, h => by simp [D.same] at h
  | .scr _, .non, h | .scr _, .bl _, h | .scr _, .int _, h | .scr _, .str _, h | .scr _, .tup _, h | .scr _, .dct _, h | .scr _, .fn _, h | .scr _, .lst _, h => by simp [D.same] at h
  | .fn _, .non, h | .fn _, .bl _, h | .fn _, .int _, h | .fn _, .str _, h | .fn _, .tup _, h | .fn _, .dct _, h | .fn _, .scr _, h | .fn _, .lst _, h => by simp [D.same] at h
theorem sames_ok : ∀ {l m : List D}, D.sames l m = true → l = m
  | [], [], _ => rfl
  | d :: l, e :: m, h => by
    simp only [D.sames, Bool.and_eq_true] at h
    rw [same_ok h.1, sames_ok h.2]
  | [], _ :: _, h => by simp [D.sames] at h
  | _ :: _, [], h => by simp [D.sames] at h
end

/-! ### constants -/
def cstB : Const → D → Bool
  | .int i, .int j => decide (i = j)
  | .bool a, .bl b => a == b
  | .none, .non => true
  | .str x, .str y => decide (x = sv y)
  | _, _ => false
theorem Snd.of {e : Expr} {g : Env → Res OV} {t : E} (h : PE X e (TEo G g)) (hn : ∀ i, t ≠ .var i) : Snd G X e g t := ⟨h, fun i q => absurd q (hn i)⟩
theorem s_cst {k : Const} {d : D} {n : Nat} {pos : Pos} (h : cstB k d = true) : Snd G X (.Constant k n pos) (evE cl (.cst d)) (.cst d) := by
  refine .of ?_ (fun i q => by cases q)
  cases k <;> cases d <;> simp [cstB] at h
  · exact pe_weak pe_non fun σ H Q q => tcst (fun F => .non) Q q
  · subst h; exact pe_weak pe_bl fun σ H Q q => tcst (fun F => .bl _) Q q
  · subst h; exact pe_weak pe_int fun σ H Q q => tcst (fun F => .int _) Q q
  · subst h; exact pe_weak pe_str fun σ H Q q => tcst (fun F => .str _) Q q
theorem s_glb {x : Str} {d : D} {pos : Pos} (ok : Cok G cl c X) (h : (glB c.sc x && nmB x && c.cons.any fun p => decide (p.1 = x) && D.same p.2 d) = true) : Snd G X (.Name x pos) (evE cl (.glb d)) (.glb d) := by
  simp only [Bool.and_eq_true, List.any_eq_true, decide_eq_true_eq] at h
  obtain ⟨⟨h1, h2⟩, ⟨y, d'⟩, h3, h4, h5⟩ := h
  cases h4
  cases same_ok h5
  obtain ⟨v, u, e1, e2, e3⟩ := ok.cons _ _ h3
  exact .of (pe_weak (pe_glob (gl_ok ok h1) e1 e2 (nmB_ok h2).1) fun σ H Q q => tcst e3 Q q) (fun i q => by cases q)
theorem s_var {x : Str} {i : Nat} {pos : Pos} (ok : Cok G cl c X) (h : isVar c x i = true) : Snd G X (.Name x pos) (evE cl (.var i)) (.var i) :=
  ⟨pe_weak (pe_varB ok h) fun σ H Q q => tvar Q q, fun j e => by cases e; exact pe_varB ok h⟩
theorem s_mov {x : Str} {i : Nat} {pos : Pos} (ok : Cok G cl c X) (h : isVar c x i = true) : Snd G X (.Name x pos) (evE cl (.mov i)) (.mov i) :=
  .of (pe_weak (pe_varB ok h) fun σ H Q q => tmov Q q) (fun i q => by cases q)
theorem s_one {op : BoolOp} {x : Expr} {t : E} {pos : Pos} (h : Snd G X x (evE cl t) t) : Snd G X (.BoolOp op [x] pos) (evE cl t) t := ⟨pe_one h.pe, fun i e => pe_one (h.pv i e)⟩
theorem s_frz {e : Expr} {t : E} (h : Snd G X e (evE cl t) t) : Snd G X e (evE cl (.frz t)) (.frz t) := .of (pe_weak h.pe fun σ H Q q => tfrz Q q) (fun i q => by cases q)

/-! ### operators -/
theorem s_bin {o : Op2} {x y : Expr} {a b : E} {pos : Pos} (hK : X.K = G.K) (ha : Snd G X x (evE cl a) a) (hb : Snd G X y (evE cl b) b) : Snd G X (.BinOp x (opOf o) y pos) (evE cl (.bin o a b)) (.bin o a b) :=
  .of (pe_weak (pe_op (opr_bin o) ha.po hb.po) fun σ H Q q => by rw [hK]; exact op2 (bin_ok o) σ H Q q) (fun i q => by cases q)
theorem neg_ok : Op1Ok G (rU fun i => .int (-i)) (fun x => match x with | .int i => some (.fz (.int (-i))) | _ => none) := by
  intro F H x ox Sx L o Q rx w e hd
  cases hx : ox.d with
  | int i => rw [hx] at e; cases e; cases rx.int hx; exact ⟨i, rfl, hd.now w (.int _)⟩
  | _ => rw [hx] at e; cases e
theorem s_neg {x : Expr} {a : E} {pos : Pos} (ha : Snd G X x (evE cl a) a) : Snd G X (.UnaryOp .USub x pos) (evE cl (.neg a)) (.neg a) :=
  .of (pe_weak (pe_un un_neg ha.po) fun σ H Q q => op1 neg_ok σ H Q q) (fun i q => by cases q)
theorem s_not {x : Expr} {a : E} {pos : Pos} (hK : X.K = G.K) (ha : Snd G X x (evE cl a) a) : Snd G X (.UnaryOp .Not x pos) (evE cl (.not a)) (.not a) :=
  .of (pe_weak (pe_notT ha.po) fun σ H Q q => by rw [hK]; exact tnot Q q) (fun i q => by cases q)
def noSet : Expr → Bool
  | .Set .. => false
  | _ => true
theorem behind_of {op : CmpOp} {e : Expr} (h : noSet e = true) : behindInMarks op e = false := by
  cases e <;> first | rfl | (simp [noSet] at h)
theorem s_cmp {cp : Cp} {x y : Expr} {a b : E} {pos : Pos} (ok : Cok G cl c X) (hy : noSet y = true) (ha : Snd G X x (evE cl a) a) (hb : Snd G X y (evE cl b) b) : Snd G X (.Compare x [cpOf cp] [y] pos) (evE cl (.cmp cp a b)) (.cmp cp a b) :=
  .of (pe_weak (pe_cmpR (opr_cmp ok.hu cp) ha.po hb.po (behind_of hy)) fun σ H Q q => by rw [ok.K]; exact op2 (cmp2_ok cp) σ H Q q) (fun i q => by cases q)
theorem t_cmp {cp : Cp} {x y : Expr} {a b : E} {pos : Pos} (ok : Cok G cl c X) (hy : noSet y = true) (ha : Snd G X x (evE cl a) a) (hb : Snd G X y (evE cl b) b) : PT X (.Compare x [cpOf cp] [y] pos) (TTo G (evT cl (.cmp cp a b))) :=
  pt_weak (pt_cmpR (opr_cmp ok.hu cp) ha.po hb.po (behind_of hy)) fun σ H Q q => by rw [ok.K]; exact tcmpT cp Q q
theorem s_chn {cp cp' : Cp} {x y z : Expr} {a b d : E} {pos : Pos} (ok : Cok G cl c X) (hz : noSet z = true) (ha : Snd G X x (evE cl a) a) (hb : Snd G X y (evE cl b) b) (hd : Snd G X z (evE cl d) d) :
    Snd G X (.Compare x [cpOf cp, cpOf cp'] [y, z] pos) (evE cl (.chn cp a b cp' d)) (.chn cp a b cp' d) :=
  .of (pe_weak (pe_chain (opr_cmp ok.hu cp) (opr_cmp ok.hu cp') ha.po hb.po hd.po (behind_of hz)) fun σ H Q q => by rw [ok.K]; exact tchain cp cp' Q q) (fun i q => by cases q)
theorem t_chn {cp cp' : Cp} {x y z : Expr} {a b d : E} {pos : Pos} (ok : Cok G cl c X) (hz : noSet z = true) (ha : Snd G X x (evE cl a) a) (hb : Snd G X y (evE cl b) b) (hd : Snd G X z (evE cl d) d) :
    PT X (.Compare x [cpOf cp, cpOf cp'] [y, z] pos) (TTo G (evT cl (.chn cp a b cp' d))) :=
  pt_weak (pt_chain (opr_cmp ok.hu cp) (opr_cmp ok.hu cp') ha.po hb.po hd.po (behind_of hz)) fun σ H Q q => by rw [ok.K]; exact tchainT cp cp' Q q
theorem s_and {x y : Expr} {r : List Expr} {a b : E} {pos : Pos} (ha : Snd G X x (evE cl a) a) (hb : Snd G X (.BoolOp .And (y :: r) pos) (evE cl b) b) : Snd G X (.BoolOp .And (x :: y :: r) pos) (evE cl (.and a b)) (.and a b) :=
  .of (pe_weak (pe_and ha.pe hb.pe) fun σ H Q q => tand Q q) (fun i q => by cases q)
theorem s_or {x y : Expr} {r : List Expr} {a b : E} {pos : Pos} (ha : Snd G X x (evE cl a) a) (hb : Snd G X (.BoolOp .Or (y :: r) pos) (evE cl b) b) : Snd G X (.BoolOp .Or (x :: y :: r) pos) (evE cl (.or a b)) (.or a b) :=
  .of (pe_weak (L2.pe_or ha.pe hb.pe) fun σ H Q q => tor Q q) (fun i q => by cases q)
theorem s_ite {t x y : Expr} {k a b : E} {pos : Pos} (hk : PT X t (TTo G (evT cl k))) (ha : Snd G X x (evE cl a) a) (hb : Snd G X y (evE cl b) b) : Snd G X (.IfExp t x y pos) (evE cl (.ite k a b)) (.ite k a b) :=
  .of (pe_weak (pe_ifExp hk ha.pe hb.pe) fun σ H Q q => tite Q q) (fun i q => by cases q)

/-! ### subscripts -/
def noSl : Expr → Bool
  | .Slice .. => false
  | _ => true
theorem nosl_of {e : Expr} (h : noSl e = true) : PlainIx e := by
  cases e <;> first | (intro o i; rfl) | (simp [noSl] at h)
theorem s_idx {x y : Expr} {a b : E} {pos : Pos} (ok : Cok G cl c X) (hy : noSl y = true) (ha : Snd G X x (evE cl a) a) (hb : Snd G X y (evE cl b) b) : Snd G X (.Subscript x y pos) (evE cl (.idx a b)) (.idx a b) :=
  .of (pe_weak (pe_ix (ix_all ok.hu) ha.po hb.po (nosl_of hy)) fun σ H Q q => by rw [ok.K]; exact op2 idx_ok σ H Q q) (fun i q => by cases q)
def sameKv : List (D × D) → List (D × D) → Bool
  | [], [] => true
  | p :: l, q :: m => D.same p.1 q.1 && (D.same p.2 q.2 && sameKv l m)
  | _, _ => false
theorem sameKv_ok : ∀ {l m : List (D × D)}, sameKv l m = true → l = m
  | [], [], _ => rfl
  | (a, b) :: l, (a', b') :: m, h => by
    simp only [sameKv, Bool.and_eq_true] at h
    rw [same_ok h.1, same_ok h.2.1, sameKv_ok h.2.2]
  | [], _ :: _, h => by cases h
  | _ :: _, [], h => by cases h
theorem ix_kd {X : Cx} {d : Addr} {es : Array DictEntry} {n : Nat} (D : KDict X.K X.w d es n) : IxR X (fun x y H Q => ∃ (z : Str) (u0 : Value) (v0 : V), x = .ref d ∧ y = .str z ∧ PySem.W.nsIn X.K d z = some (some u0) ∧ RelV v0 u0 ∧ Q v0 H) := by
  intro value slice pins s σ H x y v u Q I rx ry h hs
  have ht := kd_type D I
  have g := op_item_kd D pins s σ H x y v u Q I rx ry h
  obtain ⟨z, u0, v0, rfl, rfl, e, r, q⟩ := h
  cases rx
  exact tail_any ht PySem.F.slot_dict_getitem.lookup g hs
/-- a table of the text: its name, what is in it -/
def isTab (c : Cxt) (x : Str) (kv : List (D × D)) : Bool := glB c.sc x && (nmB x && c.tabs.any fun p => decide (p.1 = x) && sameKv p.2 kv)
theorem s_idxT {x : Str} {y : Expr} {kv : List (D × D)} {b : E} {p pos : Pos} (ok : Cok G cl c X) (hx : isTab c x kv = true) (hy : noSl y = true) (hb : Snd G X y (evE cl b) b) : Snd G X (.Subscript (.Name x p) y pos) (evE cl (.idx (.glb (.dct kv)) b)) (.idx (.glb (.dct kv)) b) := by
  unfold isTab at hx
  simp only [Bool.and_eq_true, List.any_eq_true, decide_eq_true_eq] at hx
  obtain ⟨h1, h2, ⟨x', kv'⟩, h3, h4, h5⟩ := hx
  have h4 : x' = x := h4
  have h5 : kv' = kv := sameKv_ok h5
  subst h4 h5
  obtain ⟨a, es, n, e1, D, e2⟩ := ok.tabs _ _ h3
  refine .of (pe_weak (pe_ix (ix_kd D) (pe_glob (v := .ref a) (gl_ok ok h1) e1 rfl (nmB_ok h2).1) hb.po (nosl_of hy)) fun σ H Q q => ?_) (fun i q => by cases q)
  have hf : Op1Ok G (fun y H Q => ∃ (z : Str) (u0 : Value) (v0 : V), (V.ref a : V) = .ref a ∧ y = .str z ∧ PySem.W.nsIn X.K a z = some (some u0) ∧ RelV v0 u0 ∧ Q v0 H) (fun y => (idx2 (.dct kv') y).map OV.fz) := by
    intro F H y oy Sy L o Q ry w e hd
    obtain ⟨d, e3, rfl⟩ := Option.map_eq_some_iff.mp e
    have e4 : (if keyOk oy.d = true then dGet kv' oy.d else none) = some d := by
      have : idx2 (.dct kv') oy.d = if keyOk oy.d = true then dGet kv' oy.d else none := by cases oy.d <;> rfl
      rw [← this]; exact e3
    split at e4
    · rename_i hk
      obtain ⟨z, u, v, g1, g2, g3, g4⟩ := e2 _ _ e4 hk
      cases ry.str g1
      exact ⟨sv z, u, v, rfl, rfl, g2, g3, hd.now w (g4 F)⟩
    · cases e4
  have q' : TEo G (fun ρ => ((fun ρ => opd b (evE cl b ρ) ρ) ρ).bd fun y ρ => .of ((y.view ρ).bind fun y => (idx2 (.dct kv') y).map OV.fz) ρ) σ H Q := by
    have e5 : (fun ρ => ((fun ρ => opd b (evE cl b ρ) ρ) ρ).bd fun y ρ => Res.of ((y.view ρ).bind fun y => (idx2 (.dct kv') y).map OV.fz) ρ) = evE cl (.idx (.glb (.dct kv')) b) := by
      funext ρ
      rw [evE, evE]
      rfl
    rw [e5]; exact q
  exact op1 hf σ H Q q'
theorem t_idx {x y : Expr} {a b : E} {pos : Pos} (ok : Cok G cl c X) (hy : noSl y = true) (ha : Snd G X x (evE cl a) a) (hb : Snd G X y (evE cl b) b) : PT X (.Subscript x y pos) (TTo G (evT cl (.idx a b))) :=
  pt_weak (pt_truth (pe_ix (ix_all ok.hu) ha.po hb.po (nosl_of hy)) fun _ => rfl) fun σ H Q q => by
    rw [ok.K]
    refine test_of_op2 idx_ok Q ?_
    have e : ∀ x y, (((idx2 x y).map OV.fz).bind fun o => truth o.d) = (idx2 x y).bind truth := by
      intro x y
      cases idx2 x y <;> rfl
    simp only [e]
    exact q
theorem po_end {e : Expr} {te : TE} (h : PE X e te) : PO X (some e) (tEnd te) := by
  refine ⟨fun pins s σ H Q I hw => ?_⟩
  rw [evalPart_some]
  refine thn (h.run pins s σ H _ I hw) fun u s1 ⟨x, H1, I1, r1, q1⟩ => ?_
  rcases q1 with ⟨rfl, q⟩ | ⟨i, rfl, q⟩
  · cases r1; exact ⟨none, H1, I1, .none, q⟩
  · obtain ⟨t, rfl⟩ := r1
    exact ⟨some i, H1, I1, .int i t, q⟩
/-- an end of a slice -/
def POk (G : Gx) (X : Cx) (cl : CL) (l : Option Expr) (a : E) : Prop := PO X l (tEnd (TOo G fun ρ => opd a (evE cl a ρ) ρ))
theorem po_weak {e : Option Expr} {t t' : TO} (h : PO X e t) (k : ∀ σ H Q, t' σ H Q → t σ H Q) : PO X e t' := ⟨fun pins s σ H Q I q => h.run pins s σ H Q I (k σ H Q q)⟩
theorem pok_none : POk G X cl none (.cst .non) := by
  refine po_weak po_none fun σ H Q ⟨ρ, F, S, R, hs, hw, hp⟩ => ?_
  have := hp .non F H S [] .refl (fun _ _ => rfl) hs (show OpdR G σ F H .non (.tmp (.fz .non)) [] from .fz .non) (by simpa using hw)
  rcases this with ⟨_, q⟩ | ⟨i, e, _⟩
  · exact q
  · cases e
theorem pok_some {e : Expr} {a : E} (h : Snd G X e (evE cl a) a) : POk G X cl (some e) a := po_end h.po
theorem s_slc {x : Expr} {l h : Option Expr} {a lo hi : E} {p pos : Pos} (hK : X.K = G.K) (ha : Snd G X x (evE cl a) a) (hl : POk G X cl l lo) (hh : POk G X cl h hi) : Snd G X (.Subscript x (.Slice l h none p) pos) (evE cl (.slc a lo hi)) (.slc a lo hi) :=
  .of (pe_weak (pe_slice sl_all ha.po hl hh) fun σ H Q q => by rw [hK]; exact tslc Q q) (fun i q => by cases q)

/-! ### displays -/
def PAk (G : Gx) (X : Cx) (cl : CL) (es : List Expr) (l : Es) : Prop := PA X es (TAo G (evEs cl l))
theorem pa_weak {e : List Expr} {t t' : TA} (h : PA X e t) (k : ∀ σ H Q, t' σ H Q → t σ H Q) : PA X e t' := ⟨fun pos pins s σ H Q I q => h.run pos pins s σ H Q I (k σ H Q q)⟩
theorem a_nil : PAk G X cl [] .nil := pa_weak pa_nil fun σ H Q q => tes_nil Q q
theorem a_cons {e : Expr} {es : List Expr} {a : E} {l : Es} (hn : noStar e = true) (h : Snd G X e (evE cl a) a) (hs : PAk G X cl es l) : PAk G X cl (e :: es) (.cons a l) :=
  pa_weak (pa_cons h.pe hs (star_of hn)) fun σ H Q q => tes_cons Q q
theorem s_tup {es : List Expr} {l : Es} {k : Nat} {pos : Pos} (h : PAk G X cl es l) : Snd G X (.Tuple es k pos) (evE cl (.tup l)) (.tup l) := .of (pe_weak (pe_tup h) fun σ H Q q => ttup Q q) (fun i q => by cases q)
theorem s_lst {es : List Expr} {l : Es} {pos : Pos} (h : PAk G X cl es l) : Snd G X (.List es pos) (evE cl (.lst l)) (.lst l) := .of (pe_weak (pe_lst h) fun σ H Q q => tlst Q q) (fun i q => by cases q)
def PPk (G : Gx) (X : Cx) (cl : CL) (pos : Pos) (ks : List (Option Expr)) (vs : List Expr) (l : Ps) : Prop := ∃ trs, PPs X pos ks vs trs ∧ ∀ σ H Q, TR G (repP G) (evPs cl l) σ H Q → tPairs trs σ H Q
theorem p_nil {pos : Pos} : PPk G X cl pos [] [] .nil := ⟨[], pps_nil, fun σ H Q q => tps_nil Q q⟩
theorem p_cons {pos : Pos} {k v : Expr} {ks : List (Option Expr)} {vs : List Expr} {a b : E} {l : Ps} (h1 : Snd G X k (evE cl a) a) (h2 : Snd G X v (evE cl b) b) (h : PPk G X cl pos ks vs l) : PPk G X cl pos (some k :: ks) (v :: vs) (.cons a b l) := by
  obtain ⟨trs, h3, h4⟩ := h
  exact ⟨_, pps_cons h1.pe h2.pe h3, fun σ H Q q => tps_cons h4 Q q⟩
theorem s_dct {pos : Pos} {ks : List (Option Expr)} {vs : List Expr} {l : Ps} (h : PPk G X cl pos ks vs l) (hc : (ks.all (·.isSome) && decide (ks.length = vs.length) && decide (ks.length ≤ 15)) = true) (h0 : ks ≠ []) : Snd G X (.Dict ks vs pos) (evE cl (.dct l)) (.dct l) := by
  simp only [Bool.and_eq_true, decide_eq_true_eq] at hc
  obtain ⟨trs, h3, h4⟩ := h
  exact .of (pe_weak (pe_disp h3 hc.1.1 hc.1.2 h0 hc.2) fun σ H Q q => tdct h4 Q q) (fun i q => by cases q)
theorem s_dct0 {pos : Pos} : Snd G X (.Dict [] [] pos) (evE cl (.dct .nil)) (.dct .nil) :=
  .of (pe_weak pe_dnewK fun σ H Q ⟨ρ, F, S, R, hs, hw, hp⟩ p hpn => (Post.done (T := []) (o := .dct []) hp hs (by simpa using hw)).dct (by simpa using hw) hpn .nil) (fun i q => by cases q)

/-! ### calls of built-in names -/
theorem boot_bi (b : BI) : match biKind b with
    | .bi id => bootBuiltins (id : Str) = some (.builtin id)
    | .ty t => bootBuiltins (t : Str) = some (.type t)
    | .no => True := by
  cases b <;> first | exact boot_len | exact boot_abs | exact boot_int | exact boot_str | exact boot_tuple | exact boot_list | exact boot_all | exact boot_any | exact boot_sum | exact boot_sorted | trivial
def biB (c : Cxt) (f : Str) (b : BI) : Bool := match biKind b with
  | .bi id => isBlt c f (Str.ofString id)
  | .ty t => isBlt c f (Str.ofString t)
  | .no => false
theorem pe_biB {f : Str} {b : BI} {x : Expr} {a : E} {p pos : Pos} (ok : Cok G cl c X) (hb : biB c f b = true) (hx : noStar x = true) (ha : Snd G X x (evE cl a) a) :
    biKind b ≠ .no ∧ PE X (.Call (.Name f p) [x] [] pos) (tCB (rBi X.K b) (tCons (TOo G fun ρ => opd a (evE cl a ρ) ρ) tNil)) := by
  have h1 := boot_bi b
  have h2 := callr_bi (X := X) ok.hu ok.calm b
  unfold biB at hb
  cases e : biKind b with
  | bi id =>
    rw [e] at h1 h2 hb
    obtain ⟨rfl, g1, g2, g3, g4⟩ := blt_ok ok hb
    exact ⟨by simp, pe_callB h2 g1 g2 h1 (pa_cons ha.po pa_nil (star_of hx)) g3 g4 (star_of hx) (plain_of (es := []) rfl)⟩
  | ty t =>
    rw [e] at h1 h2 hb
    obtain ⟨rfl, g1, g2, g3, g4⟩ := blt_ok ok hb
    exact ⟨by simp, pe_callTy h2 g1 g2 h1 (pa_cons ha.po pa_nil (star_of hx)) g3 g4 (star_of hx) (plain_of (es := []) rfl)⟩
  | no => rw [e] at hb; cases hb
theorem s_bi {f : Str} {b : BI} {x : Expr} {a : E} {p pos : Pos} (ok : Cok G cl c X) (hb : biB c f b = true) (hx : noStar x = true) (ha : Snd G X x (evE cl a) a) : Snd G X (.Call (.Name f p) [x] [] pos) (evE cl (.bi b a)) (.bi b a) := by
  obtain ⟨h1, h2⟩ := pe_biB (p := p) (pos := pos) ok hb hx ha
  exact .of (pe_weak h2 fun σ H Q q => by rw [ok.K]; exact tbi b h1 Q q) (fun i q => by cases q)
theorem t_bi {f : Str} {b : BI} {x : Expr} {a : E} {p pos : Pos} (ok : Cok G cl c X) (hb : biB c f b = true) (hx : noStar x = true) (ha : Snd G X x (evE cl a) a) : PT X (.Call (.Name f p) [x] [] pos) (TTo G (evT cl (.bi b a))) := by
  obtain ⟨h1, h2⟩ := pe_biB (p := p) (pos := pos) ok hb hx ha
  refine pt_weak (pt_truth h2 fun _ => rfl) fun σ H Q q => ?_
  rw [ok.K]
  refine test_of_op1 (bi_ok b) Q ?_
  have e : (fun x => (match biKind b with | .no => none | _ => bi1 b x : Option OV).bind fun o => truth o.d) = fun x => (bi1 b x).bind fun o => truth o.d := by
    funext x
    cases b <;> first | rfl | exact absurd rfl h1
  simp only [e]
  exact q
end
end Ev
end
section
set_option Elab.async false
set_option linter.all false
set_option maxRecDepth 100000
set_option maxHeartbeats 1000000
/-! EvP: calls, comprehensions, what is gone through, targets: the checks' parts. -/
namespace Ev
open PySem L2 PyProof.Rows RZ
section
variable {G : Gx} {X : Cx} {cl : CL} {c : Cxt} {α W : Type}

theorem TR.imp {rep : Fz → Hp → W → α → List Addr → Prop} {g : Env → Res α} {σ : L2.St} {H : Hp} {Q Q' : W → Hp → Prop} (h : TR G rep g σ H Q) (hq : ∀ w H, Q w H → Q' w H) : TR G rep g σ H Q' := by
  obtain ⟨ρ, F, S, R, a1, a2, a3⟩ := h
  exact ⟨ρ, F, S, R, a1, a2, a3.imp hq⟩

/-! ### isinstance -/
theorem boot_ty (t : Ty) : bootBuiltins (Str.ofString (tyName t)) = some (.type (tyName t)) := by
  cases t <;> first | exact boot_int | exact boot_bool | exact boot_str | exact boot_tuple | exact boot_list | exact boot_dict
theorem pe_ty {t : Ty} {y : Str} {p : Pos} (ok : Cok G cl c X) (h : isBlt c y (Str.ofString (tyName t)) = true) : PE X (.Name y p) (tC (.ty (tyName t))) := by
  obtain ⟨rfl, g1, g2, g3, g4⟩ := blt_ok ok h
  exact pe_bltn g1 g2 (boot_ty t) rfl g3 g4
theorem s_isi {f y : Str} {t : Ty} {x : Expr} {a : E} {p p2 pos : Pos} (ok : Cok G cl c X) (hf : isBlt c f (Str.ofString "isinstance") = true) (hy : isBlt c y (Str.ofString (tyName t)) = true) (hx : noStar x = true) (ha : Snd G X x (evE cl a) a) :
    PE X (.Call (.Name f p) [x, .Name y p2] [] pos) (tUn (fun x H Q => ∃ t', [t] = [t'] ∧ rIsi G.K [x, .ty (tyName t')] H Q) (TOo G fun ρ => opd a (evE cl a ρ) ρ)) := by
  obtain ⟨rfl, g1, g2, g3, g4⟩ := blt_ok ok hf
  refine pe_weak (pe_callB (call_isi (X := X)) g1 g2 boot_isinstance (pa_cons ha.po (pa_cons (pe_ty ok hy) pa_nil (star_of rfl)) (star_of hx)) g3 g4 (star_of hx) (plain_of (es := [.Name y p2]) rfl)) fun σ H Q q => ?_
  refine TR.imp q fun v H1 ⟨t', e, q⟩ => ?_
  cases e
  rw [ok.K]
  exact q
def tysB (c : Cxt) : List Expr → List Ty → Bool
  | [], [] => true
  | .Name y _ :: es, t :: ts => isBlt c y (Str.ofString (tyName t)) && tysB c es ts
  | _, _ => false
theorem pa_tys (ok : Cok G cl c X) : ∀ {es : List Expr} {ts : List Ty}, tysB c es ts = true → PA X es (tTys ts)
  | [], [], _ => pa_nil
  | .Name y p :: es, t :: ts, h => by
    simp only [tysB, Bool.and_eq_true] at h
    exact pa_cons (pe_ty ok h.1) (pa_tys ok h.2) (star_of rfl)
  | [], _ :: _, h => by simp [tysB] at h
  | e :: es, [], h => by cases e <;> simp [tysB] at h
theorem s_isiT {f : Str} {ts : List Ty} {x : Expr} {es : List Expr} {a : E} {k : Nat} {p p2 pos : Pos} (ok : Cok G cl c X) (hf : isBlt c f (Str.ofString "isinstance") = true) (hes : tysB c es ts = true) (hl : ts.length ≤ 100) (hx : noStar x = true) (ha : Snd G X x (evE cl a) a) :
    PE X (.Call (.Name f p) [x, .Tuple es k p2] [] pos) (tUn (fun x H1 Q => ∀ p, H1 p = none → rIsiT G.K [x, .ref p] (upd H1 p (.tup (ts.map fun t => .ty (tyName t)))) Q) (TOo G fun ρ => opd a (evE cl a ρ) ρ)) := by
  obtain ⟨rfl, g1, g2, g3, g4⟩ := blt_ok ok hf
  refine pe_weak (pe_callB (call_isiT (X := X)) g1 g2 boot_isinstance (pa_cons ha.po (pa_cons (pe_tup (pa_tys ok hes)) pa_nil (star_of rfl)) (star_of hx)) g3 g4 (star_of hx) (plain_of (es := [.Tuple es k p2]) rfl)) fun σ H Q q => ?_
  refine TR.imp q fun v H1 q => ?_
  rw [ok.K]
  refine tTys_run ts (σ := σ) (H := H1) (fun xs H2 => xs.length ≤ sizeLine ∧ ∀ p, H2 p = none → rIsiT G.K [v, .ref p] (upd H2 p (.tup xs)) Q) ⟨?_, fun p hp => q p hp⟩
  rw [List.length_map, line_eq]
  show ts.length ≤ 16777216
  omega
theorem ev_isi {e : Expr} {ts : List Ty} {a : E} {r : V → Hp → VK → Prop} (hK : X.K = G.K) (h : PE X e (tUn r (TOo G fun ρ => opd a (evE cl a ρ) ρ))) (ho : Op1Ok G r (isi2 ts)) (hT : ∀ whole, isTrue e X.env whole = (do let v ← whole; standAt e.pos; holding [v] (truthy v))) :
    Snd G X e (evE cl (.isi a ts)) (.isi a ts) ∧ PT X e (TTo G (evT cl (.isi a ts))) :=
  ⟨.of (pe_weak h fun σ H Q q => op1 ho σ H Q q) (fun i q => by cases q), pt_weak (pt_truth h hT) fun σ H Q q => by rw [hK]; exact test_of_op1 ho Q q⟩

/-! ### sorted(set(..)) -/
theorem boot_set' : bootBuiltins (Str.ofString "set") = some (.type "set") := by decide +kernel
theorem s_ss {f g : Str} {x : Expr} {a : E} {p p2 pos pos2 : Pos} (ok : Cok G cl c X) (hf : isBlt c f (Str.ofString "sorted") = true) (hg : isBlt c g (Str.ofString "set") = true) (hx : noStar x = true) (ha : Snd G X x (evE cl a) a) :
    Snd G X (.Call (.Name f p) [.Call (.Name g p2) [x] [] pos2] [] pos) (evE cl (.bi .sortset a)) (.bi .sortset a) := by
  obtain ⟨rfl, g1, g2, g3, g4⟩ := blt_ok ok hf
  obtain ⟨rfl, h1, h2, h3, h4⟩ := blt_ok ok hg
  have inner : PE X (.Call (.Name (Str.ofString "set") p2) [x] [] pos2) (tCB (rSetKs X.K X.prog X.w) (tCons (TOo G fun ρ => opd a (evE cl a ρ) ρ) tNil)) :=
    pe_callTy (cr_setKs ok.calm) h1 h2 boot_set' (pa_cons ha.po pa_nil (star_of hx)) h3 h4 (star_of hx) (plain_of (es := []) rfl)
  refine .of (pe_weak (pe_callB (cr_sortKs ok.calm ok.hu) g1 g2 boot_sorted (pa_cons inner pa_nil (star_of rfl)) g3 g4 (star_of rfl) (plain_of (es := []) rfl)) fun σ H Q q => ?_) (fun i q => by cases q)
  rw [ok.K]
  exact op1 (ss_ok (P := X.prog) (w := X.w)) σ H Q q

/-! ### methods -/
theorem few1 {cpos : Pos} {env : PySem.Env} {es : List Expr} (h : noStars es = true) (hl : es.length < 20) : ((PySem.backTo cpos (starEach es env)).all (fun x => !x.1) && (backToKw cpos (keywordEach [] env)).all (fun x => x.1.isSome)
      && decide (es.length + ([] : List Keyword).length + (if ([] : List Keyword).isEmpty then 0 else 1) < 30)) = true := by
  rw [plain_all h]
  have : es.length < 30 := by omega
  simp [this, backToKw, keywordEach]
theorem pe_mt1B {m : MT} {o y : Expr} {a b : E} {apos cpos : Pos} (hm : mtId m ≠ "") (hn : noSuper o = true) (hy : noStar y = true) (hl : (apos.endLine == cpos.line) = true) (ha : Snd G X o (evE cl a) a) (hb : Snd G X y (evE cl b) b) :
    PE X (.Call (.Attribute o (mtName m) apos) [y] [] cpos) (tBM X.K "str" (rMt X.K m) (TOo G fun ρ => opd a (evE cl a ρ) ρ) (tCons (TOo G fun ρ => opd b (evE cl b ρ) ρ) tNil)) := by
  have hs : noStars [y] = true := by simp [noStars, hy]
  exact pe_bm PySem.F.plainAttrs_str (slot_mt hm) (type_mt hm) (mtr hm) ha.po (pa_cons hb.po pa_nil (star_of hy)) (base_of hn) (few1 hs (by simp)) hl (star_of hy) (plain_of (es := []) rfl)
theorem m1_of {o y : Expr} {m : Str} {apos cpos : Pos} (hn : noSuper o = true) (hy : noStar y = true) (hl : (apos.endLine == cpos.line) = true) : M1 X o m apos y cpos := by
  have hs : noStars [y] = true := by simp [noStars, hy]
  exact ⟨base_of hn, few1 hs (by simp), hl, bt_of hs⟩
theorem m2_of {o y z : Expr} {m : Str} {apos cpos : Pos} (hn : noSuper o = true) (hy : noStar y = true) (hz : noStar z = true) (hl : (apos.endLine == cpos.line) = true) : M2 X o m apos y z cpos := by
  have hs : noStars [y, z] = true := by simp [noStars, hy, hz]
  exact ⟨base_of hn, few1 hs (by simp), hl, bt_of hs⟩
theorem hu1 (ok : Cok G cl c X) : X.A.units + 1 < cLine := by have := ok.hu; omega
theorem s_mt1 {m : MT} {o y : Expr} {a b : E} {apos cpos : Pos} (ok : Cok G cl c X) (hm : mtId m ≠ "" ∨ m = .get) (hn : noSuper o = true) (hy : noStar y = true) (hl : (apos.endLine == cpos.line) = true) (ha : Snd G X o (evE cl a) a) (hb : Snd G X y (evE cl b) b) :
    Snd G X (.Call (.Attribute o (mtName m) apos) [y] [] cpos) (evE cl (.mt1 m a b)) (.mt1 m a b) := by
  refine .of ?_ (fun i q => by cases q)
  rcases hm with hm | rfl
  · exact pe_weak (pe_mt1B hm hn hy hl ha hb) fun σ H Q q => by rw [ok.K]; exact tmt1 hm Q q
  · exact pe_weak (pe_dget1 (hu1 ok) ha.po hb.po (m1_of hn hy hl)) fun σ H Q q => tget1 Q q
theorem s_mt2 {o y z : Expr} {a b d : E} {apos cpos : Pos} (ok : Cok G cl c X) (hn : noSuper o = true) (hy : noStar y = true) (hz : noStar z = true) (hl : (apos.endLine == cpos.line) = true) (ha : Snd G X o (evE cl a) a) (hb : Snd G X y (evE cl b) b) (hd : Snd G X z (evE cl d) d) :
    Snd G X (.Call (.Attribute o (mtName .get) apos) [y, z] [] cpos) (evE cl (.mt2 .get a b d)) (.mt2 .get a b d) :=
  .of (pe_weak (pe_dget2 (hu1 ok) ha.po hb.po hd.pe (m2_of hn hy hz hl)) fun σ H Q q => tget2 Q q) (fun i q => by cases q)
/-- a method's truth -/
theorem tmt1T {m : MT} (hm : mtId m ≠ "") {σ : L2.St} {H : Hp} {ga gb : Env → Res Opd} : ∀ Q, TTo G (fun ρ => (ga ρ).bd fun x ρ => (Res.of ((x.view ρ).bind (recvOk m)) ρ).bd fun _ ρ => (gb ρ).bd fun y ρ => .of ((x.view ρ).bind fun x => (y.view ρ).bind fun y => (mth1 m x y).bind fun o => truth o.d) ρ) σ H Q →
    tBM G.K "str" (rMt G.K m) (TOo G ga) (tCons (TOo G gb) tNil) σ H fun v H' => ∃ k, TruV G.K v H' k ∧ Q k H' := by
  rintro Q ⟨ρ, F, S, R, hs, hw, hp⟩
  show TOo G ga σ H _
  obtain ⟨ρ', F', S', R', a1, a2, a3⟩ := step (G := G) (rep := repO G σ) (T := []) hs hw hp
  refine ⟨ρ', F', S', R', a1, a2, a3.imp ?_⟩
  rintro x H1 ⟨ox, ρ1, F1, S1, Sx, hF1, _, hs1, rx, hw1, hp1⟩
  cases e0 : (ox.view ρ1).bind (recvOk m) with
  | none => simp only [e0, Res.of] at hp1; exact False.elim hp1
  | some u =>
    simp only [e0, Res.of, Res.bd_ok] at hp1
    obtain ⟨dx0, e1, e2⟩ := Option.bind_eq_some_iff.mp e0
    obtain ⟨vx0, Sx0, qx0, rfl⟩ := rx.view hs1 e1
    have hstr : tyV G.K "str" x H1 := by
      cases hx : vx0.d with
      | str a => cases qx0.str hx; exact rfl
      | _ => rw [hx] at e2; cases m <;> first | exact absurd rfl hm | cases e2
    refine ⟨hstr, ?_⟩
    show TOo G gb σ H1 _
    obtain ⟨ρ', F', S', R', a1, a2, a3⟩ := step (G := G) (rep := repO G σ) (T := Sx) hs1 (by simpa using hw1) hp1
    refine ⟨ρ', F', S', R', a1, a2, a3.imp ?_⟩
    rintro y H2 ⟨oy, ρ2, F2, S2, Sy, hF2, hT2, hs2, ry, hw2, hp2⟩
    cases e : ((ox.view ρ2).bind fun x => (oy.view ρ2).bind fun y => (mth1 m x y).bind fun o => truth o.d) with
    | none => simp only [e] at hp2; exact False.elim hp2
    | some b =>
      simp only [e] at hp2
      obtain ⟨dx, e1, e⟩ := Option.bind_eq_some_iff.mp e
      obtain ⟨dy, e2, e⟩ := Option.bind_eq_some_iff.mp e
      obtain ⟨o, e3, e6⟩ := Option.bind_eq_some_iff.mp e
      obtain ⟨vx, Sx', qx, rfl⟩ := (rx.mono hF2 hT2).view hs2 e1
      obtain ⟨vy, Sy', qy, rfl⟩ := ry.view hs2 e2
      have hw3 : Own F2 H2 ((Sy ++ Sx) ++ (S2 ++ R)) := by simpa [List.append_assoc] using hw2
      refine mt_ok hm F2 H2 x y vx vy Sx' Sy' _ o _ qx qy hw3 e3 ?_
      intro v F' H' Sv h1 h2 h3 h4
      have k : ∀ a ∈ (Sy ++ Sx) ++ (S2 ++ R), H' a = H2 a := fun a ha => h2 a (hw3.fr a ha).2
      exact ⟨b, tru_of h4.le h3 e6, hp2 b F' H' S2 [] h1 (fun a ha => k a (by simp [ha])) (hs2.mono h1 fun a ha => k a (by simp [ha])) ⟨rfl, rfl⟩ (h4.sub (by intro a; simp only [List.count_append]; simp; omega))⟩
theorem t_mt1 {m : MT} {o y : Expr} {a b : E} {apos cpos : Pos} (ok : Cok G cl c X) (hm : mtId m ≠ "") (hn : noSuper o = true) (hy : noStar y = true) (hl : (apos.endLine == cpos.line) = true) (ha : Snd G X o (evE cl a) a) (hb : Snd G X y (evE cl b) b) :
    PT X (.Call (.Attribute o (mtName m) apos) [y] [] cpos) (TTo G (evT cl (.mt1 m a b))) :=
  pt_weak (pt_truth (pe_mt1B hm hn hy hl ha hb) fun _ => rfl) fun σ H Q q => by rw [ok.K]; exact tmt1T hm Q q

/-! ### lists that change -/
theorem s_sdk {f : Str} {x : Expr} {a : E} {p pos : Pos} (ok : Cok G cl c X) (hf : isBlt c f (Str.ofString "sorted") = true) (hx : noStar x = true) (ha : Snd G X x (evE cl a) a) :
    Snd G X (.Call (.Name f p) [x] [] pos) (evE cl (.bi .sortdk a)) (.bi .sortdk a) := by
  obtain ⟨rfl, g1, g2, g3, g4⟩ := blt_ok ok hf
  exact .of (pe_weak (pe_callB (cr_sortDk ok.calm ok.hu) g1 g2 boot_sorted (pa_cons ha.po pa_nil (star_of hx)) g3 g4 (star_of hx) (plain_of (es := []) rfl)) fun σ H Q q => op1 sortdk_ok σ H Q q) (fun i q => by cases q)
/-! ### d.update(e) -/
theorem s_upd {x : Str} {i : Nat} {y : Expr} {a : E} {p apos cpos : Pos} (ok : Cok G cl c X) (hx : isVar c x i = true) (hy : noStar y = true) (hl : (apos.endLine == cpos.line) = true) (ha : Snd G X y (evE cl a) a) :
    Snd G X (.Call (.Attribute (.Name x p) (Str.ofString "update") apos) [y] [] cpos) (evE cl (.upd i a)) (.upd i a) := by
  have hs : noStars [y] = true := by simp [noStars, hy]
  refine .of (pe_weak (pe_bm PySem.F.plainAttrs_dict PySem.F.slot_dict_update PySem.F.type_dict_update mt_update (pe_varB ok hx) (pa_cons ha.pe pa_nil (star_of hy)) (base_of rfl) (few1 hs (by simp)) hl (star_of hy) (plain_of (es := []) rfl)) fun σ H Q q => ?_) (fun i q => by cases q)
  rw [ok.K]; exact tupd Q q
/-! ### xs[::-1] -/
def rRev (K : PySem.W.Frag) : V → Hp → VK → Prop := fun x H1 Q => ∃ a xs, x = .ref a ∧ ((SqL K H1 a xs ∧ ∀ p, H1 p = none → Q (.ref p) (upd H1 p (.lst xs.reverse))) ∨ (SqT K H1 a xs ∧ ∀ p, H1 p = none → Q (.ref p) (upd H1 p (.tup xs.reverse))))
theorem rev_ok : Op1Ok G (rRev G.K) (bi1 .rev) := by
  intro F H x ox Sx L o Q rx w e hd
  cases hx : ox.d with
  | tup l =>
    rw [hx] at e
    simp only [bi1] at e
    cases e
    obtain ⟨p, xs, rfl, hp, hxs⟩ := rx.tup w.le hx
    exact ⟨p, xs, rfl, .inr ⟨hp, fun q hq => hd.tup w hq hxs.reverse⟩⟩
  | lst l =>
    rw [hx] at e
    simp only [bi1] at e
    cases e
    obtain ⟨p, xs, rfl, hp, hxs⟩ := rx.lst' w.le hx
    exact ⟨p, xs, rfl, .inl ⟨.of hp, fun q hq => hd.lst w hq hxs.reverse⟩⟩
  | _ => rw [hx] at e; simp [bi1] at e
theorem s_rev {x : Expr} {a : E} {k : Nat} {p1 p2 p3 pos : Pos} (ok : Cok G cl c X) (ha : Snd G X x (evE cl a) a) :
    Snd G X (.Subscript x (.Slice none none (some (.UnaryOp .USub (.Constant (.int 1) k p1) p2)) p3) pos) (evE cl (.bi .rev a)) (.bi .rev a) :=
  .of (pe_weak (pe_revA ha.po) fun σ H Q q => by rw [ok.K]; exact op1 rev_ok σ H Q q) (fun i q => by cases q)

theorem s_mu1 {m : MU} {x : Str} {i : Nat} {y : Expr} {a : E} {p apos cpos : Pos} (ok : Cok G cl c X) (hx : isVar c x i = true) (hy : noStar y = true) (hl : (apos.endLine == cpos.line) = true) (ha : Snd G X y (evE cl a) a) :
    Snd G X (.Call (.Attribute (.Name x p) (muName m) apos) [y] [] cpos) (evE cl (.mu1 m i a)) (.mu1 m i a) := by
  have hs : noStars [y] = true := by simp [noStars, hy]
  refine .of (pe_weak (pe_bm PySem.F.plainAttrs_list (slot_mu m) (type_mu m) mur (pe_varB ok hx) (pa_cons ha.pe pa_nil (star_of hy)) (base_of rfl) (few1 hs (by simp)) hl (star_of hy) (plain_of (es := []) rfl)) fun σ H Q q => ?_) (fun i q => by cases q)
  rw [ok.K]; exact tmu1 Q q
theorem s_mu0 {x : Str} {i : Nat} {p apos cpos : Pos} (ok : Cok G cl c X) (hx : isVar c x i = true) (hl : (apos.endLine == cpos.line) = true) :
    Snd G X (.Call (.Attribute (.Name x p) (muName .pop) apos) [] [] cpos) (evE cl (.mu0 .pop i)) (.mu0 .pop i) := by
  refine .of (pe_weak (pe_bm0 PySem.F.plainAttrs_list (slot_mu .pop) (type_mu .pop) mt_pop (pe_varB ok hx) (base_of rfl) hl) fun σ H Q q => ?_) (fun i q => by cases q)
  rw [ok.K]; exact tmu0 rfl Q q

/-! ### calls of the text's own defs -/
def PBk (G : Gx) (X : Cx) (cl : CL) (es : List Expr) (l : As) : Prop := PA X es (TBo G (evAs cl l))
theorem b_nil : PBk G X cl [] .nil := pa_weak pa_nil fun σ H Q q => tbs_nil Q q
theorem b_val {e : Expr} {es : List Expr} {a : E} {l : As} (hn : noStar e = true) (h : Snd G X e (evE cl a) a) (hs : PBk G X cl es l) : PBk G X cl (e :: es) (.val a l) :=
  pa_weak (pa_cons h.pe hs (star_of hn)) fun σ H Q q => tbs_val Q q
theorem b_bor {x : Str} {i : Nat} {p : Pos} {es : List Expr} {l : As} (ok : Cok G cl c X) (hx : isVar c x i = true) (hs : PBk G X cl es l) : PBk G X cl (.Name x p :: es) (.bor i l) :=
  pa_weak (pa_cons (pe_varB ok hx) hs (star_of rfl)) fun σ H Q q => tbs_bor Q q
theorem pe_dfB {f : Str} {k np : Nat} {e : Expr} {es : List Expr} {l : As} {p pos : Pos} (ok : Cok G cl c X) (hf : isDef c f k np = true) (hs : noStars (e :: es) = true) (h : PBk G X cl (e :: es) l) :
    PE X (.Call (.Name f p) (e :: es) [] pos) (tCallSD (spD G np (cl k)) [] (fun _ => E0) (TBo G (evAs cl l))) ∧ ∀ os, os.length ≠ np → cl k os = .bad := by
  obtain ⟨g1, g2, D⟩ := def_ok ok hf
  obtain ⟨n, a, fd, ps, h1, h2, h3, h4, h5⟩ := D.ex
  unfold noStars at hs
  rw [List.all_cons, Bool.and_eq_true] at hs
  exact ⟨pe_callSD h1 h2 g1 h3 h4 h5 .nil (fun σ pins H s e s' I z => z.elim) h g2 (star_of hs.1) (plain_of hs.2), D.len⟩
theorem pe_df0 {f : Str} {k np : Nat} {p pos : Pos} (ok : Cok G cl c X) (hf : isDef c f k np = true) :
    PE X (.Call (.Name f p) [] [] pos) (tCallSD (spD G np (cl k)) [] (fun _ => E0) (TBo G (evAs cl .nil))) ∧ ∀ os, os.length ≠ np → cl k os = .bad := by
  obtain ⟨g1, g2, D⟩ := def_ok ok hf
  obtain ⟨n, a, fd, ps, h1, h2, h3, h4, h5⟩ := D.ex
  exact ⟨pe_weak (pe_call0 h1 h2 g1 h3 h4 h5 .nil L2.pass0 g2) fun σ H Q q => tbs_nil (σ := σ) (H := H) _ q, D.len⟩
theorem df_go {e : Expr} {k np : Nat} {l : As} (h : PE X e (tCallSD (spD G np (cl k)) [] (fun _ => E0) (TBo G (evAs cl l))) ∧ ∀ os, os.length ≠ np → cl k os = .bad) : PE X e (TEo G (evE cl (.df k l))) := pe_weak h.1 fun σ H Q q => tdf h.2 Q q
/-- a value's truth -/
theorem t_val {e : Expr} {g : Env → Res OV} (hK : X.K = G.K) (h : PE X e (TEo G g)) (hT : ∀ whole, isTrue e X.env whole = (do let v ← whole; standAt e.pos; holding [v] (truthy v))) : PT X e (TTo G fun ρ => (g ρ).bd fun o ρ => .of (truth o.d) ρ) := by
  refine pt_weak (pt_truth h hT) fun σ H Q ⟨ρ, F, S, R, hs, hw, hp⟩ => ?_
  rw [hK]
  obtain ⟨ρ', F', S', R', a1, a2, a3⟩ := step (G := G) (rep := repE G) (T := []) hs hw hp
  refine ⟨ρ', F', S', R', a1, a2, a3.imp ?_⟩
  rintro x H1 ⟨o, ρ1, F1, S1, Sx, hF1, _, hs1, rx, hw1, hp1⟩
  cases e : truth o.d with
  | none => simp only [e, Res.of] at hp1; exact False.elim hp1
  | some b =>
    simp only [e, Res.of] at hp1
    exact ⟨b, tru_of hw1.le rx e, hp1 b F1 H1 S1 [] .refl (fun _ _ => rfl) hs1 ⟨rfl, rfl⟩ (hw1.sub (by intro a; simp only [List.count_append]; simp))⟩
theorem t_varT {x : Str} {i : Nat} {pos : Pos} (ok : Cok G cl c X) (h : isVar c x i = true) : PT X (.Name x pos) (TTo G (evT cl (.var i))) := by
  refine pt_weak (pt_truth (pe_varB ok h) fun _ => rfl) fun σ H Q ⟨ρ, F, S, R, hs, hw, hp⟩ => ?_
  rw [ok.K]
  change Post G repT σ R F H Q (.of ((ρ.at i).bind fun o => truth o.d) ρ) at hp
  cases q : ρ.at i with
  | none => simp only [q, Res.of, Option.bind] at hp; exact False.elim hp
  | some ov =>
    obtain ⟨v, S1, Sv, S2, h1, h2, _⟩ := hs.get q
    cases e : truth ov.d with
    | none => simp only [q, e, Res.of, Option.bind] at hp; exact False.elim hp
    | some b =>
      simp only [q, e, Res.of, Option.bind] at hp
      exact ⟨v, h1, b, tru_of hw.le h2 e, hp b F H S [] .refl (fun _ _ => rfl) hs ⟨rfl, rfl⟩ (by simpa using hw)⟩

/-! ### what is gone through -/
def PIk (G : Gx) (X : Cx) (cl : CL) (tg e : Expr) (it : It) : Prop := PI X tg e (TIo G (evIt cl it))
theorem i_ev {tg e : Expr} {a : E} (hK : X.K = G.K) (h : Snd G X e (evE cl a) a) : PIk G X cl tg e (.ev a) := pi_weak (pi_any h.pe) fun σ H R q => by rw [hK]; exact tit_any R q
theorem i_r1 {tg x : Expr} {f : Str} {a : E} {p pos : Pos} (ok : Cok G cl c X) (hf : isBlt c f (Str.ofString "range") = true) (hx : noStar x = true) (ha : Snd G X x (evE cl a) a) : PIk G X cl tg (.Call (.Name f p) [x] [] pos) (.rng1 a) := by
  obtain ⟨rfl, g1, g2, g3, g4⟩ := blt_ok ok hf
  exact pi_weak (pi_range1 g1 g2 (pa_cons ha.po pa_nil (star_of hx)) (star_of hx)) fun σ H R q => tit_r1 R q
theorem i_r2 {tg x y : Expr} {f : Str} {a b : E} {p pos : Pos} (ok : Cok G cl c X) (hf : isBlt c f (Str.ofString "range") = true) (hx : noStar x = true) (hy : noStar y = true) (ha : Snd G X x (evE cl a) a) (hb : Snd G X y (evE cl b) b) : PIk G X cl tg (.Call (.Name f p) [x, y] [] pos) (.rng2 a b) := by
  obtain ⟨rfl, g1, g2, g3, g4⟩ := blt_ok ok hf
  refine pi_weak (pi_range2 g1 g2 (pa_cons ha.po (pa_cons hb.po pa_nil (star_of hy)) (star_of hx)) ?_ (star_of hy)) fun σ H R q => tit_r2 R q
  rw [star_of hx, star_of hy]; rfl
theorem i_dwn {tg x y : Expr} {f : Str} {a b : E} {k : Nat} {p p1 p2 pos : Pos} (ok : Cok G cl c X) (hf : isBlt c f (Str.ofString "range") = true) (hx : noStar x = true) (hy : noStar y = true) (ha : Snd G X x (evE cl a) a) (hb : Snd G X y (evE cl b) b) :
    PIk G X cl tg (.Call (.Name f p) [x, y, .UnaryOp .USub (.Constant (.int 1) k p1) p2] [] pos) (.dwn a b) := by
  obtain ⟨rfl, g1, g2, g3, g4⟩ := blt_ok ok hf
  have hs : noStars [y, .UnaryOp .USub (.Constant (.int 1) k p1) p2] = true := by
    unfold noStars
    rw [List.all_cons, hy]
    rfl
  have hm : PE X (.UnaryOp .USub (.Constant (.int 1) k p1) p2) (tC (.int (-1))) := pe_weak (pe_un un_neg pe_int) fun σ H Q q => ⟨1, rfl, q⟩
  exact pi_weak (pi_range3 g1 g2 (pa_cons ha.po (pa_cons hb.po (pa_cons hm pa_nil (star_of rfl)) (star_of hy)) (star_of hx)) (star_of hx) (plain_of hs)) fun σ H R q => tit_down R q
theorem i_enum {x : Expr} {es : List Expr} {kk : Nat} {f : Str} {a : E} {p pos tpos : Pos} (ok : Cok G cl c X) (hf : isBlt c f (Str.ofString "enumerate") = true) (hx : noStar x = true) (ha : Snd G X x (evE cl a) a) :
    PIk G X cl (.Tuple es kk tpos) (.Call (.Name f p) [x] [] pos) (.enum a) := by
  obtain ⟨rfl, g1, g2, g3, g4⟩ := blt_ok ok hf
  exact pi_weak (pi_enum g1 g2 (pa_cons ha.pe pa_nil (star_of hx)) (star_of hx)) fun σ H R q => by rw [ok.K]; exact tit_enum R q
theorem i_zip {x y : Expr} {es : List Expr} {kk : Nat} {f : Str} {a b : E} {p pos tpos : Pos} (ok : Cok G cl c X) (hf : isBlt c f (Str.ofString "zip") = true) (hx : noStar x = true) (hy : noStar y = true) (ha : Snd G X x (evE cl a) a) (hb : Snd G X y (evE cl b) b) :
    PIk G X cl (.Tuple es kk tpos) (.Call (.Name f p) [x, y] [] pos) (.zip a b) := by
  obtain ⟨rfl, g1, g2, g3, g4⟩ := blt_ok ok hf
  exact pi_weak (pi_zipA g1 g2 (pa_cons ha.pe (pa_cons hb.pe pa_nil (star_of hy)) (star_of hx)) (star_of hx) (plain_of (es := [y]) (by simp [noStars, hy]))) fun σ H R q => by rw [ok.K]; exact tit_zip R q
theorem folded_of {e : Expr} {env : PySem.Env} (h : noSet e = true) : ∀ x, foldedSetIterable e env x = pure x := by
  intro x
  cases e <;> first | rfl | (simp [noSet] at h)

/-! ### targets -/
def PGk (G : Gx) (X : Cx) (e : Expr) (g : Tg) : Prop := PG X e (TGo G g)
theorem g_nm {x : Str} {i : Nat} {p : Pos} (ok : Cok G cl c X) (h : isStore c x i = true) : PGk G X (.Name x p) (.nm i) := by
  obtain ⟨h1, h2, h3⟩ := store_okB ok h
  exact pg_weak (pg_name ok.nd h1 h2 h3) fun v σ H Q q => tg_nm q
theorem asg_of {e : Expr} {es : List Expr} {env : PySem.Env} (h : noStar e = true) : assignEach (e :: es) env = (false, assign e env) :: assignEach es env := by
  cases e <;> first | rfl | (simp [noStar] at h)
theorem asg_all {env : PySem.Env} : ∀ {es : List Expr}, noStars es = true → assignEach es env = es.map fun e => (false, assign e env)
  | [], _ => rfl
  | e :: es, h => by
    unfold noStars at h
    rw [List.all_cons, Bool.and_eq_true] at h
    rw [asg_of h.1, asg_all h.2]
    rfl
theorem gs_nil : PGs X [] (TGso G .nil) := pgs_weak pgs_nil fun v σ H Q q => tgs_nil q
theorem gs_cons {e : Expr} {es : List Expr} {t : Tg} {l : Tgs} (hn : noStar e = true) (h : PGk G X e t) (hs : PGs X es (TGso G l)) : PGs X (e :: es) (TGso G (.cons t l)) :=
  pgs_weak (pgs_cons h hs (by rw [asg_of hn]; rfl)) fun v σ H Q q => tgs_cons q
theorem g_tp {es : List Expr} {l : Tgs} {k : Nat} {p : Pos} (ok : Cok G cl c X) (hn : noStars es = true) (hl : es.length = l.len) (h : PGs X es (TGso G l)) : PGk G X (.Tuple es k p) (.tp l) := by
  refine pg_weak (pg_tup (n := l.len) ok.calm h (by rw [asg_all hn, List.length_map]; exact hl) ?_) fun v σ H Q q => by rw [ok.K]; exact tg_tp q
  rw [asg_all hn, List.findIdx?_map]
  have : ∀ es : List Expr, List.findIdx? ((fun z : Bool × (Value → Sem Unit) => z.1) ∘ fun e => (false, assign e X.env)) es = none := by
    intro es
    rw [List.findIdx?_eq_none_iff]
    intro x _
    rfl
  exact this es

/-! ### comprehensions -/
def blkCx (c : Cxt) (scope : Scope) : Cxt := { c with sc := relS scope c.sc, fn := (scope.names.map (·.1)).filter fun x => scope.names.lookup x == some .cell }
theorem cok_blk {s : Shared} {H : Hp} {scope : Scope} {C : Addr} {cells : List (Str × Addr)} {fp : List Addr} (ok : Cok G cl c X) : Cok G cl (blkCx c scope) (X.blk s H scope (compEnvC scope cells C X.env) fp) := by
  refine ⟨ok.K, ok.N, ok.nd, ?_, ok.calm, ?_, ok.hu, fun k name np h => ?_, ok.free, ok.cons, ok.tabs⟩
  · show relS scope X.env.scope = relS scope c.sc
    rw [ok.sc]
  · intro x hx
    simp only [blkCx, List.mem_filter] at hx
    exact hx.2
  · have D := ok.defs k name np h
    exact ⟨D.ex, D.len⟩
def ownOf (c : Cxt) (own : List Nat) : List (Str × Nat) := own.map fun i => ((c.N[i]?).getD (Str.ofString ""), i)
theorem own_snd (c : Cxt) (own : List Nat) : (ownOf c own).map (·.2) = own := by
  unfold ownOf
  rw [List.map_map]
  exact List.map_id' own
end
end Ev
end
section
set_option Elab.async false
set_option linter.all false
set_option maxRecDepth 100000
set_option maxHeartbeats 1000000
/-! EvL2: comprehensions with two sources. -/
namespace Ev
open PySem L2 PyProof.Rows
section
variable {G : Gx} {X : Cx} {σ : L2.St} {H : Hp} {cl : CL}
/-- the inner loop: from a list at D -/
theorem tlc_in {σ2 : L2.St} {R : List Addr} {F0 : Fz} {H0 : Hp} {Q : VK} {g : Tg} {own : List Nat} {gt : Env → Res Bool} {ge : Env → Res OV} (hg : ∀ i ∈ g.sets, i ∈ own) {ds : List D} {J : L2.It} {F1 : Fz} {ρ1 : Env} {S1 : List Addr} {H1 : Hp} {D : Addr} {acc1 : List Ev.D} {xs1 : List V} {C : List Ev.D → Env → Res OV} {Nx : Hp → Prop}
    (hs1 : St' G F1 H1 σ2 ρ1 S1) (jok : JOk G F1 J ds) (hD1 : H1 D = some (.lst xs1)) (hxs1 : Rfs G F1 xs1 acc1) (hw1 : Own F1 H1 (D :: (S1 ++ R))) (hp1 : Post G (repE G) σ R F1 H1 Q ((lcGo (lcF g own gt ge) ds acc1 ρ1).bd C))
    (hN : ∀ F H ρ S acc xs, St' G F H σ2 ρ S → FLe F1 F → H D = some (.lst xs) → Rfs G F xs acc → Own F H (D :: (S ++ R)) → Post G (repE G) σ R F H Q (C acc ρ) → Nx H) :
    ∃ W : Nat → Nat → Hp → Prop, (∃ m, W 0 m H1) ∧ ∀ i m H, W i m H →
      (J.stop i H ∧ Nx H) ∨ (J.go i H ∧ ∃ Nx1 : Hp → Prop, (∀ H', Nx1 H' → ∃ m', m' < m ∧ W (i + 1) m' H') ∧ ∀ x H', J.yld i H x H' → TGo G g x (L2.wipe σ2 own) H' fun σ3 H2 => L2.wipe σ3 own = L2.wipe σ2 own ∧ TTo G gt σ3 H2 fun b H3 =>
        if b = true then TEo G ge σ3 H3 fun y H4 => ∃ acc, H4 D = some (.lst acc) ∧ acc.length < sizeLine ∧ Nx1 (upd H4 D (.lst (acc ++ [y]))) else Nx1 H3) := by
  refine ⟨fun i m H => m = ds.length - i ∧ i ≤ ds.length ∧ ∃ ρ F S acc xs, St' G F H σ2 ρ S ∧ FLe F1 F ∧ H D = some (.lst xs) ∧ Rfs G F xs acc ∧ Own F H (D :: (S ++ R)) ∧
    Post G (repE G) σ R F H Q ((lcGo (lcF g own gt ge) (ds.drop i) acc ρ).bd C), ⟨ds.length, by simp, Nat.zero_le _, ρ1, F1, S1, acc1, xs1, hs1, .refl, hD1, hxs1, hw1, hp1⟩, ?_⟩
  rintro i m H ⟨rfl, hi, ρ, F, S, acc, xs, hs, hF, hDx, hxs, hw, hp⟩
  have hJ := jok F H hF hw.le
  by_cases hlt : i < ds.length
  · refine .inr ⟨hJ.1 i hlt, fun H => i + 1 ≤ ds.length ∧ ∃ ρ F S acc xs, St' G F H σ2 ρ S ∧ FLe F1 F ∧ H D = some (.lst xs) ∧ Rfs G F xs acc ∧ Own F H (D :: (S ++ R)) ∧
        Post G (repE G) σ R F H Q ((lcGo (lcF g own gt ge) (ds.drop (i + 1)) acc ρ).bd C), fun H' h => ⟨ds.length - (i + 1), by omega, rfl, h.1, h.2⟩, fun x H' hy => ?_⟩
    obtain ⟨F2, hF2, rx, hw2, hk2⟩ := hJ.2.2 i ds[i] x H' (List.getElem?_eq_getElem hlt) hy _ hw
    rw [List.drop_eq_getElem_cons hlt] at hp
    simp only [lcGo, Res.bd_assoc] at hp
    have hkS : ∀ a ∈ D :: (S ++ R), H' a = H a := fun a ha => hk2 a (hw.fr a ha).2
    have hs2 : St' G F2 H' σ2 ρ S := hs.mono hF2 fun a ha => hkS a (by simp [ha])
    have hp := hp.rebase hF2 fun a ha => hkS a (by simp [ha])
    have hDx2 : H' D = some (.lst xs) := (hkS D (by simp)).trans hDx
    have hxs2 := hxs.mono hF2
    cases eg : Tg.put g (.fz ds[i]) (Ev.wipe ρ own) with
    | none => simp only [lcF, eg, Res.of, Res.bd] at hp; exact False.elim hp
    | some ρg =>
      simp only [lcF, eg, Res.of, Res.bd_assoc, Res.bd_ok] at hp
      obtain ⟨Sw, hsw, hcw⟩ := hs2.wipe own
      refine ⟨.fz ds[i], Ev.wipe ρ own, ρg, F2, [], Sw, D :: R, .fz rx, hsw, hw2.sub (by intro a; have := hcw a; simp only [List.count_append, List.count_cons, List.nil_append] at this ⊢; omega), eg, fun σ3 S2 hs2' hw2' hag => ?_⟩
      have hag' : L2.wipe σ3 own = L2.wipe σ2 own := by
        have h1 : Agree σ2 σ3 own := (wipe_is_agree σ2 own).trans hag (fun _ h => h) hg
        exact wipe_agree h1
      refine ⟨hag', ?_⟩
      change Post G (repE G) σ R F2 H' Q ((gt ρg).bd fun b ρ_1 => _) at hp
      obtain ⟨ρ', F', S', R', a1, a2, a3⟩ := step' (G := G) (H := H') (P := fun r => Post G (repE G) σ R F2 H' Q r) (rep := repT) (T := []) (fun h => h) (fun _ _ h => h) hs2' (by simpa using hw2') hp
      refine ⟨ρ', F', S', R', a1, a2, a3.imp ?_⟩
      rintro b H3 ⟨b', ρ3, F3, S3, Sz, hF3, hT3, hs3, ⟨rfl, rfl⟩, hw3, hp3⟩
      have hk3 : ∀ a ∈ D :: R, H3 a = H' a := fun a ha => hT3 a (by simpa using ha)
      have hw3 : Own F3 H3 (S3 ++ (D :: R)) := by simpa using hw3
      cases b with
      | false =>
        simp only [Bool.false_eq_true, if_false, Res.bd_ok] at hp3 ⊢
        obtain ⟨S4, hs4, hc4⟩ := hs2.unwipe hs3 hF3 hag'
        refine ⟨hlt, _, F3, S4, acc, xs, hs4, (hF.trans hF2).trans hF3, (hk3 D (by simp)).trans hDx2, hxs2.mono hF3, hw3.sub (by intro a; have := hc4 a; simp only [List.count_append, List.count_cons] at this ⊢; omega), ?_⟩
        exact Post.rebase hp3 hF3 fun a ha => hk3 a (by simp [ha])
      | true =>
        simp only [if_true, Res.bd_assoc] at hp3 ⊢
        obtain ⟨ρ', F', S', R', a1, a2, a3⟩ := step' (G := G) (H := H3) (P := fun r => Post G (repE G) σ R F2 H' Q r) (rep := repE G) (T := []) (fun h => h) (fun _ _ h => h) hs3 (by simpa using hw3) hp3
        refine ⟨ρ', F', S', R', a1, a2, a3.imp ?_⟩
        rintro y H4 ⟨o, ρ4, F4, S4, Sy, hF4, hT4, hs4, ry, hw4, hp4⟩
        have hk4 : ∀ a ∈ D :: R, H4 a = H3 a := fun a ha => hT4 a (by simpa using ha)
        obtain ⟨F5, hF5, ry, hw5⟩ := ry.freeze hw4
        have hw5 : Own F5 H4 (S4 ++ (D :: R)) := by simpa using hw5
        have hs5 := hs4.mono hF5 fun _ _ => rfl
        obtain ⟨S6, hs6, hc6⟩ := hs2.unwipe hs5 ((hF3.trans hF4).trans hF5) hag'
        have hD4 : H4 D = some (.lst xs) := (hk4 D (by simp)).trans ((hk3 D (by simp)).trans hDx2)
        simp only [Res.bd_ok] at hp4
        split at hp4
        · rename_i c
          have hne : ∀ a ∈ S6 ++ R, a ≠ D := fun a ha z => by
            subst z
            have h1 := hw5.one a
            have h2 := List.count_pos_iff.mpr ha
            have h3 := hc6 a
            simp only [List.count_append, List.count_cons] at h1 h2
            simp at h1
            omega
          refine ⟨xs, hD4, by rw [hxs.length, line_eq]; exact c, hlt, _, F5, S6, acc ++ [o.d], xs ++ [y], hs6.mono .refl fun a ha => upd_ne (hne a (by simp [ha])), ((hF.trans hF2).trans hF3).trans (hF4.trans hF5), upd_same, ?_, ?_, ?_⟩
          · exact ((hxs2.mono hF3).mono (hF4.trans hF5)).append (.cons ry .nil)
          · exact (hw5.sub (by intro a; have := hc6 a; simp only [List.count_append, List.count_cons] at this ⊢; omega)).write (by simp)
          · exact Post.rebase hp4 ((hF3.trans hF4).trans hF5) fun a ha => (upd_ne (hne a (by simp [ha]))).trans ((hk4 a (by simp [ha])).trans (hk3 a (by simp [ha])))
        · exact False.elim hp4
  · have e : i = ds.length := by omega
    subst e
    refine .inl ⟨hJ.2.1 _ (Nat.le_refl _), ?_⟩
    rw [List.drop_length] at hp
    exact hN F H ρ S acc xs hs hF hDx hxs hw hp
abbrev lcF2 (g : Tg) (own : List Nat) (gi1 : Env → Res (List D)) (f : D → Env → Res (Option D)) : D → List D → Env → Res (List D) := fun d acc ρb => (Res.of (Tg.put g (.fz d) (Ev.wipe ρb own)) ρb).bd fun ρg _ =>
  (gi1 ρg).bd fun ds1 ρ1 => (lcGo f ds1 acc ρ1).bd fun acc ρ2 => .ok acc (Ev.unwipe ρb ρ2 own)
theorem tlc2 {g g1 : Tg} {own own1 : List Nat} {gi gi1 : Env → Res (List D)} {gt : Env → Res Bool} {ge : Env → Res OV} (hg : ∀ i ∈ g.sets, i ∈ own) (hg1 : ∀ i ∈ g1.sets, i ∈ own1) : ∀ Q, TEo G (fun ρ => (gi ρ).bd fun ds ρ => (lcGo2 (lcF2 g own gi1 (lcF g1 own1 gt ge)) ds [] ρ).bd fun l ρ' => .ok (.lst l) ρ') σ H Q →
    tLc2 (TIo G gi) (TGo G g) (TTo G fun ρ => .ok true ρ) (TIo G gi1) (TGo G g1) (TTo G gt) (TEo G ge) own own1 σ H Q := by
  rintro Q ⟨ρ0, F0, S0, R, hs0, hw0, hp0⟩
  show TIo G gi σ H _
  obtain ⟨ρ', F', S', R', a1, a2, a3⟩ := step (G := G) (rep := repI G) (T := []) hs0 hw0 hp0
  refine ⟨ρ', F', S', R', a1, a2, a3.imp ?_⟩
  rintro J H1 ⟨ds, ρ1, F1, S1, Sx, hF1, _, hs1, ⟨jok, rfl⟩, hw1, hp1⟩ D hD
  have hw1 : Own F1 H1 (S1 ++ R) := by simpa using hw1
  refine ⟨fun i m H => m = ds.length - i ∧ i ≤ ds.length ∧ ∃ ρ F S acc xs, St' G F H σ ρ S ∧ FLe F1 F ∧ H D = some (.lst xs) ∧ Rfs G F xs acc ∧ Own F H (D :: (S ++ R)) ∧
    Post G (repE G) σ R F H Q ((lcGo2 (lcF2 g own gi1 (lcF g1 own1 gt ge)) (ds.drop i) acc ρ).bd fun l ρ' => .ok (.lst l) ρ'), ?_, ?_⟩
  · refine ⟨ds.length, by simp, Nat.zero_le _, ρ1, F1, S1, [], [], hs1.laid hD fun a ha => (hw1.fr a (by simp [ha])).2, .refl, upd_same, .nil, hw1.new hD, ?_⟩
    exact hp1.rebase .refl fun x hx => upd_ne fun z => (hw1.fr x (by simp [hx])).2 (z ▸ hD)
  · rintro i m H ⟨rfl, hi, ρ, F, S, acc, xs, hs, hF, hDx, hxs, hw, hp⟩
    have hJ := jok F H hF hw.le
    by_cases hlt : i < ds.length
    · refine .inr ⟨hJ.1 i hlt, fun H => i + 1 ≤ ds.length ∧ ∃ ρ F S acc xs, St' G F H σ ρ S ∧ FLe F1 F ∧ H D = some (.lst xs) ∧ Rfs G F xs acc ∧ Own F H (D :: (S ++ R)) ∧
        Post G (repE G) σ R F H Q ((lcGo2 (lcF2 g own gi1 (lcF g1 own1 gt ge)) (ds.drop (i + 1)) acc ρ).bd fun l ρ' => .ok (.lst l) ρ'), fun H' h => ⟨ds.length - (i + 1), by omega, rfl, h.1, h.2⟩, fun x H' hy => ?_⟩
      obtain ⟨F2, hF2, rx, hw2, hk2⟩ := hJ.2.2 i ds[i] x H' (List.getElem?_eq_getElem hlt) hy _ hw
      rw [List.drop_eq_getElem_cons hlt] at hp
      simp only [lcGo2, Res.bd_assoc] at hp
      have hkS : ∀ a ∈ D :: (S ++ R), H' a = H a := fun a ha => hk2 a (hw.fr a ha).2
      have hs2 : St' G F2 H' σ ρ S := hs.mono hF2 fun a ha => hkS a (by simp [ha])
      have hp := hp.rebase hF2 fun a ha => hkS a (by simp [ha])
      have hDx2 : H' D = some (.lst xs) := (hkS D (by simp)).trans hDx
      have hxs2 := hxs.mono hF2
      cases eg : Tg.put g (.fz ds[i]) (Ev.wipe ρ own) with
      | none => simp only [lcF2, eg, Res.of, Res.bd] at hp; exact False.elim hp
      | some ρg =>
        simp only [lcF2, eg, Res.of, Res.bd_assoc, Res.bd_ok] at hp
        obtain ⟨Sw, hsw, hcw⟩ := hs2.wipe own
        refine ⟨.fz ds[i], Ev.wipe ρ own, ρg, F2, [], Sw, D :: R, .fz rx, hsw, hw2.sub (by intro a; have := hcw a; simp only [List.count_append, List.count_cons, List.nil_append] at this ⊢; omega), eg, fun σ2 S2 hs2' hw2' hag => ?_⟩
        have hag' : L2.wipe σ2 own = L2.wipe σ own := by
          have h1 : Agree σ σ2 own := (wipe_is_agree σ own).trans hag (fun _ h => h) hg
          exact wipe_agree h1
        refine ⟨hag', ?_⟩
        change Post G (repE G) σ R F2 H' Q ((gi1 ρg).bd fun b ρ_1 => _) at hp
        -- no tests between
        refine ⟨ρg, F2, S2, D :: R, hs2', hw2', ?_⟩
        refine fun b F3 H3 S3 Sb hF3 hk3 hs3 hb hw3 => ?_
        obtain ⟨rfl, rfl⟩ := hb
        simp only [if_true]
        have hp := hp.rebase hF3 fun a ha => hk3 a (by simp [ha])
        have hD3 : H3 D = some (.lst xs) := (hk3 D (by simp)).trans hDx2
        have hxs3 := hxs2.mono hF3
        have hw3 : Own F3 H3 (S3 ++ (D :: R)) := by simpa using hw3
        obtain ⟨ρ', F', S', R', a1, a2, a3⟩ := step' (G := G) (H := H3) (P := fun r => Post G (repE G) σ R F3 H3 Q r) (rep := repI G) (T := []) (fun h => h) (fun _ _ h => h) hs3 (by simpa using hw3) hp
        refine ⟨ρ', F', S', R', a1, a2, a3.imp ?_⟩
        rintro J1 H4 ⟨ds1, ρ4, F4, S4, Sx4, hF4, hT4, hs4, ⟨jok1, rfl⟩, hw4, hp4⟩
        have hk4 : ∀ a ∈ D :: R, H4 a = H3 a := fun a ha => hT4 a (by simpa using ha)
        have hw4 : Own F4 H4 (D :: (S4 ++ R)) := hw4.sub (by intro a; simp only [List.count_append, List.count_cons, List.nil_append]; omega)
        refine tlc_in (G := G) (σ := σ) (F0 := F4) (H0 := H4) (Q := Q) hg1 hs4 jok1 ((hk4 D (by simp)).trans hD3) (hxs3.mono hF4) hw4 (Post.rebase hp4 hF4 fun a ha => hk4 a (by simp [ha])) ?_
        intro F5 H5 ρ5 S5 acc5 xs5 hs5 hF5 hD5 hxs5 hw5 hp5
        obtain ⟨S6, hs6, hc6⟩ := hs2.unwipe hs5 ((hF3.trans hF4).trans hF5) hag'
        exact ⟨hlt, _, F5, S6, acc5, xs5, hs6, ((hF.trans hF2).trans hF3).trans (hF4.trans hF5), hD5, hxs5, hw5.sub (by intro a; have := hc6 a; simp only [List.count_append, List.count_cons] at this ⊢; omega), hp5⟩
    · have e : i = ds.length := by omega
      subst e
      refine .inl ⟨hJ.2.1 _ (Nat.le_refl _), ?_⟩
      rw [List.drop_length] at hp
      exact hp (.ref D) F H S [D] .refl (fun _ _ => rfl) hs (.lst hDx hxs) (by simpa using hw)
end
end Ev
end
section
set_option linter.all false
set_option autoImplicit false
set_option maxRecDepth 100000
set_option maxHeartbeats 1000000
set_option Elab.async false
/-! EvL3: a comprehension over a list that a slot owns and keeps. -/
namespace Ev
open PySem L2 PyProof.Rows RZ
section
variable {G : Gx} {X : Cx} {σ : L2.St} {H : Hp} {α β W : Type}
theorem set_selfx {i : Nat} {v : V} (h1 : σ[i]? = some (some v)) : σ.set i (some v) = σ := by
  apply List.ext_getElem?
  intro j
  by_cases hj : j = i
  · subst hj
    rw [List.getElem?_set]
    simp only [if_true]
    rw [h1]
    have : j < σ.length := by
      by_cases hlt : j < σ.length
      · exact hlt
      · rw [List.getElem?_eq_none (by omega)] at h1; cases h1
    rw [if_pos this]
  · rw [List.getElem?_set_ne (Ne.symm hj)]
theorem tlcx {g : Tg} {i : Nat} {own : List Nat} {gt : Env → Res Bool} {ge : Env → Res OV} (hg : ∀ i ∈ g.sets, i ∈ own) : ∀ Q, TEo G (fun ρ => (match ρ.at i with
      | some (.lst ds) => (lcGo (lcF g own gt ge) ds [] (ρ.set i none)).bd fun l ρ' => .ok (.lst l) (ρ'.put i (.lst ds))
      | _ => .bad)) σ H Q →
    tLc (iAny G.K (tVar i)) (TGo G g) (TTo G gt) (TEo G ge) own σ H Q := by
  rintro Q ⟨ρ0, F0, S0, R, hs0, hw0, hp0⟩
  cases q : ρ0.at i with
  | none => simp only [q] at hp0; exact False.elim hp0
  | some ov =>
  cases ov with
  | fz d => simp only [q] at hp0; exact False.elim hp0
  | dct d => simp only [q] at hp0; exact False.elim hp0
  | lst ds =>
  simp only [q] at hp0
  obtain ⟨v, S1a, Sv, S2a, h1, h2, h3, h4, h5⟩ := hs0.get q
  have hs1 := h5 F0 H .refl fun _ _ => rfl
  cases h2 with
  | @lst p ys _ hH rys =>
  generalize hS1 : S1a ++ S2a = S1 at *
  have hw1 : Own F0 H (S1 ++ (p :: R)) := hw0.sub (by intro a; rw [h3, ← hS1]; simp only [List.count_append, List.count_cons, List.count_nil]; omega)
  refine ⟨.ref p, h1, .inl ⟨p, ys, rfl, .of hH, ?_⟩⟩
  intro D hD
  refine ⟨fun k m H' => m = ds.length - k ∧ k ≤ ds.length ∧ ∃ ρ F S acc xs, St' G F H' σ ρ S ∧ FLe F0 F ∧ H' D = some (.lst xs) ∧ Rfs G F xs acc ∧ H' p = some (.lst ys) ∧ Own F H' (D :: (S ++ (p :: R))) ∧
    Post G (repE G) σ R F H' Q ((lcGo (lcF g own gt ge) (ds.drop k) acc ρ).bd fun l ρ' => .ok (.lst l) (ρ'.put i (.lst ds))), ?_, ?_⟩
  · refine ⟨ds.length, by simp, Nat.zero_le _, _, F0, S1, [], [], hs1.laid hD fun a ha => (hw1.fr a (by simp [ha])).2, .refl, upd_same, .nil, (upd_ne fun z => (hw1.fr p (by simp)).2 (by rw [show p = D from z]; exact hD)).trans hH, hw1.new hD, ?_⟩
    exact hp0.rebase .refl fun x hx => upd_ne fun z => (hw1.fr x (by simp [hx])).2 (z ▸ hD)
  · rintro k m H' ⟨rfl, hi, ρ, F, S, acc, xs, hs, hF, hDx, hxs, hpy, hw, hp⟩
    have rys' := rys.mono hF
    have qs : SqL G.K H' p ys := .of hpy
    by_cases hlt : k < ds.length
    · have hlt' : k < ys.length := by rw [rys'.length]; exact hlt
      refine .inr ⟨⟨ys, ys[k], qs, List.getElem?_eq_getElem hlt'⟩, fun H' => k + 1 ≤ ds.length ∧ ∃ ρ F S acc xs, St' G F H' σ ρ S ∧ FLe F0 F ∧ H' D = some (.lst xs) ∧ Rfs G F xs acc ∧ H' p = some (.lst ys) ∧ Own F H' (D :: (S ++ (p :: R))) ∧
        Post G (repE G) σ R F H' Q ((lcGo (lcF g own gt ge) (ds.drop (k + 1)) acc ρ).bd fun l ρ' => .ok (.lst l) (ρ'.put i (.lst ds))), fun H' h => ⟨ds.length - (k + 1), by omega, rfl, h.1, h.2⟩, fun x H'' hy => ?_⟩
      obtain ⟨rfl, hyx⟩ := hy
      obtain ⟨x', ex', rx⟩ := rys'.get (List.getElem?_eq_getElem hlt)
      rw [hyx ys qs] at ex'; cases ex'
      rw [List.drop_eq_getElem_cons hlt] at hp
      simp only [lcGo, Res.bd_assoc] at hp
      cases eg : Tg.put g (.fz ds[k]) (Ev.wipe ρ own) with
      | none => simp only [lcF, eg, Res.of, Res.bd] at hp; exact False.elim hp
      | some ρg =>
        simp only [lcF, eg, Res.of, Res.bd_assoc, Res.bd_ok] at hp
        obtain ⟨Sw, hsw, hcw⟩ := hs.wipe own
        refine ⟨.fz ds[k], Ev.wipe ρ own, ρg, F, [], Sw, D :: (p :: R), .fz rx, hsw, hw.sub (by intro a; have := hcw a; simp only [List.count_append, List.count_cons, List.nil_append] at this ⊢; omega), eg, fun σ2 S2 hs2' hw2' hag => ?_⟩
        have hag' : L2.wipe σ2 own = L2.wipe σ own := by
          have h1 : Agree σ σ2 own := (wipe_is_agree σ own).trans hag (fun _ h => h) hg
          exact wipe_agree h1
        refine ⟨hag', ?_⟩
        change Post G (repE G) σ R F H'' Q ((gt ρg).bd fun b ρ_1 => _) at hp
        obtain ⟨ρ', F', S', R', a1, a2, a3⟩ := step' (G := G) (H := H'') (P := fun r => Post G (repE G) σ R F H'' Q r) (rep := repT) (T := []) (fun h => h) (fun _ _ h => h) hs2' (by simpa using hw2') hp
        refine ⟨ρ', F', S', R', a1, a2, a3.imp ?_⟩
        rintro b H3 ⟨b', ρ3, F3, S3, Sz, hF3, hT3, hs3, ⟨rfl, rfl⟩, hw3, hp3⟩
        have hk3 : ∀ a ∈ D :: (p :: R), H3 a = H'' a := fun a ha => hT3 a (by simpa using ha)
        have hw3 : Own F3 H3 (S3 ++ (D :: (p :: R))) := by simpa using hw3
        cases b with
        | false =>
          simp only [Bool.false_eq_true, if_false, Res.bd_ok] at hp3 ⊢
          obtain ⟨S4, hs4, hc4⟩ := hs.unwipe hs3 hF3 hag'
          refine ⟨hlt, _, F3, S4, acc, xs, hs4, hF.trans hF3, (hk3 D (by simp)).trans hDx, hxs.mono hF3, (hk3 p (by simp)).trans hpy, hw3.sub (by intro a; have := hc4 a; simp only [List.count_append, List.count_cons] at this ⊢; omega), ?_⟩
          exact Post.rebase hp3 hF3 fun a ha => hk3 a (by simp [ha])
        | true =>
          simp only [if_true, Res.bd_assoc] at hp3 ⊢
          obtain ⟨ρ', F', S', R', a1, a2, a3⟩ := step' (G := G) (H := H3) (P := fun r => Post G (repE G) σ R F H'' Q r) (rep := repE G) (T := []) (fun h => h) (fun _ _ h => h) hs3 (by simpa using hw3) hp3
          refine ⟨ρ', F', S', R', a1, a2, a3.imp ?_⟩
          rintro y H4 ⟨o, ρ4, F4, S4, Sy, hF4, hT4, hs4, ry, hw4, hp4⟩
          have hk4 : ∀ a ∈ D :: (p :: R), H4 a = H3 a := fun a ha => hT4 a (by simpa using ha)
          obtain ⟨F5, hF5, ry, hw5⟩ := ry.freeze hw4
          have hw5 : Own F5 H4 (S4 ++ (D :: (p :: R))) := by simpa using hw5
          have hs5 := hs4.mono hF5 fun _ _ => rfl
          obtain ⟨S6, hs6, hc6⟩ := hs.unwipe hs5 ((hF3.trans hF4).trans hF5) hag'
          have hD4 : H4 D = some (.lst xs) := (hk4 D (by simp)).trans ((hk3 D (by simp)).trans hDx)
          have hp4y : H4 p = some (.lst ys) := (hk4 p (by simp)).trans ((hk3 p (by simp)).trans hpy)
          simp only [Res.bd_ok] at hp4
          split at hp4
          · rename_i c
            have hne : ∀ a ∈ S6 ++ (p :: R), a ≠ D := fun a ha z => by
              subst z
              have h1 := hw5.one a
              have h2 := List.count_pos_iff.mpr ha
              have h3 := hc6 a
              simp only [List.count_append, List.count_cons] at h1 h2
              simp only [beq_self_eq_true, if_true] at h1
              omega
            refine ⟨xs, hD4, by rw [hxs.length, line_eq]; exact c, hlt, _, F5, S6, acc ++ [o.d], xs ++ [y], hs6.mono .refl fun a ha => upd_ne (hne a (by simp [ha])), (hF.trans hF3).trans (hF4.trans hF5), upd_same, ?_, (upd_ne (hne p (by simp))).trans hp4y, ?_, ?_⟩
            · exact ((hxs.mono hF3).mono (hF4.trans hF5)).append (.cons ry .nil)
            · exact (hw5.sub (by intro a; have := hc6 a; simp only [List.count_append, List.count_cons] at this ⊢; omega)).write (by simp)
            · exact Post.rebase hp4 ((hF3.trans hF4).trans hF5) fun a ha => (upd_ne (hne a (by simp [ha]))).trans ((hk4 a (by simp [ha])).trans (hk3 a (by simp [ha])))
          · exact False.elim hp4
    · have e : k = ds.length := by omega
      subst e
      refine .inl ⟨⟨ys, qs, by rw [rys'.length]; exact Nat.le_refl _⟩, ?_⟩
      rw [List.drop_length] at hp
      obtain ⟨S', hs', hc'⟩ := hs.put' i (v := .ref p) (o := .lst ds) (.lst hpy rys')
      rw [set_selfx h1] at hs'
      exact hp (.ref D) F H' S' [D] .refl (fun _ _ => rfl) hs' (.lst hDx hxs) (hw.sub (by intro a; have := hc' a; simp only [List.count_append, List.count_cons, List.count_nil] at this ⊢; omega))
end
end Ev
end
section
set_option Elab.async false
set_option linter.all false
set_option maxRecDepth 100000
set_option maxHeartbeats 2000000
/-! EvQ: the check of expressions. -/
namespace Ev
open PySem L2 PyProof.Rows RZ
section
variable {G : Gx} {X : Cx} {cl : CL} {c : Cxt}

def PTk (G : Gx) (X : Cx) (cl : CL) (es : List Expr) (l : Es) : Prop := PTs X es (TTo G (evTs cl l))
theorem pts_weak {e : List Expr} {t t' : TT} (h : PTs X e t) (k : ∀ σ H Q, t' σ H Q → t σ H Q) : PTs X e t' := ⟨fun pins s σ H Q I q => h.run pins s σ H Q I (k σ H Q q)⟩
theorem ts_nil : PTk G X cl [] .nil := pts_weak pts_nil fun σ H Q ⟨ρ, F, S, R, hs, hw, hp⟩ => hp true F H S [] .refl (fun _ _ => rfl) hs ⟨rfl, rfl⟩ (by simpa using hw)
theorem ts_one {e : Expr} {t : E} (h : PT X e (TTo G (evT cl t))) : PTk G X cl [e] (.cons t .nil) := by
  refine pts_weak (pts_one h) fun σ H Q ⟨ρ, F, S, R, hs, hw, hp⟩ => ?_
  obtain ⟨ρ', F', S', R', a1, a2, a3⟩ := step (G := G) (rep := repT) (T := []) hs hw hp
  refine ⟨ρ', F', S', R', a1, a2, a3.imp ?_⟩
  rintro k H1 ⟨b, ρ1, F1, S1, Sx, hF1, _, hs1, ⟨rfl, rfl⟩, hw1, hp1⟩
  cases k with
  | true => exact hp1 true F1 H1 S1 [] .refl (fun _ _ => rfl) hs1 ⟨rfl, rfl⟩ (by simpa using hw1)
  | false => exact hp1 false F1 H1 S1 [] .refl (fun _ _ => rfl) hs1 ⟨rfl, rfl⟩ (by simpa using hw1)

structure LcOk (G : Gx) (X : Cx) (cl : CL) (c : Cxt) (x tg iter : Expr) (ifs : List Expr) (scope : Scope) (elt : E) (g : Tg) (it : It) (is : Es) (own : List Nat) : Prop where
  blk : blkC c.N c.sc scope (ownOf c own) = true
  it : PIk G X cl tg iter it
  tg : ∀ X', Cok G cl (blkCx c scope) X' → PGk G X' tg g
  ts : ∀ X', Cok G cl (blkCx c scope) X' → PTk G X' cl ifs is
  el : ∀ X', Cok G cl (blkCx c scope) X' → Snd G X' x (evE cl elt) elt
  sub : ∀ i ∈ g.sets, i ∈ own
  ns : noSet iter = true
theorem LcOk.bk {x tg iter : Expr} {ifs : List Expr} {scope : Scope} {elt : E} {g : Tg} {it : It} {is : Es} {own : List Nat} (ok : Cok G cl c X) (h : LcOk G X cl c x tg iter ifs scope elt g it is own) : BlkOk X.N X.env.scope scope (ownOf c own) := by
  rw [ok.N, ok.sc]; exact blkOk_by h.blk
theorem s_lc {x tg iter : Expr} {ifs : List Expr} {scope : Scope} {elt : E} {g : Tg} {it : It} {is : Es} {own : List Nat} {pos : Pos} (ok : Cok G cl c X) (h : LcOk G X cl c x tg iter ifs scope elt g it is own) :
    Snd G X (.ListComp x [⟨tg, iter, ifs, 0⟩] scope pos) (evE cl (.lc elt g it is own)) (.lc elt g it is own) := by
  refine .of (pe_weak (pe_lc (own := ownOf c own) ok.calm ok.nd h.it (h.bk ok) (fun s H C cells fp => h.tg _ (cok_blk ok)) (fun s H C cells fp => h.ts _ (cok_blk ok)) (fun s H C cells fp => (h.el _ (cok_blk ok)).pe) (folded_of h.ns)) fun σ H Q q => ?_) (fun i q => by cases q)
  rw [own_snd]
  exact tlc h.sub Q q

structure LcxOk (G : Gx) (X : Cx) (cl : CL) (c : Cxt) (x tg : Expr) (ifs : List Expr) (scope : Scope) (elt : E) (g : Tg) (is : Es) (own : List Nat) : Prop where
  blk : blkC c.N c.sc scope (ownOf c own) = true
  tg : ∀ X', Cok G cl (blkCx c scope) X' → PGk G X' tg g
  ts : ∀ X', Cok G cl (blkCx c scope) X' → PTk G X' cl ifs is
  el : ∀ X', Cok G cl (blkCx c scope) X' → Snd G X' x (evE cl elt) elt
  sub : ∀ i ∈ g.sets, i ∈ own
theorem s_lcx {x tg : Expr} {y : Str} {yp : Pos} {i : Nat} {ifs : List Expr} {scope : Scope} {elt : E} {g : Tg} {is : Es} {own : List Nat} {pos : Pos} (ok : Cok G cl c X) (hy : isVar c y i = true) (h : LcxOk G X cl c x tg ifs scope elt g is own) :
    Snd G X (.ListComp x [⟨tg, .Name y yp, ifs, 0⟩] scope pos) (evE cl (.lcx elt g i is own)) (.lcx elt g i is own) := by
  have hb : BlkOk X.N X.env.scope scope (ownOf c own) := by rw [ok.N, ok.sc]; exact blkOk_by h.blk
  refine .of (pe_weak (pe_lc (own := ownOf c own) ok.calm ok.nd (pi_any (pe_varB ok hy)) hb (fun s H C cells fp => h.tg _ (cok_blk ok)) (fun s H C cells fp => h.ts _ (cok_blk ok)) (fun s H C cells fp => (h.el _ (cok_blk ok)).pe) (folded_of rfl)) fun σ H Q q => ?_) (fun i q => by cases q)
  rw [own_snd, ok.K]
  exact tlcx h.sub Q q

structure Lc2Ok (G : Gx) (X : Cx) (cl : CL) (c : Cxt) (x tg iter tg1 iter1 : Expr) (ifs : List Expr) (scope : Scope) (elt : E) (g : Tg) (it : It) (g1 : Tg) (it1 : It) (is : Es) (own own1 : List Nat) : Prop where
  blk : blkC c.N c.sc scope (ownOf c own) = true
  it : PIk G X cl tg iter it
  tg : ∀ X', Cok G cl (blkCx c scope) X' → PGk G X' tg g
  it1 : ∀ X', Cok G cl (blkCx c scope) X' → PIk G X' cl tg1 iter1 it1
  tg1 : ∀ X', Cok G cl (blkCx c scope) X' → PGk G X' tg1 g1
  ts : ∀ X', Cok G cl (blkCx c scope) X' → PTk G X' cl ifs is
  el : ∀ X', Cok G cl (blkCx c scope) X' → Snd G X' x (evE cl elt) elt
  sub : ∀ i ∈ g.sets, i ∈ own
  sub1 : ∀ i ∈ g1.sets, i ∈ own1
  own : ∀ i ∈ own1, i ∈ own
  ns : noSet iter = true
  ns1 : noSet iter1 = true
theorem pt_nil0 : PTs X [] (TTo G fun ρ => .ok true ρ) := by
  exact pts_weak pts_nil fun σ H Q ⟨ρ, F, S, R, hs, hw, hp⟩ => hp true F H S [] .refl (fun _ _ => rfl) hs ⟨rfl, rfl⟩ (by simpa using hw)
theorem folded1 {i : Expr} (h : noSet i = true) : ∀ env x, foldedSetIterable i env x = pure x := fun env x => by
  cases i <;> first | rfl | (simp [noSet] at h)
theorem s_lc2 {x tg iter tg1 iter1 : Expr} {ifs : List Expr} {scope : Scope} {elt : E} {g g1 : Tg} {it it1 : It} {is : Es} {own own1 : List Nat} {pos : Pos} (ok : Cok G cl c X) (h : Lc2Ok G X cl c x tg iter tg1 iter1 ifs scope elt g it g1 it1 is own own1) :
    Snd G X (.ListComp x [⟨tg, iter, [], 0⟩, ⟨tg1, iter1, ifs, 0⟩] scope pos) (evE cl (.lc2 elt g it g1 it1 is own own1)) (.lc2 elt g it g1 it1 is own own1) := by
  have hb : BlkOk X.N X.env.scope scope (ownOf c own) := by rw [ok.N, ok.sc]; exact blkOk_by h.blk
  refine .of (pe_weak (pe_lc2 (own := ownOf c own) (vs1 := own1) ok.calm ok.nd h.it hb (fun i hi => by rw [own_snd]; exact h.own i hi) (fun s H C cells fp => h.tg _ (cok_blk ok)) (fun s H C cells fp => pt_nil0 (G := G)) (fun s H C cells fp => h.it1 _ (cok_blk ok)) (fun s H C cells fp => h.tg1 _ (cok_blk ok)) (fun s H C cells fp => h.ts _ (cok_blk ok)) (fun s H C cells fp => (h.el _ (cok_blk ok)).pe) (folded_of h.ns) (folded1 h.ns1)) fun σ H Q q => ?_) (fun i q => by cases q)
  rw [own_snd]
  exact tlc2 h.sub h.sub1 Q q

/-! ### targets -/
def ckGs (f : Expr → Tg → Bool) : List Expr → Tgs → Bool
  | [], .nil => true
  | e :: es, .cons t l => f e t && ckGs f es l
  | _, _ => false
def ckG (c : Cxt) : Nat → Expr → Tg → Bool
  | 0, _, _ => false
  | n + 1, e, t => (match t with
    | .nm i => (match e with
      | .Name x _ => isStore c x i
      | _ => false)
    | .tp l => (match e with
      | .Tuple es _ _ => noStars es && decide (es.length = l.len) && ckGs (ckG c n) es l
      | _ => false))
theorem ckGs_ok {f : Expr → Tg → Bool} (hf : ∀ e t, f e t = true → PGk G X e t) : ∀ {es : List Expr} {l : Tgs}, noStars es = true → ckGs f es l = true → PGs X es (TGso G l)
  | [], .nil, _, _ => gs_nil
  | e :: es, .cons t l, hn, h => by
    unfold noStars at hn
    rw [List.all_cons, Bool.and_eq_true] at hn
    simp only [ckGs, Bool.and_eq_true] at h
    exact gs_cons hn.1 (hf e t h.1) (ckGs_ok hf hn.2 h.2)
  | [], .cons _ _, _, h => by simp [ckGs] at h
  | _ :: _, .nil, _, h => by simp [ckGs] at h
theorem ckG_ok (ok : Cok G cl c X) : ∀ (n : Nat) (e : Expr) (t : Tg), ckG c n e t = true → PGk G X e t
  | 0, _, _, h => by simp [ckG] at h
  | n + 1, e, t, h => by
    unfold ckG at h
    cases t with
    | nm i =>
      dsimp only at h
      split at h
      · exact g_nm ok h
      · cases h
    | tp l =>
      dsimp only at h
      split at h
      · simp only [Bool.and_eq_true, decide_eq_true_eq] at h
        exact g_tp ok h.1.1 h.1.2 (ckGs_ok (ckG_ok ok n) h.1.1 h.2)
      · cases h

/-! ### the parts -/
def ckEs (f : Expr → E → Bool) : List Expr → Es → Bool
  | [], .nil => true
  | e :: es, .cons t l => noStar e && f e t && ckEs f es l
  | _, _ => false
def ckPs (f : Expr → E → Bool) : List (Option Expr) → List Expr → Ps → Bool
  | [], [], .nil => true
  | some k :: ks, v :: vs, .cons a b l => f k a && f v b && ckPs f ks vs l
  | _, _, _ => false
def ckAs (c : Cxt) (f : Expr → E → Bool) : List Expr → As → Bool
  | [], .nil => true
  | e :: es, .val t l => noStar e && f e t && ckAs c f es l
  | .Name x _ :: es, .bor i l => isVar c x i && ckAs c f es l
  | _, _ => false
def ckTs (f : Expr → E → Bool) : List Expr → Es → Bool
  | [], .nil => true
  | [e], .cons t .nil => f e t
  | _, _ => false
def ckO (f : Expr → E → Bool) (l : Option Expr) (t : E) : Bool := match l with
  | none => (match t with
    | .cst .non => true
    | _ => false)
  | some e => f e t
def isTupE : Expr → Bool
  | .Tuple .. => true
  | _ => false
def ckIt (c : Cxt) (f : Expr → E → Bool) (tg e : Expr) (it : It) : Bool := match it with
  | .ev t => f e t
  | .rng1 a => (match e with
    | .Call (.Name g _) [x] [] _ => isBlt c g (Str.ofString "range") && noStar x && f x a
    | _ => false)
  | .rng2 a b => (match e with
    | .Call (.Name g _) [x, y] [] _ => isBlt c g (Str.ofString "range") && noStar x && noStar y && f x a && f y b
    | _ => false)
  | .dwn a b => (match e with
    | .Call (.Name g _) [x, y, .UnaryOp .USub (.Constant (.int 1) _ _) _] [] _ => isBlt c g (Str.ofString "range") && noStar x && noStar y && f x a && f y b
    | _ => false)
  | .enum a => isTupE tg && (match e with
    | .Call (.Name g _) [x] [] _ => isBlt c g (Str.ofString "enumerate") && noStar x && f x a
    | _ => false)
  | .zip a b => isTupE tg && (match e with
    | .Call (.Name g _) [x, y] [] _ => isBlt c g (Str.ofString "zip") && noStar x && noStar y && f x a && f y b
    | _ => false)
  | _ => false
section
variable {f : Expr → E → Bool} (hf : ∀ e t, f e t = true → Snd G X e (evE cl t) t)
include hf
theorem ckEs_ok : ∀ {es : List Expr} {l : Es}, ckEs f es l = true → PAk G X cl es l
  | [], .nil, _ => a_nil
  | e :: es, .cons t l, h => by
    simp only [ckEs, Bool.and_eq_true] at h
    exact a_cons h.1.1 (hf e t h.1.2) (ckEs_ok h.2)
  | [], .cons _ _, h => by simp [ckEs] at h
  | _ :: _, .nil, h => by simp [ckEs] at h
theorem ckPs_ok {pos : Pos} : ∀ {ks : List (Option Expr)} {vs : List Expr} {l : Ps}, ckPs f ks vs l = true → PPk G X cl pos ks vs l
  | [], [], .nil, _ => p_nil
  | some k :: ks, v :: vs, .cons a b l, h => by
    simp only [ckPs, Bool.and_eq_true] at h
    exact p_cons (hf k a h.1.1) (hf v b h.1.2) (ckPs_ok h.2)
  | none :: _, _, _, h => by simp [ckPs] at h
  | [], _ :: _, _, h => by simp [ckPs] at h
  | [], [], .cons _ _ _, h => by simp [ckPs] at h
  | some _ :: _, [], _, h => by simp [ckPs] at h
  | some _ :: _, _ :: _, .nil, h => by simp [ckPs] at h
theorem ckAs_ok (ok : Cok G cl c X) : ∀ {es : List Expr} {l : As}, ckAs c f es l = true → PBk G X cl es l ∧ noStars es = true
  | [], .nil, _ => ⟨b_nil, rfl⟩
  | e :: es, .val t l, h => by
    have h : (noStar e && f e t && ckAs c f es l) = true := by cases e <;> exact h
    simp only [Bool.and_eq_true] at h
    obtain ⟨h1, h2⟩ := ckAs_ok ok h.2
    refine ⟨b_val h.1.1 (hf e t h.1.2) h1, ?_⟩
    unfold noStars at h2 ⊢
    rw [List.all_cons, h.1.1, h2]; rfl
  | e :: es, .bor i l, h => by
    cases e <;> first | (simp [ckAs] at h; done) | skip
    simp only [ckAs, Bool.and_eq_true] at h
    obtain ⟨h1, h2⟩ := ckAs_ok ok h.2
    refine ⟨b_bor ok h.1 h1, ?_⟩
    unfold noStars at h2 ⊢
    rw [List.all_cons, h2]; rfl
  | [], .val _ _, h => by simp [ckAs] at h
  | [], .bor _ _, h => by simp [ckAs] at h
  | _ :: _, .nil, h => by simp [ckAs] at h
theorem ckO_ok {l : Option Expr} {t : E} (h : ckO f l t = true) : POk G X cl l t := by
  unfold ckO at h
  cases l with
  | none =>
    dsimp only at h
    split at h
    · exact pok_none
    · cases h
  | some e => exact pok_some (hf e t h)
theorem ckIt_ok (ok : Cok G cl c X) {tg e : Expr} {it : It} (h : ckIt c f tg e it = true) : PIk G X cl tg e it := by
  unfold ckIt at h
  cases it with
  | ev t => exact i_ev ok.K (hf e t h)
  | rng1 a =>
    dsimp only at h
    split at h
    · simp only [Bool.and_eq_true] at h; exact i_r1 ok h.1.1 h.1.2 (hf _ _ h.2)
    · cases h
  | rng2 a b =>
    dsimp only at h
    split at h
    · simp only [Bool.and_eq_true] at h; exact i_r2 ok h.1.1.1.1 h.1.1.1.2 h.1.1.2 (hf _ _ h.1.2) (hf _ _ h.2)
    · cases h
  | dwn a b =>
    dsimp only at h
    split at h
    · simp only [Bool.and_eq_true] at h; exact i_dwn ok h.1.1.1.1 h.1.1.1.2 h.1.1.2 (hf _ _ h.1.2) (hf _ _ h.2)
    · cases h
  | enum a =>
    simp only [Bool.and_eq_true] at h
    obtain ⟨ht, h⟩ := h
    cases tg <;> first | (simp [isTupE] at ht; done) | skip
    split at h
    · simp only [Bool.and_eq_true] at h; exact i_enum ok h.1.1 h.1.2 (hf _ _ h.2)
    · cases h
  | zip a b =>
    simp only [Bool.and_eq_true] at h
    obtain ⟨ht, h⟩ := h
    cases tg <;> first | (simp [isTupE] at ht; done) | skip
    split at h
    · simp only [Bool.and_eq_true] at h; exact i_zip ok h.1.1.1.1 h.1.1.1.2 h.1.1.2 (hf _ _ h.1.2) (hf _ _ h.2)
    · cases h
  | items _ => cases h
  | vals _ => cases h
end
theorem ckTs_ok {f : Expr → E → Bool} (hf : ∀ e t, f e t = true → PT X e (TTo G (evT cl t))) {es : List Expr} {l : Es} (h : ckTs f es l = true) : PTk G X cl es l := by
  unfold ckTs at h
  split at h
  · exact ts_nil
  · exact ts_one (hf _ _ h)
  · cases h

/-! ### one step of the check -/
def subB (l m : List Nat) : Bool := l.all fun i => decide (i ∈ m)
def isSS : BI → Bool
  | .sortset => true
  | _ => false
def isRev : BI → Bool
  | .rev => true
  | _ => false
def isSdk : BI → Bool
  | .sortdk => true
  | _ => false
def isGet : MT → Bool
  | .get => true
  | _ => false
def stIsi (c : Cxt) (f : Expr → E → Bool) (a : E) (ts : List Ty) : Expr → Bool
  | .Call (.Name g _) [x, .Name y _] [] _ => (match ts with
    | [t] => isBlt c g (Str.ofString "isinstance") && isBlt c y (Str.ofString (tyName t)) && noStar x && f x a
    | _ => false)
  | .Call (.Name g _) [x, .Tuple es _ _] [] _ => isBlt c g (Str.ofString "isinstance") && tysB c es ts && decide (ts.length ≤ 100) && noStar x && f x a
  | _ => false
def stE (c : Cxt) (f ft : Expr → E → Bool) (fc ftc : Cxt → Expr → E → Bool) (e : Expr) (t : E) : Bool := match e with
  | .BoolOp _ [x] _ => f x t
  | _ => (match t with
    | .var i => (match e with | .Name x _ => isVar c x i | _ => false)
    | .mov i => (match e with | .Name x _ => isVar c x i | _ => false)
    | .cst d => (match e with | .Constant k _ _ => cstB k d | _ => false)
    | .glb d => (match e with | .Name x _ => glB c.sc x && nmB x && c.cons.any fun p => decide (p.1 = x) && D.same p.2 d | _ => false)
    | .tup l => (match e with | .Tuple es _ _ => ckEs f es l | _ => false)
    | .lst l => (match e with | .List es _ => ckEs f es l | _ => false)
    | .dct l => (match e with
      | .Dict [] [] _ => (match l with | .nil => true | _ => false)
      | .Dict (k :: ks) vs _ => ((k :: ks).all (·.isSome) && decide ((k :: ks).length = vs.length) && decide ((k :: ks).length ≤ 15)) && ckPs f (k :: ks) vs l
      | _ => false)
    | .bin o a b => (match e with | .BinOp x op y _ => decide (op = opOf o) && f x a && f y b | _ => false)
    | .neg a => (match e with | .UnaryOp .USub x _ => f x a | _ => false)
    | .cmp cp a b => (match e with | .Compare x [op] [y] _ => decide (op = cpOf cp) && noSet y && f x a && f y b | _ => false)
    | .chn cp a b cp' d => (match e with | .Compare x [op, op'] [y, z] _ => decide (op = cpOf cp) && decide (op' = cpOf cp') && noSet z && f x a && f y b && f z d | _ => false)
    | .and a b => (match e with | .BoolOp .And (x :: y :: r) pos => f x a && f (.BoolOp .And (y :: r) pos) b | _ => false)
    | .or a b => (match e with | .BoolOp .Or (x :: y :: r) pos => f x a && f (.BoolOp .Or (y :: r) pos) b | _ => false)
    | .not a => (match e with | .UnaryOp .Not x _ => f x a | _ => false)
    | .ite k a b => (match e with | .IfExp w x y _ => ft w k && f x a && f y b | _ => false)
    | .idx a b => (match e with | .Subscript (.Name x _) y _ => (match a with | .glb (.dct kv) => isTab c x kv && noSl y && f y b | _ => false) | _ => false) || (match e with | .Subscript x y _ => noSl y && f x a && f y b | _ => false)
    | .slc a lo hi => (match e with | .Subscript x (.Slice l h none _) _ => f x a && ckO f l lo && ckO f h hi | _ => false)
    | .bi b a => if isSdk b then (match e with | .Call (.Name g _) [x] [] _ => isBlt c g (Str.ofString "sorted") && noStar x && f x a | _ => false)
      else if isRev b then (match e with | .Subscript x (.Slice none none (some (.UnaryOp .USub (.Constant (.int 1) _ _) _)) _) _ => f x a | _ => false)
      else if isSS b then (match e with | .Call (.Name g _) [.Call (.Name g2 _) [x] [] _] [] _ => isBlt c g (Str.ofString "sorted") && isBlt c g2 (Str.ofString "set") && noStar x && f x a | _ => false)
      else (match e with | .Call (.Name g _) [x] [] _ => biB c g b && noStar x && f x a | _ => false)
    | .isi a ts => stIsi c f a ts e
    | .mt0 _ _ => false
    | .mt1 m o a => (match e with | .Call (.Attribute x n apos) [y] [] cpos => decide (n = mtName m) && (decide (mtId m ≠ "") || isGet m) && noSuper x && noStar y && (apos.endLine == cpos.line) && f x o && f y a | _ => false)
    | .mt2 m o a b => (match e with | .Call (.Attribute x n apos) [y, z] [] cpos => decide (n = mtName m) && isGet m && noSuper x && noStar y && noStar z && (apos.endLine == cpos.line) && f x o && f y a && f z b | _ => false)
    | .mu0 m i => (match m with
      | .pop => (match e with | .Call (.Attribute (.Name x _) n apos) [] [] cpos => decide (n = muName .pop) && isVar c x i && (apos.endLine == cpos.line) | _ => false)
      | _ => false)
    | .mu1 m i a => (match e with | .Call (.Attribute (.Name x _) n apos) [y] [] cpos => decide (n = muName m) && isVar c x i && noStar y && (apos.endLine == cpos.line) && f y a | _ => false)
    | .upd i a => (match e with | .Call (.Attribute (.Name x _) n apos) [y] [] cpos => decide (n = Str.ofString "update") && isVar c x i && noStar y && (apos.endLine == cpos.line) && f y a | _ => false)
    | .df k l => (match e with
      | .Call (.Name g _) es [] _ => isDef c g k es.length && ckAs c f es l
      | _ => false)
    | .lc el g it is own => (match e with
      | .ListComp x [⟨tg, iter, ifs, 0⟩] scope _ => blkC c.N c.sc scope (ownOf c own) && ckIt c f tg iter it && ckG (blkCx c scope) 8 tg g && ckTs (ftc (blkCx c scope)) ifs is && fc (blkCx c scope) x el && subB g.sets own && noSet iter
      | _ => false)
    | .lc2 el g it g1 it1 is own own1 => (match e with
      | .ListComp x [⟨tg, iter, [], 0⟩, ⟨tg1, iter1, ifs, 0⟩] scope _ => blkC c.N c.sc scope (ownOf c own) && ckIt c f tg iter it && ckG (blkCx c scope) 8 tg g && ckIt (blkCx c scope) (fc (blkCx c scope)) tg1 iter1 it1 && ckG (blkCx c scope) 8 tg1 g1 && ckTs (ftc (blkCx c scope)) ifs is && fc (blkCx c scope) x el && subB g.sets own && subB g1.sets own1 && subB own1 own && noSet iter && noSet iter1
      | _ => false)
    | .lcx el g i is own => (match e with
      | .ListComp x [⟨tg, .Name y _, ifs, 0⟩] scope _ => blkC c.N c.sc scope (ownOf c own) && isVar c y i && ckG (blkCx c scope) 8 tg g && ckTs (ftc (blkCx c scope)) ifs is && fc (blkCx c scope) x el && subB g.sets own
      | _ => false)
    | .frz a => f e a)
def stT (c : Cxt) (f ft : Expr → E → Bool) (e : Expr) (t : E) : Bool := match e with
  | .BoolOp _ [x] _ => ft x t
  | _ => (match t with
    | .and a b => (match e with | .BoolOp .And (x :: y :: r) pos => ft x a && ft (.BoolOp .And (y :: r) pos) b | _ => false)
    | .or a b => (match e with | .BoolOp .Or (x :: y :: r) pos => ft x a && ft (.BoolOp .Or (y :: r) pos) b | _ => false)
    | .not a => (match e with | .UnaryOp .Not x _ => ft x a | _ => false)
    | .var i => (match e with | .Name x _ => isVar c x i | _ => false)
    | .cmp cp a b => (match e with | .Compare x [op] [y] _ => decide (op = cpOf cp) && noSet y && f x a && f y b | _ => false)
    | .chn cp a b cp' d => (match e with | .Compare x [op, op'] [y, z] _ => decide (op = cpOf cp) && decide (op' = cpOf cp') && noSet z && f x a && f y b && f z d | _ => false)
    | .idx a b => (match e with | .Subscript x y _ => noSl y && f x a && f y b | _ => false)
    | .bi b a => (match e with | .Call (.Name g _) [x] [] _ => biB c g b && noStar x && f x a | _ => false)
    | .isi a ts => stIsi c f a ts e
    | .mt1 m o a => (match e with | .Call (.Attribute x n apos) [y] [] cpos => decide (n = mtName m) && decide (mtId m ≠ "") && noSuper x && noStar y && (apos.endLine == cpos.line) && f x o && f y a | _ => false)
    | .df k l => (match e with
      | .Call (.Name g _) es [] _ => isDef c g k es.length && ckAs c f es l
      | _ => false)
    | _ => false)
def ckX : Nat → Bool → Cxt → Expr → E → Bool
  | 0, _, _, _, _ => false
  | n + 1, b, c, e, t => if b then stT c (ckX n false c) (ckX n true c) e t else stE c (ckX n false c) (ckX n true c) (ckX n false) (ckX n true) e t

structure SndT (G : Gx) (X : Cx) (e : Expr) (g : Env → Res Bool) : Prop where
  pt : PT X e (TTo G g)
  pw : ∀ op vs pos, e = .BoolOp op vs pos → PW X e (TTo G g)
theorem SndT.of {e : Expr} {g : Env → Res Bool} (h : PT X e (TTo G g)) (hn : ∀ op vs pos, e ≠ .BoolOp op vs pos) : SndT G X e g := ⟨h, fun op vs pos q => absurd q (hn op vs pos)⟩
theorem pw_weak {e : Expr} {t t' : TT} (h : PW X e t) (k : ∀ σ H Q, t' σ H Q → t σ H Q) : PW X e t' := ⟨fun wh pins s σ H Q I q => h.run wh pins s σ H Q I (k σ H Q q)⟩
theorem pt_of_pw {e : Expr} {t : TT} (h : PW X e t) : PT X e t := ⟨fun pins s σ H Q I q => h.run _ pins s σ H Q I q⟩
theorem SndT.w {e : Expr} {g : Env → Res Bool} (h : PW X e (TTo G g)) : SndT G X e g := ⟨pt_of_pw h, fun _ _ _ _ => h⟩
theorem st_one {op : BoolOp} {x : Expr} {g : Env → Res Bool} {pos : Pos} (h : SndT G X x g) : SndT G X (.BoolOp op [x] pos) g := by
  cases op
  · exact .w (pw_and1 h.pt)
  · exact .w (pw_or1 h.pt)
end
end Ev
end
section
set_option Elab.async false
set_option linter.all false
set_option maxRecDepth 100000
set_option maxHeartbeats 4000000
/-! EvR: the check of expressions is sound. -/
namespace Ev
open PySem L2 PyProof.Rows RZ
section
variable {G : Gx} {X : Cx} {cl : CL} {c : Cxt}

theorem mt_or {m : MT} (h : (decide (mtId m ≠ "") || isGet m) = true) : mtId m ≠ "" ∨ m = .get := by
  simp only [Bool.or_eq_true, decide_eq_true_eq] at h
  rcases h with h | h
  · exact .inl h
  · cases m <;> first | exact .inr rfl | (simp [isGet] at h)
theorem isi_all {f : Expr → E → Bool} (hf : ∀ e t, f e t = true → Snd G X e (evE cl t) t) (ok : Cok G cl c X) {a : E} {ts : List Ty} {e : Expr} (h : stIsi c f a ts e = true) : Snd G X e (evE cl (.isi a ts)) (.isi a ts) ∧ PT X e (TTo G (evT cl (.isi a ts))) := by
  unfold stIsi at h
  split at h
  · split at h
    · simp only [Bool.and_eq_true] at h
      exact ev_isi ok.K (s_isi ok h.1.1.1 h.1.1.2 h.1.2 (hf _ _ h.2)) (isi_ok _ ⟨_, rfl⟩) fun _ => rfl
    · cases h
  · simp only [Bool.and_eq_true, decide_eq_true_eq] at h
    exact ev_isi ok.K (s_isiT ok h.1.1.1.1 h.1.1.1.2 h.1.1.2 h.1.2 (hf _ _ h.2)) (isiT_ok _ h.1.1.2) fun _ => rfl
  · cases h
theorem isi_noBool {f : Expr → E → Bool} {a : E} {ts : List Ty} {e : Expr} (h : stIsi c f a ts e = true) : ∀ op vs pos, e ≠ .BoolOp op vs pos := by
  intro op vs pos q
  subst q
  simp [stIsi] at h
theorem df_all {f : Expr → E → Bool} (hf : ∀ e t, f e t = true → Snd G X e (evE cl t) t) (ok : Cok G cl c X) {g : Str} {k : Nat} {l : As} {es : List Expr} {p pos : Pos} (h : (isDef c g k es.length && ckAs c f es l) = true) : PE X (.Call (.Name g p) es [] pos) (TEo G (evE cl (.df k l))) := by
  simp only [Bool.and_eq_true] at h
  obtain ⟨h1, h2⟩ := ckAs_ok hf ok h.2
  cases es with
  | nil =>
    cases l with
    | nil => exact df_go (pe_df0 ok h.1)
    | val _ _ => simp [ckAs] at h
    | bor _ _ => simp [ckAs] at h
  | cons e es => exact df_go (pe_dfB ok h.1 h2 h1)
theorem subB_ok {l m : List Nat} (h : subB l m = true) : ∀ i ∈ l, i ∈ m := fun i hi => by
  unfold subB at h
  exact of_decide_eq_true (List.all_eq_true.mp h i hi)
theorem stE_ok {f ft : Expr → E → Bool} {fc ftc : Cxt → Expr → E → Bool} (hf : ∀ e t, f e t = true → Snd G X e (evE cl t) t) (hft : ∀ e t, ft e t = true → SndT G X e (evT cl t))
    (hfc : ∀ c X e t, Cok G cl c X → fc c e t = true → Snd G X e (evE cl t) t) (hftc : ∀ c X e t, Cok G cl c X → ftc c e t = true → SndT G X e (evT cl t))
    (ok : Cok G cl c X) {e : Expr} {t : E} (h : stE c f ft fc ftc e t = true) : Snd G X e (evE cl t) t := by
  unfold stE at h
  split at h
  · exact s_one (hf _ _ h)
  · cases t with
    | var i =>
      dsimp only at h
      split at h
      · exact s_var ok h
      · cases h
    | mov i =>
      dsimp only at h
      split at h
      · exact s_mov ok h
      · cases h
    | cst d =>
      dsimp only at h
      split at h
      · exact s_cst h
      · cases h
    | glb d =>
      dsimp only at h
      split at h
      · exact s_glb ok h
      · cases h
    | tup l =>
      dsimp only at h
      split at h
      · exact s_tup (ckEs_ok hf h)
      · cases h
    | lst l =>
      dsimp only at h
      split at h
      · exact s_lst (ckEs_ok hf h)
      · cases h
    | dct l =>
      dsimp only at h
      split at h
      · split at h
        · exact s_dct0
        · cases h
      · rw [Bool.and_eq_true] at h
        exact s_dct (ckPs_ok hf h.2) h.1 (List.cons_ne_nil _ _)
      · cases h
    | bin o a b =>
      dsimp only at h
      split at h
      · simp only [Bool.and_eq_true, decide_eq_true_eq] at h
        obtain ⟨⟨rfl, h1⟩, h2⟩ := h
        exact s_bin ok.K (hf _ _ h1) (hf _ _ h2)
      · cases h
    | neg a =>
      dsimp only at h
      split at h
      · exact s_neg (hf _ _ h)
      · cases h
    | cmp cp a b =>
      dsimp only at h
      split at h
      · simp only [Bool.and_eq_true, decide_eq_true_eq] at h
        obtain ⟨⟨⟨rfl, h0⟩, h1⟩, h2⟩ := h
        exact s_cmp ok h0 (hf _ _ h1) (hf _ _ h2)
      · cases h
    | chn cp a b cp' d =>
      dsimp only at h
      split at h
      · simp only [Bool.and_eq_true, decide_eq_true_eq] at h
        obtain ⟨⟨⟨⟨⟨rfl, rfl⟩, h0⟩, h1⟩, h2⟩, h3⟩ := h
        exact s_chn ok h0 (hf _ _ h1) (hf _ _ h2) (hf _ _ h3)
      · cases h
    | and a b =>
      dsimp only at h
      split at h
      · simp only [Bool.and_eq_true] at h
        exact s_and (hf _ _ h.1) (hf _ _ h.2)
      · cases h
    | or a b =>
      dsimp only at h
      split at h
      · simp only [Bool.and_eq_true] at h
        exact s_or (hf _ _ h.1) (hf _ _ h.2)
      · cases h
    | not a =>
      dsimp only at h
      split at h
      · exact s_not ok.K (hf _ _ h)
      · cases h
    | ite k a b =>
      dsimp only at h
      split at h
      · simp only [Bool.and_eq_true] at h
        exact s_ite (hft _ _ h.1.1).pt (hf _ _ h.1.2) (hf _ _ h.2)
      · cases h
    | idx a b =>
      dsimp only at h
      rw [Bool.or_eq_true] at h
      rcases h with h | h
      · split at h
        · split at h
          · simp only [Bool.and_eq_true] at h
            exact s_idxT ok h.1.1 h.1.2 (hf _ _ h.2)
          · cases h
        · cases h
      · split at h
        · simp only [Bool.and_eq_true] at h
          exact s_idx ok h.1.1 (hf _ _ h.1.2) (hf _ _ h.2)
        · cases h
    | slc a lo hi =>
      dsimp only at h
      split at h
      · simp only [Bool.and_eq_true] at h
        exact s_slc ok.K (hf _ _ h.1.1) (ckO_ok hf h.1.2) (ckO_ok hf h.2)
      · cases h
    | bi b a =>
      dsimp only at h
      split at h
      · rename_i hb
        cases b <;> first | (simp [isSdk] at hb; done) | skip
        split at h
        · simp only [Bool.and_eq_true] at h
          exact s_sdk ok h.1.1 h.1.2 (hf _ _ h.2)
        · cases h
      split at h
      · rename_i hb
        cases b <;> first | (simp [isRev] at hb; done) | skip
        split at h
        · exact s_rev ok (hf _ _ h)
        · cases h
      split at h
      · rename_i hb
        cases b <;> first | (simp [isSS] at hb; done) | skip
        split at h
        · simp only [Bool.and_eq_true] at h
          exact s_ss ok h.1.1.1 h.1.1.2 h.1.2 (hf _ _ h.2)
        · cases h
      · split at h
        · simp only [Bool.and_eq_true] at h
          exact s_bi ok h.1.1 h.1.2 (hf _ _ h.2)
        · cases h
    | isi a ts => exact (isi_all hf ok h).1
    | mt0 m o => cases h
    | mt1 m o a =>
      dsimp only at h
      split at h
      · simp only [Bool.and_eq_true] at h
        obtain ⟨⟨⟨⟨⟨⟨h1, h2⟩, h3⟩, h4⟩, h5⟩, h6⟩, h7⟩ := h
        cases of_decide_eq_true h1
        exact s_mt1 ok (mt_or h2) h3 h4 h5 (hf _ _ h6) (hf _ _ h7)
      · cases h
    | mt2 m o a b =>
      dsimp only at h
      split at h
      · simp only [Bool.and_eq_true] at h
        obtain ⟨⟨⟨⟨⟨⟨⟨⟨h1, h2⟩, h3⟩, h4⟩, h5⟩, h6⟩, h7⟩, h8⟩, h9⟩ := h
        cases of_decide_eq_true h1
        cases m <;> first | (simp [isGet] at h2; done) | skip
        exact s_mt2 ok h3 h4 h5 h6 (hf _ _ h7) (hf _ _ h8) (hf _ _ h9)
      · cases h
    | mu0 m i =>
      dsimp only at h
      split at h
      · split at h
        · simp only [Bool.and_eq_true, decide_eq_true_eq] at h
          obtain ⟨⟨rfl, h2⟩, h3⟩ := h
          exact s_mu0 ok h2 h3
        · cases h
      · cases h
    | mu1 m i a =>
      dsimp only at h
      split at h
      · simp only [Bool.and_eq_true, decide_eq_true_eq] at h
        obtain ⟨⟨⟨⟨rfl, h2⟩, h3⟩, h4⟩, h5⟩ := h
        exact s_mu1 ok h2 h3 h4 (hf _ _ h5)
      · cases h
    | upd i a =>
      dsimp only at h
      split at h
      · simp only [Bool.and_eq_true] at h
        obtain ⟨⟨⟨⟨h1, h2⟩, h3⟩, h4⟩, h5⟩ := h
        cases of_decide_eq_true h1
        exact s_upd ok h2 h3 h4 (hf _ _ h5)
      · cases h
    | df k l =>
      dsimp only at h
      split at h
      · exact .of (df_all hf ok h) (fun i q => by cases q)
      · cases h
    | lc el g it is own =>
      dsimp only at h
      split at h
      · simp only [Bool.and_eq_true] at h
        obtain ⟨⟨⟨⟨⟨⟨h1, h2⟩, h3⟩, h4⟩, h5⟩, h6⟩, h7⟩ := h
        exact s_lc ok ⟨h1, ckIt_ok hf ok h2, fun X' ok' => ckG_ok ok' 8 _ _ h3, fun X' ok' => ckTs_ok (fun e t q => (hftc _ X' e t ok' q).pt) h4, fun X' ok' => hfc _ X' _ _ ok' h5, subB_ok h6, h7⟩
      · cases h
    | lc2 el g it g1 it1 is own own1 =>
      dsimp only at h
      split at h
      · simp only [Bool.and_eq_true] at h
        obtain ⟨⟨⟨⟨⟨⟨⟨⟨⟨⟨⟨h1, h2⟩, h3⟩, h4⟩, h5⟩, h6⟩, h7⟩, h8⟩, h9⟩, h10⟩, h11⟩, h12⟩ := h
        exact s_lc2 ok ⟨h1, ckIt_ok hf ok h2, fun X' ok' => ckG_ok ok' 8 _ _ h3, fun X' ok' => ckIt_ok (fun e t q => hfc _ X' e t ok' q) ok' h4, fun X' ok' => ckG_ok ok' 8 _ _ h5, fun X' ok' => ckTs_ok (fun e t q => (hftc _ X' e t ok' q).pt) h6, fun X' ok' => hfc _ X' _ _ ok' h7, subB_ok h8, subB_ok h9, subB_ok h10, h11, h12⟩
      · cases h
    | lcx el g i is own =>
      dsimp only at h
      split at h
      · simp only [Bool.and_eq_true] at h
        obtain ⟨⟨⟨⟨⟨h1, h2⟩, h3⟩, h4⟩, h5⟩, h6⟩ := h
        exact s_lcx ok h2 ⟨h1, fun X' ok' => ckG_ok ok' 8 _ _ h3, fun X' ok' => ckTs_ok (fun e t q => (hftc _ X' e t ok' q).pt) h4, fun X' ok' => hfc _ X' _ _ ok' h5, subB_ok h6⟩
      · cases h
    | frz a => exact s_frz (hf _ _ h)
theorem stT_ok {f ft : Expr → E → Bool} (hf : ∀ e t, f e t = true → Snd G X e (evE cl t) t) (hft : ∀ e t, ft e t = true → SndT G X e (evT cl t))
    (ok : Cok G cl c X) {e : Expr} {t : E} (h : stT c f ft e t = true) : SndT G X e (evT cl t) := by
  unfold stT at h
  split at h
  · exact st_one (hft _ _ h)
  · cases t with
    | and a b =>
      dsimp only at h
      split at h
      · simp only [Bool.and_eq_true] at h
        exact .w (pw_weak (pw_and (hft _ _ h.1).pt ((hft _ _ h.2).pw _ _ _ rfl)) fun σ H Q q => tandT Q q)
      · cases h
    | or a b =>
      dsimp only at h
      split at h
      · simp only [Bool.and_eq_true] at h
        exact .w (pw_weak (pw_or (hft _ _ h.1).pt ((hft _ _ h.2).pw _ _ _ rfl)) fun σ H Q q => torT Q q)
      · cases h
    | not a =>
      dsimp only at h
      split at h
      · exact .of (pt_weak (pt_not (hft _ _ h).pt) fun σ H Q q => tnotT Q q) (fun op vs pos q => by cases q)
      · cases h
    | var i =>
      dsimp only at h
      split at h
      · exact .of (t_varT ok h) (fun op vs pos q => by cases q)
      · cases h
    | cmp cp a b =>
      dsimp only at h
      split at h
      · simp only [Bool.and_eq_true, decide_eq_true_eq] at h
        obtain ⟨⟨⟨rfl, h0⟩, h1⟩, h2⟩ := h
        exact .of (t_cmp ok h0 (hf _ _ h1) (hf _ _ h2)) (fun op vs pos q => by cases q)
      · cases h
    | chn cp a b cp' d =>
      dsimp only at h
      split at h
      · simp only [Bool.and_eq_true, decide_eq_true_eq] at h
        obtain ⟨⟨⟨⟨⟨rfl, rfl⟩, h0⟩, h1⟩, h2⟩, h3⟩ := h
        exact .of (t_chn ok h0 (hf _ _ h1) (hf _ _ h2) (hf _ _ h3)) (fun op vs pos q => by cases q)
      · cases h
    | idx a b =>
      dsimp only at h
      split at h
      · simp only [Bool.and_eq_true] at h
        exact .of (t_idx ok h.1.1 (hf _ _ h.1.2) (hf _ _ h.2)) (fun op vs pos q => by cases q)
      · cases h
    | bi b a =>
      dsimp only at h
      split at h
      · simp only [Bool.and_eq_true] at h
        exact .of (t_bi ok h.1.1 h.1.2 (hf _ _ h.2)) (fun op vs pos q => by cases q)
      · cases h
    | isi a ts => exact .of (isi_all hf ok h).2 (isi_noBool h)
    | mt1 m o a =>
      dsimp only at h
      split at h
      · simp only [Bool.and_eq_true, decide_eq_true_eq] at h
        obtain ⟨⟨⟨⟨⟨⟨rfl, h2⟩, h3⟩, h4⟩, h5⟩, h6⟩, h7⟩ := h
        exact .of (t_mt1 ok h2 h3 h4 h5 (hf _ _ h6) (hf _ _ h7)) (fun op vs pos q => by cases q)
      · cases h
    | df k l =>
      dsimp only at h
      split at h
      · exact .of (t_val ok.K (df_all hf ok h) fun _ => rfl) (fun op vs pos q => by cases q)
      · cases h
    | _ => cases h
theorem ckX_ok : ∀ (n : Nat) (c : Cxt) (X : Cx) (e : Expr) (t : E), Cok G cl c X → (ckX n false c e t = true → Snd G X e (evE cl t) t) ∧ (ckX n true c e t = true → SndT G X e (evT cl t))
  | 0, _, _, _, _, _ => ⟨fun h => by simp [ckX] at h, fun h => by simp [ckX] at h⟩
  | n + 1, c, X, e, t, ok => by
    have ih := ckX_ok n
    refine ⟨fun h => ?_, fun h => ?_⟩
    · have h : stE c (ckX n false c) (ckX n true c) (ckX n false) (ckX n true) e t = true := h
      exact stE_ok (fun e t q => (ih c X e t ok).1 q) (fun e t q => (ih c X e t ok).2 q) (fun c X e t ok q => (ih c X e t ok).1 q) (fun c X e t ok q => (ih c X e t ok).2 q) ok h
    · have h : stT c (ckX n false c) (ckX n true c) e t = true := h
      exact stT_ok (fun e t q => (ih c X e t ok).1 q) (fun e t q => (ih c X e t ok).2 q) ok h
end
end Ev
end
section
set_option Elab.async false
set_option linter.all false
set_option maxRecDepth 100000
set_option maxHeartbeats 4000000
/-! EvS: the check of statements, and that it is sound. -/
namespace Ev
open PySem L2 PyProof.Rows RZ
section
variable {G : Gx} {X : Cx} {cl : CL} {c : Cxt} {σ : L2.St} {H : Hp}

def PSk (G : Gx) (X : Cx) (cl : CL) (st : Stmt) (s : S) : Prop := PS X st (TSo G (S.sets s) (evS cl s))
def PSSk (G : Gx) (X : Cx) (cl : CL) (sts : List Stmt) (l : Ss) : Prop := PSs X sts (TSo G (Ss.sets l) (evSs cl l))

/-! ### what a store asks of the text's form -/
def isComp : Expr → Bool
  | .ListComp .. => true
  | .SetComp .. => true
  | .DictComp .. => true
  | _ => false
theorem swaps_of {e : Expr} {t : Option Expr} {l : Nat} {env : PySem.Env} (h : isComp e = false) : swapsWith e t l env = pure false := by
  cases e <;> first | rfl | (simp [isComp] at h)
theorem swaps_sub {e o i : Expr} {p : Pos} {l : Nat} {env : PySem.Env} : swapsWith e (some (.Subscript o i p)) l env = pure false := by
  cases e <;> rfl
def fnKind (sc : Scope) : Bool := match sc.kind with
  | .function => true
  | _ => false
theorem kind_ok (ok : Cok G cl c X) (h : fnKind c.sc = true) : X.env.blockKind = .function := by
  unfold PySem.Env.blockKind
  rw [ok.sc]
  unfold fnKind at h
  split at h
  · rename_i e; rw [e]; rfl
  · cases h
/-- a comprehension that is stored as it grows -/
def swpB (c : Cxt) (y : Str) (py p : Pos) (scope : Scope) : Bool := isLoc c y && (py.line == p.line) && !(scope.names.any fun (n, k) => n == y && (k == .local || k == .cell))
theorem isLoc_eq (c : Cxt) (y : Str) : (c.sc.names.lookup y == some NameKind.local) = isLoc c y := by
  unfold isLoc
  cases c.sc.names.lookup y with
  | none => rfl
  | some k => cases k <;> rfl
theorem swaps_lc {x : Expr} {gs : List Comprehension} {scope : Scope} {p py : Pos} {y : Str} {l : Nat} (ok : Cok G cl c X) (hk : fnKind c.sc = true) :
    swapsWith (.ListComp x gs scope p) (some (.Name y py)) l X.env = pure (swpB c y py p scope) := by
  show pure (X.env.blockKind == .function && X.env.scope.names.lookup y == some .local && py.line == p.line && !(scope.names.any fun (n, k) => n == y && (k == .local || k == .cell))) = _
  rw [kind_ok ok hk, ok.sc, isLoc_eq]
  rfl
def notTup : Expr → Bool
  | .Tuple .. => false
  | _ => true
theorem sw_none {ts : List Expr} {k : Nat} {p : Pos} {e : Expr} {env : PySem.Env} (h : notTup e = true) : swappedStores [.Tuple ts k p] e env = pure none := by
  cases e <;> first | rfl | (simp [notTup] at h)

/-! ### stores -/
theorem isLoc_ok (h : isLoc c x = true) : c.sc.names.lookup x = some .local := by
  unfold isLoc at h
  split at h
  · assumption
  · cases h
theorem q_set {x : Str} {i : Nat} {e : Expr} {t : E} {px pos : Pos} (ok : Cok G cl c X) (hx : isStore c x i = true) (hs : swapsWith e (some (.Name x px)) pos.line X.env = pure false) (h : Snd G X e (evE cl t) t) : PSk G X cl (.Assign [.Name x px] e pos) (.set (.nm i) t) := by
  obtain ⟨h1, h2, h3⟩ := store_okB ok hx
  refine ps_weak (ps_set ok.nd h1 h2 h.pe hs h3) fun D σ H q => ?_
  have q' : tAsg (TEo G (evE cl t)) (TGo G (.nm i)) D σ H := ts_set D q
  exact q'.imp fun x H1 q => tg_nm q
theorem q_setT {es : List Expr} {l : Tgs} {e : Expr} {t : E} {k : Nat} {pt pos : Pos} (hg : PGk G X (.Tuple es k pt) (.tp l)) (hc : isComp e = false) (ht : notTup e = true) (h : Snd G X e (evE cl t) t) : PSk G X cl (.Assign [.Tuple es k pt] e pos) (.set (.tp l) t) :=
  ps_weak (ps_asg h.pe hg (show swapsWith e (some (.Tuple es k pt)) pos.line X.env = pure false from swaps_of hc) (sw_none ht) rfl) fun D σ H q => ts_set D q
theorem q_setLc {y : Str} {i : Nat} {py pos spos : Pos} {x tg iter : Expr} {ifs : List Expr} {scope : Scope} {elt : E} {g : Tg} {it : It} {is : Es} {own : List Nat} {t : E} (ok : Cok G cl c X) (hk : fnKind c.sc = true) (hy : isStore c y i = true) (hb : swpB c y py pos scope = true)
    (h : LcOk G X cl c x tg iter ifs scope elt g it is own) (ht : t = .lc elt g it is own ∨ t = .frz (.lc elt g it is own)) : PSk G X cl (.Assign [.Name y py] (.ListComp x [⟨tg, iter, ifs, 0⟩] scope pos) spos) (.set (.nm i) t) := by
  obtain ⟨h1, h2, h3⟩ := store_okB ok hy
  have hloc : X.env.scope.names.lookup y = some .local := by
    unfold swpB at hb
    simp only [Bool.and_eq_true] at hb
    rw [ok.sc]; exact isLoc_ok hb.1.1
  refine ps_weak (ps_setLc (own := ownOf c own) ok.calm ok.nd h1 hloc (by rw [swaps_lc ok hk, hb]) h.it (h.bk ok) (fun s H C cells fp => h.tg _ (cok_blk ok)) (fun s H C cells fp => h.ts _ (cok_blk ok)) (fun s H C cells fp => (h.el _ (cok_blk ok)).pe) (folded_of h.ns)) fun D σ H q => ?_
  have q' : tAsg (TEo G (evE cl t)) (TGo G (.nm i)) D σ H := ts_set D q
  have q2 : TEo G (evE cl t) σ H fun x H1 => gName i x σ H1 D.nx := q'.imp fun x H1 q => tg_nm q
  show tLc _ _ _ _ _ σ H _
  rw [own_snd]
  rcases ht with rfl | rfl
  · exact tlc h.sub _ q2
  · exact tlc h.sub _ (tfrz _ q2)
theorem q_setLc2 {y : Str} {i : Nat} {py pos spos : Pos} {x tg iter tg1 iter1 : Expr} {ifs : List Expr} {scope : Scope} {elt : E} {g : Tg} {it : It} {g1 : Tg} {it1 : It} {is : Es} {own own1 : List Nat} {t : E} (ok : Cok G cl c X) (hk : fnKind c.sc = true) (hy : isStore c y i = true) (hb : swpB c y py pos scope = true)
    (h : Lc2Ok G X cl c x tg iter tg1 iter1 ifs scope elt g it g1 it1 is own own1) (ht : t = .lc2 elt g it g1 it1 is own own1 ∨ t = .frz (.lc2 elt g it g1 it1 is own own1)) : PSk G X cl (.Assign [.Name y py] (.ListComp x [⟨tg, iter, [], 0⟩, ⟨tg1, iter1, ifs, 0⟩] scope pos) spos) (.set (.nm i) t) := by
  obtain ⟨h1, h2, h3⟩ := store_okB ok hy
  have hloc : X.env.scope.names.lookup y = some .local := by
    unfold swpB at hb
    simp only [Bool.and_eq_true] at hb
    rw [ok.sc]; exact isLoc_ok hb.1.1
  have hbk : BlkOk X.N X.env.scope scope (ownOf c own) := by rw [ok.N, ok.sc]; exact blkOk_by h.blk
  refine ps_weak (ps_setLc2 (own := ownOf c own) (vs1 := own1) ok.calm ok.nd h1 hloc (by rw [swaps_lc ok hk, hb]) h.it hbk (fun i hi => by rw [own_snd]; exact h.own i hi) (fun s H C cells fp => h.tg _ (cok_blk ok)) (fun s H C cells fp => pt_nil0 (G := G)) (fun s H C cells fp => h.it1 _ (cok_blk ok)) (fun s H C cells fp => h.tg1 _ (cok_blk ok)) (fun s H C cells fp => h.ts _ (cok_blk ok)) (fun s H C cells fp => (h.el _ (cok_blk ok)).pe) (folded_of h.ns) (folded1 h.ns1)) fun D σ H q => ?_
  have q' : tAsg (TEo G (evE cl t)) (TGo G (.nm i)) D σ H := ts_set D q
  have q2 : TEo G (evE cl t) σ H fun x H1 => gName i x σ H1 D.nx := q'.imp fun x H1 q => tg_nm q
  show tLc2 _ _ _ _ _ _ _ _ _ σ H _
  rw [own_snd]
  rcases ht with rfl | rfl
  · exact tlc2 h.sub h.sub1 _ q2
  · exact tlc2 h.sub h.sub1 _ (tfrz _ q2)
theorem q_par {x y : Str} {i j : Nat} {e1 e2 : Expr} {a b : E} {px py pt p2 pos : Pos} {k k2 : Nat} (ok : Cok G cl c X) (hx : isStore c x i = true) (hy : isStore c y j = true) (hij : i ≠ j) (lx : isLoc c x = true) (ly : isLoc c y = true) (hn : noStar e1 = true ∧ noStar e2 = true)
    (hw : swappedStores [.Tuple [.Name x px, .Name y py] k pt] (.Tuple [e1, e2] k2 p2) X.env = pure (some [x, y])) (ha : Snd G X e1 (evE cl a) a) (hb : Snd G X e2 (evE cl b) b) : PSk G X cl (.Assign [.Tuple [.Name x px, .Name y py] k pt] (.Tuple [e1, e2] k2 p2) pos) (.par i j a b) := by
  obtain ⟨h1, h2, h3⟩ := store_okB ok hx
  obtain ⟨g1, g2, g3⟩ := store_okB ok hy
  exact ps_weak (ps_par ok.calm ok.nd h1 g1 hij (by rw [ok.sc]; exact isLoc_ok lx) (by rw [ok.sc]; exact isLoc_ok ly) (pa_cons ha.pe (pa_cons hb.pe pa_nil (star_of hn.2)) (star_of hn.1)) hw rfl) fun D σ H q => ts_par D q
theorem ts_par2 {i j : Nat} {ga gb : Env → Res OV} : ∀ D, TSo G [i, j] (fun ρ => (ga ρ).bd fun x ρ => (gb ρ).bd fun y ρ => .ok .nx ((ρ.put i x).put j y)) D σ H → tAsg (tTup (tCons (TEo G ga) (tCons (TEo G gb) tNil))) (gTup G.K 2 (gCons (gName i) (gCons (gName j) gNil))) D σ H := by
  rintro D ⟨ρ, F, S, R, hs, hw, hp⟩
  show TEo G ga σ H _
  obtain ⟨ρ', F', S', R', a1, a2, a3⟩ := step' (G := G) (H := H) (P := PostS G [i, j] σ R F H D) (rep := repE G) (T := []) pb px hs (by simpa using hw) hp
  refine ⟨ρ', F', S', R', a1, a2, a3.imp ?_⟩
  rintro x H1 ⟨ox, ρ1, F1, S1, Sx, hF1, hT, hs1, rx, hw1, hp1⟩
  show TEo G gb σ H1 _
  obtain ⟨ρ', F', S', R', a1, a2, a3⟩ := step' (G := G) (H := H1) (P := PostS G [i, j] σ R F H D) (rep := repE G) (T := Sx) pb px hs1 (by simpa using hw1) hp1
  refine ⟨ρ', F', S', R', a1, a2, a3.imp ?_⟩
  rintro y H2 ⟨oy, ρ2, F2, S2, Sy, hF2, hT2, hs2, ry, hw2, hp2⟩
  have hp2 := hp2.rebase (hF1.trans hF2) fun a ha => (hT2 a (by simp [ha])).trans (hT a (by simpa using ha))
  refine ⟨by rw [line_eq]; show 2 ≤ 16777216; decide, fun p hpn => ⟨p, [x, y], rfl, .of upd_same, rfl, x, [y], rfl, y, [], rfl, rfl, ?_⟩⟩
  have hne : ∀ a ∈ Sy ++ (Sx ++ (S2 ++ R)), upd H2 p (.tup [x, y]) a = H2 a := fun a ha => upd_ne fun z => (hw2.fr a ha).2 (z ▸ hpn)
  have hw3 : Own F2 (upd H2 p (.tup [x, y])) (Sy ++ (Sx ++ (S2 ++ R))) := (hw2.new (o := .tup [x, y]) hpn).sub (by intro a; rw [List.count_cons]; omega)
  have hs3 : St' G F2 (upd H2 p (.tup [x, y])) σ ρ2 S2 := hs2.mono .refl fun a ha => hne a (by simp [ha])
  obtain ⟨S3, h1, h2⟩ := hs3.put' i ((rx.mono hF2 fun a ha => hT2 a (by simp [ha])).mono .refl fun a ha => hne a (by simp [ha]))
  obtain ⟨S4, h3, h4⟩ := h1.put' j (ry.mono .refl fun a ha => hne a (by simp [ha]))
  refine hp2 _ F2 _ S4 .refl (fun a ha => hne a (by simp [ha])) ?_ h3 (hw3.sub (by intro a; have := h2 a; have := h4 a; simp only [List.count_append]; omega))
  exact Agree.trans Agree.set Agree.set (by simp) (by simp)
theorem q_par2 {x y : Str} {i j : Nat} {e1 e2 : Expr} {a b : E} {px py pt p2 pos : Pos} {k k2 : Nat} (ok : Cok G cl c X) (hx : isStore c x i = true) (hy : isStore c y j = true) (hn : noStar e1 = true ∧ noStar e2 = true)
    (hw : swappedStores [.Tuple [.Name x px, .Name y py] k pt] (.Tuple [e1, e2] k2 p2) X.env = pure none) (ha : Snd G X e1 (evE cl a) a) (hb : Snd G X e2 (evE cl b) b) : PSk G X cl (.Assign [.Tuple [.Name x px, .Name y py] k pt] (.Tuple [e1, e2] k2 p2) pos) (.par i j a b) := by
  obtain ⟨h1, h2, h3⟩ := store_okB ok hx
  obtain ⟨g1, g2, g3⟩ := store_okB ok hy
  refine ps_weak (ps_asg (pe_tup (pa_cons ha.pe (pa_cons hb.pe pa_nil (star_of hn.2)) (star_of hn.1))) (pg_tup (n := 2) ok.calm (pgs_cons (pg_name ok.nd h1 h2 h3) (pgs_cons (pg_name ok.nd g1 g2 g3) pgs_nil rfl) rfl) rfl rfl) rfl hw rfl) fun D σ H q => ?_
  rw [ok.K]
  exact ts_par2 D q
/-- which way a pair is stored -/
def parA (c : Cxt) (x y : Str) (px py : Pos) (e1 e2 : Expr) : Bool := isLoc c x && isLoc c y && (py.line == px.line) && decide (x ≠ y) && !([e1, e2].all (foldedForSure 8)) && !([e1, e2].all (constantsAlone 8))
def parB (c : Cxt) (x y : Str) (px py : Pos) (e1 e2 : Expr) : Bool := !(isLoc c x && isLoc c y && (py.line == px.line)) || [e1, e2].all (foldedForSure 8)
theorem star2 {e1 e2 : Expr} (hn : noStar e1 = true ∧ noStar e2 = true) : ([e1, e2].any fun | .Starred .. => true | _ => false) = false := by
  obtain ⟨h1, h2⟩ := hn
  cases e1 <;> first | (simp [noStar] at h1; done) | (cases e2 <;> first | rfl | (simp [noStar] at h2; done))
theorem sw2A {x y : Str} {e1 e2 : Expr} {px py pt p2 : Pos} {k k2 : Nat} (ok : Cok G cl c X) (hk : fnKind c.sc = true) (hn : noStar e1 = true ∧ noStar e2 = true) (h : parA c x y px py e1 e2 = true) :
    swappedStores [.Tuple [.Name x px, .Name y py] k pt] (.Tuple [e1, e2] k2 p2) X.env = pure (some [x, y]) := by
  unfold parA at h
  simp only [Bool.and_eq_true, decide_eq_true_eq, Bool.not_eq_true'] at h
  obtain ⟨⟨⟨⟨⟨h1, h2⟩, h3⟩, h4⟩, h5⟩, h6⟩ := h
  have k1 : X.env.kindOf x = some .local := by show X.env.scope.names.lookup x = _; rw [ok.sc]; exact isLoc_ok h1
  have k2' : X.env.kindOf y = some .local := by show X.env.scope.names.lookup y = _; rw [ok.sc]; exact isLoc_ok h2
  have hb := kind_ok ok hk
  have hst := star2 hn
  have hxy : (y == x) = false := by rw [beq_eq_false_iff_ne]; exact fun e => h4 e.symm
  unfold swappedStores
  simp only [List.length_cons, List.length_nil, hb, hst, List.head?_cons, Option.map_some, Option.getD_some, List.filterMap_cons, List.filterMap_nil, k1, k2', h3, beq_self_eq_true, Bool.and_self, if_true, h5, h6]
  have e3 : py.line = px.line := by simpa using h3
  have hp : (Expr.Name x px).pos = px := rfl
  simp [List.eraseDups_cons, hxy, h4, hp, e3]
  intro hh
  exfalso
  rcases hh with hh | hh
  · clear h5 h6 hst
    cases e1 <;> first | (simp [noStar] at hn; done) | (simp at hh; done)
  · clear h5 h6 hst
    cases e2 <;> first | (simp [noStar] at hn; done) | (simp at hh; done)
theorem sw2B {x y : Str} {e1 e2 : Expr} {px py pt p2 : Pos} {k k2 : Nat} (ok : Cok G cl c X) (hk : fnKind c.sc = true) (hn : noStar e1 = true ∧ noStar e2 = true) (h : parB c x y px py e1 e2 = true) :
    swappedStores [.Tuple [.Name x px, .Name y py] k pt] (.Tuple [e1, e2] k2 p2) X.env = pure none := by
  have hb := kind_ok ok hk
  have hst := star2 hn
  have hp : (Expr.Name x px).pos = px := rfl
  have kx : X.env.kindOf x = c.sc.names.lookup x := by show X.env.scope.names.lookup x = _; rw [ok.sc]
  have ky : X.env.kindOf y = c.sc.names.lookup y := by show X.env.scope.names.lookup y = _; rw [ok.sc]
  unfold parB at h
  simp only [← isLoc_eq] at h
  unfold swappedStores
  simp only [List.length_cons, List.length_nil, hb, hst, List.head?_cons, Option.map_some, Option.getD_some, List.filterMap_cons, List.filterMap_nil, kx, ky, hp]
  simp only [Bool.or_eq_true] at h
  rcases h with h | h
  · cases h1 : (c.sc.names.lookup x == some NameKind.local) with
    | false =>
      by_cases hc : (List.lookup y c.sc.names = some NameKind.local ∧ py.line = px.line) <;> simp [h1, hc]
    | true =>
      cases h2 : (c.sc.names.lookup y == some NameKind.local) with
      | false => simp [h1, h2]; try (split <;> simp)
      | true =>
        simp only [h1, h2, Bool.and_self, Bool.true_and, Bool.not_eq_true'] at h
        simp [h1, h2, h]
        try (split <;> simp)
  · simp [h]
    try (split <;> simp)
end
end Ev
end
section
set_option Elab.async false
set_option linter.all false
set_option maxRecDepth 100000
set_option maxHeartbeats 4000000
/-! EvT: statements beside the small syntax, the check, and that it is sound; defs. -/
namespace Ev
open PySem L2 PyProof.Rows RZ
section
variable {G : Gx} {X : Cx} {cl : CL} {c : Cxt} {σ : L2.St} {H : Hp}

/-! ### changes in place -/
theorem bin_add (a b : Int) (r : OV) (H : Hp) (Q : VK) (e : bin2 .add (.int a) (.int b) = some r) (q : ∀ k, r = .fz (.int k) → Q (.int k) H) : rAdd (.int a) (.int b) H Q := by
  cases e; exact ⟨a, b, rfl, rfl, q _ rfl⟩
theorem bin_sub (a b : Int) (r : OV) (H : Hp) (Q : VK) (e : bin2 .sub (.int a) (.int b) = some r) (q : ∀ k, r = .fz (.int k) → Q (.int k) H) : rSub (.int a) (.int b) H Q := by
  cases e; exact ⟨a, b, rfl, rfl, q _ rfl⟩
def augOk : Op2 → Bool
  | .add => true
  | .sub => true
  | _ => false
theorem q_aug {x : Str} {i : Nat} {o : Op2} {e : Expr} {t : E} {px pos : Pos} (ok : Cok G cl c X) (hx : isStore c x i = true) (ho : augOk o = true) (h : Snd G X e (evE cl t) t) : PSk G X cl (.AugAssign (.Name x px) (opOf o) e pos) (.aug i o t) := by
  obtain ⟨h1, h2, h3⟩ := store_okB ok hx
  cases o <;> first | (simp [augOk] at ho; done) | skip
  · exact ps_weak (ps_aug ok.nd h1 h2 h.po in_add h3) fun D σ H q => ts_aug bin_add (fun a b r e => by cases e; exact ⟨_, rfl⟩) D q
  · exact ps_weak (ps_aug ok.nd h1 h2 h.po in_sub h3) fun D σ H q => ts_aug bin_sub (fun a b r e => by cases e; exact ⟨_, rfl⟩) D q
theorem q_put {x : Str} {i : Nat} {ke e : Expr} {k t : E} {px ps pos : Pos} (ok : Cok G cl c X) (hx : isVar c x i = true) (hk : Snd G X ke (evE cl k) k) (h : Snd G X e (evE cl t) t) : PSk G X cl (.Assign [.Subscript (.Name x px) ke ps] e pos) (.sidx i k t) :=
  ps_weak (ps_put (pset_all (hu1 ok)) (pe_varB ok hx) hk.pe h.pe swaps_sub) fun D σ H q => ts_put D q
theorem aug_of {i : Expr} (h : noSl i = true) : ∀ ov iv new, augStore i ov iv new = (do holding [new, ov, iv] (setItem ov iv new); release [new, ov, iv] []; pure .next) := by
  intro ov iv new
  cases i <;> first | rfl | (simp [noSl] at h)
theorem q_saug {x : Str} {i : Nat} {o : Op2} {ke e : Expr} {k t : E} {px ps pos : Pos} (ok : Cok G cl c X) (hx : isVar c x i = true) (ho : augOk o = true) (hn : noSl ke = true) (hk : Snd G X ke (evE cl k) k) (h : Snd G X e (evE cl t) t) : PSk G X cl (.AugAssign (.Subscript (.Name x px) ke ps) (opOf o) e pos) (.saug i k o t) := by
  cases o <;> first | (simp [augOk] at ho; done) | skip
  · exact ps_weak (ps_daug (hu1 ok) (pe_varB ok hx) hk.pe h.pe in_add (aug_of hn)) fun D σ H q => ts_saug bin_add D q
  · exact ps_weak (ps_daug (hu1 ok) (pe_varB ok hx) hk.pe h.pe in_sub (aug_of hn)) fun D σ H q => ts_saug bin_sub D q
theorem q_sslc {x : Str} {i : Nat} {l h : Option Expr} {e : Expr} {lo hi t : E} {px ps p2 pos : Pos} (ok : Cok G cl c X) (hx : isVar c x i = true) (hl : POk G X cl l lo) (hh : POk G X cl h hi) (he : Snd G X e (evE cl t) t) : PSk G X cl (.Assign [.Subscript (.Name x px) (.Slice l h none p2) ps] e pos) (.sslc i lo hi t) :=
  ps_weak (ps_sslc (pe_varB ok hx) hl hh he.pe swaps_sub) fun D σ H q => ts_sslc D q

/-! ### the check -/
def ckSs (f : Stmt → S → Bool) : List Stmt → Ss → Bool
  | [], .nil => true
  | s :: ss, .cons t l => f s t && ckSs f ss l
  | _, _ => false
def dep : Nat := 60
abbrev kE (c : Cxt) : Expr → E → Bool := ckX dep false c
abbrev kT (c : Cxt) : Expr → E → Bool := ckX dep true c
def lcB (c : Cxt) (x tg iter : Expr) (ifs : List Expr) (scope : Scope) : E → Bool
  | .lc el g it is own => blkC c.N c.sc scope (ownOf c own) && ckIt c (kE c) tg iter it && ckG (blkCx c scope) 8 tg g && ckTs (kT (blkCx c scope)) ifs is && kE (blkCx c scope) x el && subB g.sets own && noSet iter
  | .frz (.lc el g it is own) => blkC c.N c.sc scope (ownOf c own) && ckIt c (kE c) tg iter it && ckG (blkCx c scope) 8 tg g && ckTs (kT (blkCx c scope)) ifs is && kE (blkCx c scope) x el && subB g.sets own && noSet iter
  | _ => false
def lc2C (c : Cxt) (x tg iter tg1 iter1 : Expr) (ifs : List Expr) (scope : Scope) (el : E) (g : Tg) (it : It) (g1 : Tg) (it1 : It) (is : Es) (own own1 : List Nat) : Bool :=
  blkC c.N c.sc scope (ownOf c own) && ckIt c (kE c) tg iter it && ckG (blkCx c scope) 8 tg g && ckIt (blkCx c scope) (kE (blkCx c scope)) tg1 iter1 it1 && ckG (blkCx c scope) 8 tg1 g1 && ckTs (kT (blkCx c scope)) ifs is && kE (blkCx c scope) x el && subB g.sets own && subB g1.sets own1 && subB own1 own && noSet iter && noSet iter1
def lcB2 (c : Cxt) (x tg iter tg1 iter1 : Expr) (ifs : List Expr) (scope : Scope) : E → Bool
  | .lc2 el g it g1 it1 is own own1 => lc2C c x tg iter tg1 iter1 ifs scope el g it g1 it1 is own own1
  | .frz (.lc2 el g it g1 it1 is own own1) => lc2C c x tg iter tg1 iter1 ifs scope el g it g1 it1 is own own1
  | _ => false
def setB (c : Cxt) (x : Str) (px : Pos) (e : Expr) (t : E) : Bool := match e with
  | .ListComp y [⟨tg, iter, ifs, 0⟩] scope p => fnKind c.sc && (if swpB c x px p scope then lcB c y tg iter ifs scope t else kE c e t)
  | .ListComp y [⟨tg, iter, [], 0⟩, ⟨tg1, iter1, ifs, 0⟩] scope p => fnKind c.sc && (if swpB c x px p scope then lcB2 c y tg iter tg1 iter1 ifs scope t else kE c e t)
  | _ => !(isComp e) && kE c e t
def isCall : Expr → Bool
  | .Call .. => true
  | _ => false
def ckS : Nat → Cxt → Stmt → S → Bool
  | 0, _, _, _ => false
  | n + 1, c, st, s => (match s with
    | .ex t => (match st with | .Expr e _ => !(isComp e) && kE c e t | _ => false)
    | .set g t => (match st with
      | .Assign [.Name x px] e _ => (match g with | .nm i => isStore c x i && setB c x px e t | _ => false)
      | .Assign [.Tuple es k pt] e _ => (match g with | .tp l => ckG c 8 (.Tuple es k pt) (.tp l) && !(isComp e) && notTup e && kE c e t | _ => false)
      | _ => false)
    | .par i j a b => (match st with
      | .Assign [.Tuple [.Name x px, .Name y py] _ _] (.Tuple [e1, e2] _ _) _ => fnKind c.sc && isStore c x i && isStore c y j && decide (i ≠ j) && noStar e1 && noStar e2 && (parA c x y px py e1 e2 || parB c x y px py e1 e2) && kE c e1 a && kE c e2 b
      | _ => false)
    | .aug i o t => (match st with | .AugAssign (.Name x _) op e _ => isStore c x i && augOk o && decide (op = opOf o) && kE c e t | _ => false)
    | .sidx i k t => (match st with | .Assign [.Subscript (.Name x _) ke _] e _ => isVar c x i && kE c ke k && kE c e t | _ => false)
    | .saug i k o t => (match st with | .AugAssign (.Subscript (.Name x _) ke _) op e _ => isVar c x i && augOk o && decide (op = opOf o) && noSl ke && kE c ke k && kE c e t | _ => false)
    | .sslc i lo hi t => (match st with | .Assign [.Subscript (.Name x _) (.Slice l h none _) _] e _ => isVar c x i && ckO (kE c) l lo && ckO (kE c) h hi && kE c e t | _ => false)
    | .ret t => (match st with | .Return (some e) _ => kE c e t | _ => false)
    | .retn => (match st with | .Return none _ => true | _ => false)
    | .ifs t a b => (match st with | .If e sa sb _ => kT c e t && ckSs (ckS n c) sa a && ckSs (ckS n c) sb b | _ => false)
    | .fors g it b => (match st with | .For tg e sb [] _ => ckIt c (kE c) tg e it && ckG c 8 tg g && noSet e && ckSs (ckS n c) sb b | _ => false)
    | .whl t b => (match st with | .While e sb [] _ => kT c e t && ckSs (ckS n c) sb b | _ => false)
    | .pass => (match st with | .Pass _ => true | _ => false)
    | .brk => (match st with | .Break _ => true | _ => false)
    | .cnt => (match st with | .Continue _ => true | _ => false))
theorem kE_ok (ok : Cok G cl c X) {e : Expr} {t : E} (h : kE c e t = true) : Snd G X e (evE cl t) t := (ckX_ok dep c X e t ok).1 h
theorem kT_ok (ok : Cok G cl c X) {e : Expr} {t : E} (h : kT c e t = true) : PT X e (TTo G (evT cl t)) := ((ckX_ok dep c X e t ok).2 h).pt
theorem lcB_ok (ok : Cok G cl c X) {x tg iter : Expr} {ifs : List Expr} {scope : Scope} {t : E} (h : lcB c x tg iter ifs scope t = true) : ∃ el g it is own, LcOk G X cl c x tg iter ifs scope el g it is own ∧ (t = .lc el g it is own ∨ t = .frz (.lc el g it is own)) := by
  unfold lcB at h
  split at h
  · rename_i el g it is own
    simp only [Bool.and_eq_true] at h
    obtain ⟨⟨⟨⟨⟨⟨h1, h2⟩, h3⟩, h4⟩, h5⟩, h6⟩, h7⟩ := h
    exact ⟨el, g, it, is, own, ⟨h1, ckIt_ok (fun e t q => kE_ok ok q) ok h2, fun X' ok' => ckG_ok ok' 8 _ _ h3, fun X' ok' => ckTs_ok (fun e t q => kT_ok ok' q) h4, fun X' ok' => kE_ok ok' h5, subB_ok h6, h7⟩, .inl rfl⟩
  · rename_i el g it is own
    simp only [Bool.and_eq_true] at h
    obtain ⟨⟨⟨⟨⟨⟨h1, h2⟩, h3⟩, h4⟩, h5⟩, h6⟩, h7⟩ := h
    exact ⟨el, g, it, is, own, ⟨h1, ckIt_ok (fun e t q => kE_ok ok q) ok h2, fun X' ok' => ckG_ok ok' 8 _ _ h3, fun X' ok' => ckTs_ok (fun e t q => kT_ok ok' q) h4, fun X' ok' => kE_ok ok' h5, subB_ok h6, h7⟩, .inr rfl⟩
  · cases h
theorem lc2C_ok (ok : Cok G cl c X) {x tg iter tg1 iter1 : Expr} {ifs : List Expr} {scope : Scope} {el : E} {g : Tg} {it : It} {g1 : Tg} {it1 : It} {is : Es} {own own1 : List Nat} (h : lc2C c x tg iter tg1 iter1 ifs scope el g it g1 it1 is own own1 = true) : Lc2Ok G X cl c x tg iter tg1 iter1 ifs scope el g it g1 it1 is own own1 := by
  unfold lc2C at h
  simp only [Bool.and_eq_true] at h
  obtain ⟨⟨⟨⟨⟨⟨⟨⟨⟨⟨⟨h1, h2⟩, h3⟩, h4⟩, h5⟩, h6⟩, h7⟩, h8⟩, h9⟩, h10⟩, h11⟩, h12⟩ := h
  exact ⟨h1, ckIt_ok (fun e t q => kE_ok ok q) ok h2, fun X' ok' => ckG_ok ok' 8 _ _ h3, fun X' ok' => ckIt_ok (fun e t q => kE_ok ok' q) ok' h4, fun X' ok' => ckG_ok ok' 8 _ _ h5, fun X' ok' => ckTs_ok (fun e t q => kT_ok ok' q) h6, fun X' ok' => kE_ok ok' h7, subB_ok h8, subB_ok h9, subB_ok h10, h11, h12⟩
theorem lcB2_ok (ok : Cok G cl c X) {x tg iter tg1 iter1 : Expr} {ifs : List Expr} {scope : Scope} {t : E} (h : lcB2 c x tg iter tg1 iter1 ifs scope t = true) : ∃ el g it g1 it1 is own own1, Lc2Ok G X cl c x tg iter tg1 iter1 ifs scope el g it g1 it1 is own own1 ∧ (t = .lc2 el g it g1 it1 is own own1 ∨ t = .frz (.lc2 el g it g1 it1 is own own1)) := by
  unfold lcB2 at h
  split at h
  · exact ⟨_, _, _, _, _, _, _, _, lc2C_ok ok h, .inl rfl⟩
  · exact ⟨_, _, _, _, _, _, _, _, lc2C_ok ok h, .inr rfl⟩
  · cases h
theorem setB_ok (ok : Cok G cl c X) {x : Str} {i : Nat} {px pos : Pos} {e : Expr} {t : E} (hx : isStore c x i = true) (h : setB c x px e t = true) : PSk G X cl (.Assign [.Name x px] e pos) (.set (.nm i) t) := by
  unfold setB at h
  split at h
  · simp only [Bool.and_eq_true] at h
    obtain ⟨hk, h⟩ := h
    split at h
    · rename_i hb
      obtain ⟨el, g, it, is, own, h1, h2⟩ := lcB_ok ok h
      exact q_setLc ok hk hx hb h1 h2
    · rename_i hb
      refine q_set ok hx ?_ (kE_ok ok h)
      rw [swaps_lc ok hk]
      rw [(Bool.not_eq_true _).mp hb]
  · simp only [Bool.and_eq_true] at h
    obtain ⟨hk, h⟩ := h
    split at h
    · rename_i hb
      obtain ⟨el, g, it, g1, it1, is, own, own1, h1, h2⟩ := lcB2_ok ok h
      exact q_setLc2 ok hk hx hb h1 h2
    · rename_i hb
      refine q_set ok hx ?_ (kE_ok ok h)
      rw [swaps_lc ok hk]
      rw [(Bool.not_eq_true _).mp hb]
  · simp only [Bool.and_eq_true, Bool.not_eq_true'] at h
    exact q_set ok hx (swaps_of h.1) (kE_ok ok h.2)
theorem ss_nil : PSSk G X cl [] .nil := pss_weak pss_nil fun D σ H q => ts_pass D q
theorem ss_cons {st : Stmt} {s : S} {sts : List Stmt} {l : Ss} (h : PSk G X cl st s) (hs : PSSk G X cl sts l) : PSSk G X cl (st :: sts) (.cons s l) :=
  pss_weak (pss_cons h hs) fun D σ H q => ts_seq (va := S.sets s) (vb := Ss.sets l) (vs := Ss.sets (.cons s l)) (fun i hi => by simp only [Ss.sets, List.mem_append]; exact .inl hi) (fun i hi => by simp only [Ss.sets, List.mem_append]; exact .inr hi) D q
theorem ckSs_ok {f : Stmt → S → Bool} (hf : ∀ st s, f st s = true → PSk G X cl st s) : ∀ {sts : List Stmt} {l : Ss}, ckSs f sts l = true → PSSk G X cl sts l
  | [], .nil, _ => ss_nil
  | s :: ss, .cons t l, h => by
    simp only [ckSs, Bool.and_eq_true] at h
    exact ss_cons (hf s t h.1) (ckSs_ok hf h.2)
  | [], .cons _ _, h => by simp [ckSs] at h
  | _ :: _, .nil, h => by simp [ckSs] at h
theorem ckS_ok (ok : Cok G cl c X) (hp : PassesOwn (model X.prog X.w) X.A X.env X.xe) : ∀ (n : Nat) (st : Stmt) (s : S), ckS n c st s = true → PSk G X cl st s
  | 0, _, _, h => by simp [ckS] at h
  | n + 1, st, s, h => by
    have ih := ckS_ok ok hp n
    unfold ckS at h
    cases s with
    | ex t =>
      dsimp only at h
      split at h
      · simp only [Bool.and_eq_true, Bool.not_eq_true'] at h
        exact ps_weak (ps_expr (kE_ok ok h.2).pe (swaps_of h.1)) fun D σ H q => ts_ex D q
      · cases h
    | set g t =>
      dsimp only at h
      split at h
      · split at h
        · simp only [Bool.and_eq_true] at h
          exact setB_ok ok h.1 h.2
        · cases h
      · split at h
        · simp only [Bool.and_eq_true, Bool.not_eq_true'] at h
          exact q_setT (ckG_ok ok 8 _ _ h.1.1.1) h.1.1.2 h.1.2 (kE_ok ok h.2)
        · cases h
      · cases h
    | par i j a b =>
      dsimp only at h
      split at h
      · simp only [Bool.and_eq_true, Bool.or_eq_true, decide_eq_true_eq] at h
        obtain ⟨⟨⟨⟨⟨⟨⟨⟨hk, h1⟩, h2⟩, h3⟩, h4⟩, h5⟩, h6⟩, h7⟩, h8⟩ := h
        rcases h6 with h6 | h6
        · have h6' := h6
          unfold parA at h6'
          simp only [Bool.and_eq_true] at h6'
          exact q_par ok h1 h2 h3 h6'.1.1.1.1.1 h6'.1.1.1.1.2 ⟨h4, h5⟩ (sw2A ok hk ⟨h4, h5⟩ h6) (kE_ok ok h7) (kE_ok ok h8)
        · exact q_par2 ok h1 h2 ⟨h4, h5⟩ (sw2B ok hk ⟨h4, h5⟩ h6) (kE_ok ok h7) (kE_ok ok h8)
      · cases h
    | aug i o t =>
      dsimp only at h
      split at h
      · simp only [Bool.and_eq_true, decide_eq_true_eq] at h
        obtain ⟨⟨⟨h1, h2⟩, rfl⟩, h3⟩ := h
        exact q_aug ok h1 h2 (kE_ok ok h3)
      · cases h
    | sidx i k t =>
      dsimp only at h
      split at h
      · simp only [Bool.and_eq_true] at h
        exact q_put ok h.1.1 (kE_ok ok h.1.2) (kE_ok ok h.2)
      · cases h
    | saug i k o t =>
      dsimp only at h
      split at h
      · simp only [Bool.and_eq_true, decide_eq_true_eq] at h
        obtain ⟨⟨⟨⟨⟨h1, h2⟩, rfl⟩, h3⟩, h4⟩, h5⟩ := h
        exact q_saug ok h1 h2 h3 (kE_ok ok h4) (kE_ok ok h5)
      · cases h
    | sslc i lo hi t =>
      dsimp only at h
      split at h
      · simp only [Bool.and_eq_true] at h
        exact q_sslc ok h.1.1.1 (ckO_ok (fun e t q => kE_ok ok q) h.1.1.2) (ckO_ok (fun e t q => kE_ok ok q) h.1.2) (kE_ok ok h.2)
      · cases h
    | ret t =>
      dsimp only at h
      split at h
      · exact ps_weak (ps_ret (kE_ok ok h).pe) fun D σ H q => ts_retE D q
      · cases h
    | retn =>
      dsimp only at h
      split at h
      · exact ps_weak ps_retN fun D σ H q => ts_retN D q
      · cases h
    | ifs t a b =>
      dsimp only at h
      split at h
      · simp only [Bool.and_eq_true] at h
        exact ps_weak (ps_if (kT_ok ok h.1.1) (ckSs_ok ih h.1.2) (ckSs_ok ih h.2)) fun D σ H q => ts_if (fun i hi => by simp only [S.sets, List.mem_append]; exact .inl hi) (fun i hi => by simp only [S.sets, List.mem_append]; exact .inr hi) D q
      · cases h
    | fors g it b =>
      dsimp only at h
      split at h
      · simp only [Bool.and_eq_true] at h
        exact ps_weak (ps_for hp ok.calm (ckIt_ok (fun e t q => kE_ok ok q) ok h.1.1.1) (ckG_ok ok 8 _ _ h.1.1.2) (ckSs_ok ih h.2) (folded_of h.1.2)) fun D σ H q => ts_for (fun i hi => by simp only [S.sets, List.mem_append]; exact .inl hi) (fun i hi => by simp only [S.sets, List.mem_append]; exact .inr hi) D q
      · cases h
    | whl t b =>
      dsimp only at h
      split at h
      · simp only [Bool.and_eq_true] at h
        exact ps_weak (ps_while hp (kT_ok ok h.1) (ckSs_ok ih h.2)) fun D σ H q => ts_whl (fun i hi => hi) D q
      · cases h
    | pass =>
      dsimp only at h
      split at h
      · exact ps_weak ps_pass fun D σ H q => ts_pass D q
      · cases h
    | brk =>
      dsimp only at h
      split at h
      · exact ps_weak ps_break fun D σ H q => ts_brk D q
      · cases h
    | cnt =>
      dsimp only at h
      split at h
      · exact ps_weak ps_continue fun D σ H q => ts_cnt D q
      · cases h
end
end Ev
end
section
set_option Elab.async false
set_option linter.all false
set_option maxRecDepth 100000
set_option maxHeartbeats 4000000
/-! EvU: defs, and the whole text: what the evaluator says is what the text does. -/
namespace Ev
open PySem L2 PyProof.Rows RZ
section
variable {G : Gx} {σ : L2.St} {H : Hp}

theorem St'.take {F : Fz} {ρ : Env} {S : List Addr} (r : St' G F H σ ρ S) : ∀ m, ∃ S', St' G F H (σ.take m) (ρ.take m) S' ∧ ∀ a, S'.count a ≤ S.count a := by
  induction r with
  | nil => intro m; simp only [List.take_nil]; exact ⟨[], .nil, fun _ => Nat.le_refl _⟩
  | un r ih =>
    intro m
    cases m with
    | zero => exact ⟨[], .nil, fun a => by simp⟩
    | succ m => obtain ⟨S', h1, h2⟩ := ih m; exact ⟨S', .un h1, h2⟩
  | @«at» v o σ ρ Sv S r0 r ih =>
    intro m
    cases m with
    | zero => exact ⟨[], .nil, fun a => by simp⟩
    | succ m => obtain ⟨S', h1, h2⟩ := ih m; exact ⟨Sv ++ S', .at r0 h1, fun a => by have := h2 a; rw [List.count_append, List.count_append]; omega⟩
theorem St'.nones {F : Fz} : ∀ n, St' G F H (List.replicate n none) (List.replicate n none) []
  | 0 => .nil
  | n + 1 => by rw [List.replicate_succ]; exact .un (St'.nones n)
theorem St'.pad {F : Fz} {ρ : Env} {S : List Addr} (r : St' G F H σ ρ S) (n : Nat) : St' G F H (σ ++ List.replicate n none) (ρ ++ List.replicate n none) S := by
  induction r with
  | nil => exact St'.nones n
  | un _ ih => exact .un ih
  | «at» r0 _ ih => exact .at r0 ih
theorem at_of_getElem {ρ : Env} {i : Nat} {o : Option OV} (h : ρ[i]? = some o) : ρ.at i = o := by
  unfold Env.at
  rw [h]
  cases o <;> rfl
theorem at_none {ρ : Env} {i : Nat} (h : ρ[i]? = none) : ρ.at i = none := by
  unfold Env.at
  rw [h]
theorem outs_get (d : Df) (ρ : Env) (i : Nat) (hi : i < d.np) : (d.outs ρ)[i]? = some (if i ∈ Ss.sets d.body then none else ρ.at i) := by
  unfold Df.outs
  rw [List.getElem?_map, List.getElem?_range hi]
  rfl
theorem at_take {ρ : Env} {i m : Nat} (h : i < m) : Env.at (ρ.take m) i = ρ.at i := by
  unfold Env.at
  rw [List.getElem?_take_of_lt h]
theorem outs_ok {F : Fz} {d : Df} {vs : List V} {σ0 : L2.St} {ρ : Env} {S : List Addr} (r : St' G F H σ ρ S) (h0 : ∃ n, σ0 = vs.map some ++ List.replicate n none) (ha : Agree σ0 σ (Ss.sets d.body)) (hl : vs.length = d.np) :
    ∃ So, St' G F H (vs.map some) (d.outs ρ) So ∧ ∀ a, So.count a ≤ S.count a := by
  obtain ⟨n, rfl⟩ := h0
  obtain ⟨S', h1, h2⟩ := r.take d.np
  have hls : (σ.take d.np).length = d.np := by
    rw [List.length_take]
    have := ha.1
    rw [List.length_append, List.length_map] at this
    omega
  have hc : ∀ i, Env.at (d.outs ρ) i = none ∨ (Env.at (d.outs ρ) i = Env.at (ρ.take d.np) i ∧ (vs.map some)[i]? = (σ.take d.np)[i]?) ∨ ∃ v dd, Env.at (d.outs ρ) i = some (.fz dd) ∧ (vs.map some)[i]? = some (some v) ∧ Rf G F v dd := by
    intro i
    by_cases hi : i < d.np
    · rw [at_of_getElem (outs_get d ρ i hi)]
      by_cases hs : i ∈ Ss.sets d.body
      · rw [if_pos hs]; exact .inl rfl
      · rw [if_neg hs]
        refine .inr (.inl ⟨(at_take hi).symm, ?_⟩)
        rw [List.getElem?_take_of_lt hi, ha.2 i hs, List.getElem?_append_left (by rw [List.length_map, hl]; exact hi)]
    · exact .inl (at_none (by unfold Df.outs; rw [List.getElem?_eq_none (by simpa using hi)]))
  obtain ⟨So, h3, h4⟩ := h1.re (σ := vs.map some) (ρ := d.outs ρ) (by rw [hls, List.length_map, hl]) (by rw [← h1.length, hls]; simp [Df.outs]) hc
  exact ⟨So, h3, fun a => Nat.le_trans (h4 a) (h2 a)⟩

theorem callD_len {P : Nat → Option Df} {k np : Nat} (h : ∀ d, P k = some d → d.np = np) : ∀ (n : Nat) (os : List OV), os.length ≠ np → callD P n k os = .bad
  | 0, _, _ => rfl
  | n + 1, os, ho => by
    unfold callD
    cases e : P k with
    | none => rfl
    | some d =>
      show (if os.length = d.np then _ else CRes.bad) = _
      rw [if_neg (by rw [h d e]; exact ho)]
end

/-- a def of the text: its name, its parts, its slots' names, its small form -/
structure DefI where
  name : Str
  fname : Str
  params : Arguments
  body : List Stmt
  scope : Scope
  N : List Str
  df : Df
def DefI.ps (i : DefI) : List Str := i.N.take i.df.np
def fnScopeB (N ps : List Str) (sc : Scope) : Bool := fnKind sc && !sc.isCoroutine && !sc.isGenerator && decide N.Nodup && decide (N.take ps.length = ps) &&
  (ps.all fun x => match sc.names.lookup x with | some .local => true | some .cell => true | _ => false) && (sc.names.all fun y => match y.2 with | .free => false | _ => true)
theorem fnScope_by {N ps : List Str} {sc : Scope} (h : fnScopeB N ps sc = true) : FnScope N ps sc := by
  unfold fnScopeB at h
  simp only [Bool.and_eq_true, Bool.not_eq_true', decide_eq_true_eq, List.all_eq_true] at h
  obtain ⟨⟨⟨⟨⟨⟨h1, h2⟩, h3⟩, h4⟩, h5⟩, h6⟩, h7⟩ := h
  refine ⟨?_, h2, h3, h4, h5, fun x hx => ?_, fun y hy e => ?_⟩
  · unfold fnKind at h1
    split at h1
    · assumption
    · cases h1
  · have := h6 x hx
    split at this
    · exact .inl (by assumption)
    · exact .inr (by assumption)
    · cases this
  · have := h7 y hy
    rw [e] at this
    cases this
structure Tab where
  infos : List DefI
  cons : List (Str × D)
  free : List Str
  tabs : List (Str × List (D × D))
def Tab.P (T : Tab) (k : Nat) : Option Df := (T.infos[k]?).map (·.df)
def Tab.defs (T : Tab) : List (Str × Nat) := T.infos.map fun i => (i.name, i.df.np)
def Tab.cx (T : Tab) (i : DefI) : Cxt := ⟨i.N, i.scope, i.N, T.defs, T.cons, T.free, T.tabs⟩
/-- what is checked of a def -/
def DefI.chk (T : Tab) (i : DefI) : Bool := decide (i.ps.length = i.df.np) && decide (i.N.length = i.df.ns) && fnScopeB i.N i.ps i.scope && ckSs (ckS 40 (T.cx i)) i.body i.df.body

section
variable {P : Program} {w : World} {K : PySem.W.Frag} {mg : Str → Option Value} {base : Heap}
structure FunI (K : PySem.W.Frag) (mg : Str → Option Value) (i : DefI) (f : Addr) (fd : FuncData) : Prop where
  fn : ∃ qual, FunD K i.fname qual i.params i.body i.scope [] [] f fd
  at_ : mg i.name = some (.ref f)
  bd : Binds K fd i.ps []
structure TabOk (w : World) (K : PySem.W.Frag) (mg : Str → Option Value) (T : Tab) : Prop where
  chk : ∀ i ∈ T.infos, i.chk T = true
  fns : ∀ i ∈ T.infos, ∃ f fd, FunI K mg i f fd
  free : ∀ x ∈ T.free, mg x = none
  cons : ∀ x d, (x, d) ∈ T.cons → ∃ v u, mg x = some u ∧ RelV v u ∧ ∀ G F, G.K = K → Rf G F v d
  tabs : ∀ x kv, (x, kv) ∈ T.tabs → ∃ a es n, mg x = some (.ref a) ∧ KDict K w a es n ∧ ∀ k d, dGet kv k = some d → keyOk k = true → ∃ z u v, k = .str z ∧ PySem.W.nsIn K a (sv z) = some (some u) ∧ RelV v u ∧ ∀ G F, G.K = K → Rf G F v d
def gx (K : PySem.W.Frag) : Gx := ⟨K, fun _ => none⟩
/-- THE TEXT does what the evaluator says -/
theorem Tab.all {T : Tab} (ok : TabOk w K mg T) : ∀ (n k : Nat) (i : DefI) (f : Addr) (fd : FuncData), T.infos[k]? = some i → FunI K mg i f fd → FnOk P w K mg base CX0 n f fd i.ps (spD (gx K) i.df.np (callD T.P n k))
  | 0, k, i, f, fd, hk, F => by
    have hc := ok.chk i (List.mem_of_getElem? hk)
    unfold DefI.chk at hc
    simp only [Bool.and_eq_true, decide_eq_true_eq] at hc
    refine ⟨fun vs H Q E h => by rw [h.1, hc.1.1.1], fun A outer s H args us vs Q E hr e0 hb r h => ?_⟩
    obtain ⟨_, os, _, _, _, _, _, q⟩ := h
    exact False.elim q
  | n + 1, k, i, f, fd, hk, F => by
    have ih := Tab.all ok n
    have hc := ok.chk i (List.mem_of_getElem? hk)
    unfold DefI.chk at hc
    simp only [Bool.and_eq_true, decide_eq_true_eq] at hc
    obtain ⟨⟨⟨c1, c2⟩, c3⟩, c4⟩ := hc
    obtain ⟨qual, FD⟩ := F.fn
    have hP : T.P k = some i.df := by unfold Tab.P; rw [hk]; rfl
    refine FD.ok (fnScope_by c3) (fun vs H Q E h => by rw [h.1, c1]) fun cdv A outer s H vs Q E hr h => ?_
    obtain ⟨hl, os, F0, S0, R, hs, hw, hp⟩ := h
    have hlo : os.length = i.df.np := by
      have := hs.length
      rw [List.length_map, List.length_map] at this
      rw [← this, hl]
    have okc : Cok (gx K) (callD T.P n) (T.cx i) (cxOf CX0 P w K mg base i.N qual i.scope f cdv A outer s H E).nox := by
      refine ⟨rfl, rfl, (fnScope_by c3).nd, rfl, rfl, fun _ _ => rfl, hr.units, fun k' name np h => ?_, ok.free, fun x d h => ?_, fun x kv h => ?_⟩
      · have h : (T.infos.map fun i => (i.name, i.df.np))[k']? = some (name, np) := h
        rw [List.getElem?_map] at h
        obtain ⟨i', e1, e2⟩ := Option.map_eq_some_iff.mp h
        cases e2
        obtain ⟨f', fd', F'⟩ := ok.fns i' (List.mem_of_getElem? e1)
        obtain ⟨q', FD'⟩ := F'.fn
        refine ⟨⟨n, f', fd', i'.ps, ih k' i' f' fd' e1 F', hr, F'.at_, FD'.kp, F'.bd⟩, callD_len (fun d e => ?_) n⟩
        unfold Tab.P at e
        rw [e1] at e
        cases e
        rfl
      · obtain ⟨v, u, h1, h2, h3⟩ := ok.cons x d h
        exact ⟨v, u, h1, h2, fun F => h3 (gx K) F rfl⟩
      · obtain ⟨a, es, n, h1, h2, h3⟩ := ok.tabs x kv h
        refine ⟨a, es, n, h1, h2, fun k d e1 e2 => ?_⟩
        obtain ⟨z, u, v, g1, g2, g3, g4⟩ := h3 k d e1 e2
        exact ⟨z, u, v, g1, g2, g3, fun F => g4 (gx K) F rfl⟩
    refine ⟨TSo (gx K) (Ss.sets i.df.body) (evSs (callD T.P n) i.df.body), PSs.nox (ckSs_ok (fun st s q => ckS_ok okc PassesOwn.never 40 st s q) c4), ?_⟩
    have est : i.df.start os = os.map some ++ List.replicate (i.df.ns - os.length) none := rfl
    have ess : L2.start i.N vs = vs.map some ++ List.replicate (i.df.ns - os.length) none := by
      unfold L2.start
      rw [c2, hlo, hl]
    refine ⟨i.df.start os, F0, S0, R, ?_, hw, ?_⟩
    · rw [est, ess]; exact hs.pad _
    · have hp : CPost (gx K) vs R F0 H Q (i.df.end (evSs (callD T.P n) i.df.body (i.df.start os))) := by
        have e : callD T.P (n + 1) k os = i.df.end (evSs (callD T.P n) i.df.body (i.df.start os)) := by
          show (match T.P k with
            | some d => if os.length = d.np then d.end (evSs (callD T.P n) d.body (d.start os)) else CRes.bad
            | none => CRes.bad) = _
          rw [hP]
          show (if os.length = i.df.np then _ else CRes.bad) = _
          rw [if_pos hlo]
        rw [← e]; exact hp
      cases er : evSs (callD T.P n) i.df.body (i.df.start os) with
      | bad => rw [er] at hp; exact False.elim hp
      | exc x ρ => rw [er] at hp; exact False.elim hp
      | ok fl ρ =>
        rw [er] at hp
        intro σ' F' H' S' a1 a2 a3 a4
        have ho := outs_ok a4 ⟨_, ess⟩ a3 hl
        obtain ⟨So, o1, o2⟩ := ho
        cases fl with
        | nx => exact fun a5 => hp .non F' H' [] So a1 a2 (.fz .non) o1 (a5.sub (by intro a; have := o2 a; simp only [List.count_append, List.nil_append]; omega))
        | brk => exact False.elim hp
        | cnt => exact False.elim hp
        | ret o => exact fun v Sv r a5 => hp v F' H' Sv So a1 a2 r o1 (a5.sub (by intro a; have := o2 a; simp only [List.count_append]; omega))
end
end Ev
end
section
set_option Elab.async false
set_option linter.all false
set_option maxRecDepth 100000
set_option maxHeartbeats 4000000
/-! EvY: the head's facts for a table of defs; the law's def at the script. -/
namespace Ev
open PySem L2 PyProof.Rows RZ
def DefI.dd (i : DefI) : He.DefD := ⟨(i.name, none), i.fname, i.fname, i.params, i.body, i.scope, [], []⟩
def Tab.fn (T : Tab) : List He.DefD := T.infos.map DefI.dd
def Tab.fa (T : Tab) : List He.Fa := T.infos.map (fun i => .glo i.name) ++ (T.free.map .free ++ T.tabs.map fun p => .glo p.1)
mutual
/-- a value that stands in the text's part is data -/
def datB (K : PySem.W.Frag) : Nat → Value → D → Bool
  | 0, _, _ => false
  | n + 1, u, d => (match d with
    | .non => (match u with | .none => true | _ => false)
    | .bl b => (match u with | .bool a => a == b | _ => false)
    | .int j => (match u with | .int i _ => decide (i = j) | _ => false)
    | .str y => (match u with | .str x _ => decide (x = sv y) | _ => false)
    | .tup ds => (match u with
      | .ref a => (match K.lookup a with
        | some ⟨.type c, _, .seq its _, _⟩ => decide (c = "tuple") && (decide (its.size ≤ sizeLine) && datsB K n its.toList ds)
        | _ => false)
      | _ => false)
    | _ => false)
def datsB (K : PySem.W.Frag) : Nat → List Value → List D → Bool
  | 0, _, _ => false
  | _ + 1, [], [] => true
  | n + 1, u :: us, d :: ds => datB K n u d && datsB K n us ds
  | _ + 1, _, _ => false
end
mutual
theorem datB_ok {K : PySem.W.Frag} : ∀ (n : Nat) (u : Value) (d : D), datB K n u d = true → ∃ v, RelV v u ∧ ∀ G F, G.K = K → Rf G F v d
  | 0, _, _, h => by simp [datB] at h
  | n + 1, u, .non, h => by
    simp only [datB] at h
    split at h
    · exact ⟨.non, rfl, fun _ _ _ => .non⟩
    · cases h
  | n + 1, u, .bl b, h => by
    simp only [datB] at h
    split at h
    · rename_i a
      exact ⟨.bl b, by rw [eq_of_beq h]; rfl, fun _ _ _ => .bl b⟩
    · cases h
  | n + 1, u, .int j, h => by
    cases u with
    | int i t =>
      have h : decide (i = j) = true := h
      exact ⟨.int j, ⟨t, by rw [of_decide_eq_true h]⟩, fun _ _ _ => .int j⟩
    | _ => simp [datB] at h
  | n + 1, u, .str y, h => by
    simp only [datB] at h
    split at h
    · rename_i x t
      cases of_decide_eq_true h
      exact ⟨.str (sv y), ⟨t, rfl⟩, fun _ _ _ => .str y⟩
    · cases h
  | n + 1, u, .tup ds, h => by
    simp only [datB] at h
    split at h
    · rename_i a
      split at h
      · rename_i c od its k sl e
        simp only [Bool.and_eq_true, decide_eq_true_eq] at h
        obtain ⟨rfl, h1, h2⟩ := h
        obtain ⟨vs, r, q⟩ := datsB_ok n its.toList ds h2
        refine ⟨.ref a, rfl, fun G F hG => ?_⟩
        subst hG
        exact .tupW ⟨_, its, k, e, rfl, rfl, h1, r⟩ (q G F rfl)
      · cases h
    · cases h
  | n + 1, u, .lst _, h => by simp [datB] at h
  | n + 1, u, .dct _, h => by simp [datB] at h
  | n + 1, u, .fn _, h => by simp [datB] at h
  | n + 1, u, .scr _, h => by simp [datB] at h
theorem datsB_ok {K : PySem.W.Frag} : ∀ (n : Nat) (us : List Value) (ds : List D), datsB K n us ds = true → ∃ vs, Vals vs us ∧ ∀ G F, G.K = K → Rfs G F vs ds
  | 0, _, _, h => by simp [datsB] at h
  | n + 1, [], [], _ => ⟨[], .nil, fun _ _ _ => .nil⟩
  | n + 1, u :: us, d :: ds, h => by
    simp only [datsB, Bool.and_eq_true] at h
    obtain ⟨v, r1, q1⟩ := datB_ok n u d h.1
    obtain ⟨vs, r2, q2⟩ := datsB_ok n us ds h.2
    exact ⟨v :: vs, .cons r1 r2, fun G F e => .cons (q1 G F e) (q2 G F e)⟩
  | n + 1, [], _ :: _, h => by simp [datsB] at h
  | n + 1, _ :: _, [], h => by simp [datsB] at h
end
def conD (K : PySem.W.Frag) (p : Str × D) : Bool := match PySem.W.nsIn K mainGlobals p.1 with
  | some (some u) => datB K 30 u p.2
  | _ => false
def keyS : D → Str
  | .str x => sv x
  | _ => Str.ofString ""
def isStrD : D → Bool
  | .str _ => true
  | _ => false
def tabD (K : PySem.W.Frag) (p : Str × List (D × D)) : Bool := p.2.all fun q => isStrD q.1 && (match PySem.W.nsIn K (He.ga K p.1) (keyS q.1) with
  | some (some u) => datB K 30 u q.2
  | _ => false)
abbrev AlX : Type := He.AlD × (Bool × List (Option (List (Option (Str × Int)))))
def obsX (T : Tab) (K : PySem.W.Frag) : AlX := (He.obsD T.fa T.fn K, (T.cons.all (conD K) && T.tabs.all (tabD K), T.tabs.map fun p => He.dicW K (He.ga K p.1)))
def valX (T : Tab) (w : World) : AlX := (He.valD T.fn, (true, T.tabs.map fun p => some (He.keysIn w.params (p.2.map fun q => keyS q.1))))
def SaysX (T : Tab) (w : World) (K : PySem.W.Frag) : Prop := obsX T K = valX T w
def obsXG (n : Nat) (T : Tab) (g : Addr → Option Obj) : AlX := obsX T (He.frG g (He.asD g n))
def hookX (n : Nat) (T : Tab) : PySem.W.Hook where
  α := AlX
  obs := fun s => obsXG n T s.heap.get?
  val := fun w => valX T w
  says := fun w h => ∃ K : PySem.W.Frag, K.In h ∧ SaysX T w K
  of := fun _ _ e => ⟨_, He.frG_in, e⟩
  keeps := fun _ _ _ ⟨K, hK, c⟩ k => ⟨K, PySem.W.Frag.In.keeps hK k, c⟩
theorem obsXG_eq {n : Nat} {T : Tab} {g : Addr → Option Obj} {s : Shared} (h : ∀ a, g a = s.heap.get? a) : obsXG n T g = (hookX n T).obs s := by
  have e : g = s.heap.get? := funext h
  rw [e] <;> rfl
def argsB (p : Arguments) (ps : List Str) : Bool := match p with
  | ⟨[], as, none, [], [], none, []⟩ => decide (as.map (·.arg) = ps) && decide (as.map (·.arg)).Nodup
  | _ => false
def Tab.okB (T : Tab) : Bool := (T.infos.all fun i => i.chk T) && (T.infos.all fun i => argsB i.params i.ps)
section
variable {K : PySem.W.Frag} {h : Heap} {mg : Str → Option Value}
theorem zip_look {α : Type} : ∀ {ns : List Str} {us : List α}, us.length = ns.length → ns.Nodup → (∀ n ∈ ns, ((ns.zip us).lookup n).isNone = false) ∧ ns.filterMap (fun n => ((ns.zip us).lookup n).map (n, ·)) = ns.zip us
  | [], _, _, _ => ⟨fun n h => by simp at h, by simp⟩
  | a :: ns, u :: us, hl, hn => by
    obtain ⟨h1, h2⟩ := List.nodup_cons.mp hn
    obtain ⟨k1, k2⟩ := zip_look (us := us) (ns := ns) (by simpa using hl) h2
    refine ⟨fun n hm => ?_, ?_⟩
    · rw [List.zip_cons_cons, List.lookup_cons]
      by_cases e : n = a
      · subst e; simp
      · rw [show (n == a) = false from beq_eq_false_iff_ne.mpr e]
        rcases List.mem_cons.mp hm with z | z
        · exact absurd z e
        · exact k1 n z
    · rw [List.zip_cons_cons, List.filterMap_cons]
      have e0 : List.lookup a ((a, u) :: ns.zip us) = some u := by simp [List.lookup_cons]
      rw [e0]
      show (a, u) :: _ = _
      congr 1
      refine Eq.trans ?_ k2
      have : ∀ l : List Str, (∀ n ∈ l, n ≠ a) → l.filterMap (fun n => (List.lookup n ((a, u) :: ns.zip us)).map (n, ·)) = l.filterMap (fun n => (List.lookup n (ns.zip us)).map (n, ·)) := by
        intro l
        induction l with
        | nil => intro _; rfl
        | cons n l ih =>
          intro hl
          have e : (n == a) = false := beq_eq_false_iff_ne.mpr (hl n (by simp))
          rw [List.filterMap_cons, List.filterMap_cons, ih fun m hm => hl m (List.mem_cons_of_mem _ hm), List.lookup_cons, e]
      exact this ns fun n hm e => h1 (e ▸ hm)
  | _ :: _, [], hl, _ => by simp at hl
theorem args_bind {x qual : Str} {body : List Stmt} {scope : Scope} {p : Arguments} {ps : List Str} (hb : argsB p ps = true) (kV doc pm : Value) (an : Option Addr) (cdv ct : Value) (us : List Value) (hl : us.length = ps.length) :
    bindArgs (PySem.W.fnOf x qual p body scope .none kV doc pm an cdv ct) ⟨us, []⟩ = pure (ps.zip us) := by
  unfold argsB at hb
  split at hb
  · rename_i as
    simp only [Bool.and_eq_true, decide_eq_true_eq] at hb
    obtain ⟨rfl, hn⟩ := hb
    rw [List.length_map] at hl
    obtain ⟨h1, h2⟩ := zip_look (ns := as.map (·.arg)) (us := us) (by rw [List.length_map]; exact hl) hn
    have h3 : ((as.map (·.arg)).filter fun n => (((as.map (·.arg)).zip us).lookup n).isNone) = [] := by
      rw [List.filter_eq_nil_iff]
      intro n hm
      rw [h1 n hm]; simp
    unfold bindArgs PySem.W.fnOf
    simp only [List.map_nil, List.nil_append, List.append_nil, List.length_map]
    have hs : seqItems? Value.none = pure none := rfl
    have hg : ¬ us.length > as.length := by omega
    have ht : (as.map (·.arg)).take as.length = as.map (·.arg) := List.take_of_length_le (by rw [List.length_map]; exact Nat.le_refl _)
    simp only [List.forIn_nil, pure_bind, hs, Option.getD_none, Array.toList_empty, List.drop_nil, List.length_nil, hg, decide_false, Bool.false_and, Bool.false_eq_true, if_false, Nat.sub_zero, Nat.zero_sub, ht, h3, List.isEmpty_nil, Bool.not_true, List.zip_nil_right]
    rw [h2]
  · cases hb
theorem says_fact {fa : List He.Fa} {fn : List He.DefD} (c : He.SaysD fa fn K) {f : He.Fa} (hf : f ∈ fa) : He.Fa.ok K f = true := by
  obtain ⟨i, hi⟩ := List.getElem?_of_mem hf
  exact c.fact i hi
theorem SaysX.d {T : Tab} {w : World} (c : SaysX T w K) : He.SaysD T.fa T.fn K := congrArg (fun z : AlX => z.1) c
theorem tab_fun {T : Tab} {w : World} (X : K.In h) (G : h.Ns mainGlobals mg) (c : SaysX T w K) (hb : T.okB = true) {i : DefI} (hi : i ∈ T.infos) : ∃ fd, FunI K mg i (He.ga K i.name) fd ∧ FunD K i.fname i.fname i.params i.body i.scope [] [] (He.ga K i.name) fd := by
  obtain ⟨j, hj⟩ := List.getElem?_of_mem hi
  have hd : T.fn[j]? = some i.dd := by unfold Tab.fn; rw [List.getElem?_map, hj]; rfl
  obtain ⟨fd, FD⟩ := c.d.def_ j hd
  have FD : FunD K i.fname i.fname i.params i.body i.scope [] [] (He.ga K i.name) fd := FD
  unfold Tab.okB at hb
  simp only [Bool.and_eq_true] at hb
  have ha := List.all_eq_true.mp hb.2 i hi
  have hg : He.Fa.ok K (.glo i.name) = true := says_fact c.d (List.mem_append_left _ (List.mem_map.mpr ⟨i, hi, rfl⟩))
  exact ⟨fd, ⟨⟨i.fname, FD⟩, He.glo_ok X G hg, FD.bindsN fun kV doc pm an cdv ct us hl => args_bind ha kV doc pm an cdv ct us hl⟩, FD⟩
theorem dGet_mem : ∀ {kv : List (D × D)} {k d : D}, dGet kv k = some d → ∃ q ∈ kv, D.eq q.1 k = true ∧ q.2 = d
  | [], k, d, h => by simp [dGet] at h
  | (a, b) :: kv, k, d, h => by
    rw [dGet] at h
    split at h
    · rename_i e; cases h; exact ⟨(a, b), by simp, e, rfl⟩
    · obtain ⟨q, h1, h2⟩ := dGet_mem h
      exact ⟨q, List.mem_cons_of_mem _ h1, h2⟩
theorem tab_ok {T : Tab} {w : World} (X : K.In h) (G : h.Ns mainGlobals mg) (c : SaysX T w K) (hb : T.okB = true) : TabOk w K mg T := by
  have hb' := hb
  unfold Tab.okB at hb'
  simp only [Bool.and_eq_true] at hb'
  have c2 : (T.cons.all (conD K) && T.tabs.all (tabD K)) = true := congrArg (fun z : AlX => z.2.1) c
  have c3 : T.tabs.map (fun p => He.dicW K (He.ga K p.1)) = T.tabs.map fun p => some (He.keysIn w.params (p.2.map fun q => keyS q.1)) := congrArg (fun z : AlX => z.2.2) c
  rw [Bool.and_eq_true] at c2
  refine ⟨fun i hi => List.all_eq_true.mp hb'.1 i hi, fun i hi => ?_, fun x hx => ?_, fun x d hx => ?_, fun x kv hx => ?_⟩
  · obtain ⟨fd, F, _⟩ := tab_fun X G c hb hi
    exact ⟨_, fd, F⟩
  · exact He.free_ok X G (says_fact c.d (List.mem_append_right _ (List.mem_append_left _ (List.mem_map.mpr ⟨x, hx, rfl⟩))))
  · have hc := List.all_eq_true.mp c2.1 _ hx
    unfold conD at hc
    split at hc
    · rename_i u e
      obtain ⟨v, r, q⟩ := datB_ok _ _ _ hc
      exact ⟨v, u, PySem.W.mg_of X G e, r, q⟩
    · cases hc
  · have hg : mg x = some (.ref (He.ga K x)) := He.glo_ok X G (says_fact c.d (List.mem_append_right _ (List.mem_append_right _ (List.mem_map.mpr ⟨(x, kv), hx, rfl⟩))))
    obtain ⟨j, hj⟩ := List.getElem?_of_mem hx
    have e2 := congrArg (fun l : List (Option (List (Option (Str × Int)))) => l[j]?) c3
    simp only [List.getElem?_map, hj, Option.map_some, Option.some.injEq] at e2
    obtain ⟨es, n, D⟩ := He.dicW_ok e2
    refine ⟨_, es, n, hg, D, fun k d e hk => ?_⟩
    have ht := List.all_eq_true.mp c2.2 _ hx
    obtain ⟨q, h1, h2, rfl⟩ := dGet_mem e
    have h3 := List.all_eq_true.mp ht q h1
    rw [Bool.and_eq_true] at h3
    obtain ⟨h4, h5⟩ := h3
    obtain ⟨qk, qv⟩ := q
    cases qk with
    | str z =>
      cases k with
      | str z' =>
        cases of_decide_eq_true (show decide (z = z') = true from h2)
        simp only [keyS] at h5
        split at h5
        · rename_i u e5
          obtain ⟨v, r, q⟩ := datB_ok _ _ _ h5
          exact ⟨z, u, v, rfl, e5, r, q⟩
        · cases h5
      | _ => first | cases h2 | cases hk
    | _ => cases h4
/-- the law's def, at the script -/
theorem spD_law {K : PySem.W.Frag} {f : List OV → CRes} {H : Hp} {a : Addr} {ns : List Int} {E : XK} (hS : SqL K H a (ns.map V.int)) (hO : Only H) (hf : ∃ outs, f [.fz (.scr ns)] = .ok (.fz (.bl true)) outs) :
    spD (gx K) 1 f [.ref a] H (fun v _ => v = .bl true) E := by
  obtain ⟨outs, hf⟩ := hf
  have fin : ∀ F : Fz, Le F H → Rf (gx K) F (.ref a) (.scr ns) → spD (gx K) 1 f [.ref a] H (fun v _ => v = .bl true) E := fun F le r =>
    ⟨rfl, [.fz (.scr ns)], F, [] ++ [], [], .at (.fz r) .nil, ⟨le, fun _ => by simp, fun _ h => by simp at h⟩, by
      rw [hf]
      intro v F' H' Sv So _ _ rv _ _
      cases rv with | fz rv => cases rv; rfl⟩
  rcases hS with (hS | ⟨o, hS⟩) | hS
  · rcases hO a with e | ⟨o, xs, e⟩ <;> (rw [hS] at e; cases e)
  · refine fin (fput (fun _ => none) a (.scr o (ns.map V.int))) (fun b u e => ?_) (.scr fput_same)
    by_cases z : b = a
    · subst z; rw [fput_same] at e; cases e; exact hS
    · rw [fput_ne z] at e; cases e
  · exact fin (fun _ => none) (fun b u e => by cases e) (.scrW hS)
theorem law_fn {T : Tab} (X : K.In h) (G : h.Ns mainGlobals mg) {w : World} (c : SaysX T w K) (hb : T.okB = true) {kl : Nat} {il : DefI} (hk : T.infos[kl]? = some il) {x : Str} (hps : il.ps = [x]) (n : Nat) {fa : Addr} (hfa : mg il.name = some (.ref fa)) (P : Program) :
    ∃ fd : FuncData, (∀ (s : Shared) (v : Value), BindsTo s fd ⟨[v], []⟩ [(x, v)]) ∧ ∀ base : Heap, FnOk P w K mg base CX0 n fa fd [x] (spD (gx K) il.df.np (callD T.P n kl)) := by
  have hi := List.mem_of_getElem? hk
  obtain ⟨fd, F, FD⟩ := tab_fun X G c hb hi
  have e := hfa.symm.trans F.at_
  cases e
  have hb' := hb
  unfold Tab.okB at hb'
  simp only [Bool.and_eq_true] at hb'
  have ha := List.all_eq_true.mp hb'.2 il hi
  have b := FD.bindsA (ps := il.ps) fun kV doc pm an cdv ct us hl => args_bind ha kV doc pm an cdv ct us hl
  refine ⟨fd, fun s v => ?_, fun base => ?_⟩
  · have := b s [v] (by rw [hps]; rfl)
    rw [hps] at this
    exact this
  · rw [← hps]
    exact Tab.all (tab_ok X G c hb) n kl il _ fd hk F
end
end Ev
end
section
set_option linter.all false
set_option maxRecDepth 100000
namespace K16
open Ev
abbrev s_abcdefghijklmnopqrstuvwx : Tx := [97, 98, 99, 100, 101, 102, 103, 104, 105, 106, 107, 108, 109, 110, 111, 112, 113, 114, 115, 116, 117, 118, 119, 120, 121, 122]
abbrev s_ : Tx := []
abbrev s_before : Tx := [98, 101, 102, 111, 114, 101]
abbrev s_double : Tx := [100, 111, 117, 98, 108, 101]
abbrev s_swap : Tx := [115, 119, 97, 112]
abbrev s_cut : Tx := [99, 117, 116]
abbrev s_front : Tx := [102, 114, 111, 110, 116]
abbrev s_end : Tx := [101, 110, 100]
abbrev s_number : Tx := [110, 117, 109, 98, 101, 114]
abbrev s_one : Tx := [111, 110, 101]
abbrev s_many : Tx := [109, 97, 110, 121]
abbrev s_fixed : Tx := [102, 105, 120, 101, 100]
abbrev s_this : Tx := [116, 104, 105, 115]
abbrev s_some : Tx := [115, 111, 109, 101]
abbrev s_each : Tx := [101, 97, 99, 104]
abbrev s_no : Tx := [110, 111]
abbrev s_case : Tx := [99, 97, 115, 101]
abbrev s_WHO : Tx := [87, 72, 79]
abbrev s_WHAT : Tx := [87, 72, 65, 84]
abbrev s_WHOM : Tx := [87, 72, 79, 77]
abbrev s_time : Tx := [116, 105, 109, 101]
abbrev s_past : Tx := [112, 97, 115, 116]
abbrev s_now : Tx := [110, 111, 119]
abbrev s_later : Tx := [108, 97, 116, 101, 114]
abbrev s_truth : Tx := [116, 114, 117, 116, 104]
abbrev s_yes : Tx := [121, 101, 115]
abbrev s_mood : Tx := [109, 111, 111, 100]
abbrev s_tell : Tx := [116, 101, 108, 108]
abbrev s_ask : Tx := [97, 115, 107]
abbrev s_bid : Tx := [98, 105, 100]
abbrev s_more : Tx := [109, 111, 114, 101]
abbrev s_who : Tx := [119, 104, 111]
abbrev s_kind : Tx := [107, 105, 110, 100]
abbrev s_thing : Tx := [116, 104, 105, 110, 103]
abbrev s_draws : Tx := [100, 114, 97, 119, 115]
abbrev s_at : Tx := [97, 116]
abbrev s_d : Tx := [100]
abbrev s_c : Tx := [99]
abbrev s_b : Tx := [98]
abbrev s_a : Tx := [97]
abbrev s_abcdz : Tx := [97, 98, 99, 100, 122]
abbrev s_abcd : Tx := [97, 98, 99, 100]
abbrev s_after : Tx := [97, 102, 116, 101, 114]
abbrev s_doing : Tx := [100, 111, 105, 110, 103]
abbrev s_quality : Tx := [113, 117, 97, 108, 105, 116, 121]
abbrev s_stone : Tx := [115, 116, 111, 110, 101]
abbrev s_sleep : Tx := [115, 108, 101, 101, 112]
abbrev s_see : Tx := [115, 101, 101]
abbrev s_dog : Tx := [100, 111, 103]
abbrev s_big : Tx := [98, 105, 103]
abbrev s_ana : Tx := [97, 110, 97]
abbrev s_YOU : Tx := [89, 79, 85]
abbrev s_WHICH : Tx := [87, 72, 73, 67, 72]
abbrev s_I : Tx := [73]
abbrev s_q : Tx := [113]
abbrev s_n : Tx := [110]
abbrev s_m : Tx := [109]
abbrev s_none : Tx := [110, 111, 110, 101]
abbrev s_x : Tx := [120]
abbrev s_zz : Tx := [122, 122]
abbrev k_is_word : Nat := 0
abbrev k_swapped : Nat := 1
abbrev k_near : Nat := 2
abbrev k_changed_near : Nat := 3
abbrev k_stepped : Nat := 4
abbrev k_forms_on_way : Nat := 5
abbrev k_formed : Nat := 6
abbrev k_class_row : Nat := 7
abbrev k_values_in : Nat := 8
abbrev k_entry_of : Nat := 9
abbrev k_class_of : Nat := 10
abbrev k_slots_of : Nat := 11
abbrev k_values_of : Nat := 12
abbrev k_marks_of : Nat := 13
abbrev k_are_marks : Nat := 14
abbrev k_chain_of : Nat := 15
abbrev k_word_of : Nat := 16
abbrev k_table_of : Nat := 17
abbrev k_all_rows : Nat := 18
abbrev k_analyses : Nat := 19
abbrev k_doubles : Nat := 20
abbrev k_all_forms : Nat := 21
abbrev k_law_draws : Nat := 22
abbrev k_law_next : Nat := 23
abbrev k_law_pick : Nat := 24
abbrev k_law_says : Nat := 25
abbrev k_law_same : Nat := 26
abbrev k_law_letters : Nat := 27
abbrev k_law_step : Nat := 28
abbrev k_law_chain : Nat := 29
abbrev k_law_stepped : Nat := 30
abbrev k_law_formed : Nat := 31
abbrev k_law_texts : Nat := 32
abbrev k_law_words_of : Nat := 33
abbrev k_law_kind_slots : Nat := 34
abbrev k_law_slot_values : Nat := 35
abbrev k_law_some_slots : Nat := 36
abbrev k_law_stock : Nat := 37
abbrev k_law_class : Nat := 38
abbrev k_law_marks : Nat := 39
abbrev k_law_chain_of : Nat := 40
abbrev k_law_word : Nat := 41
abbrev k_law_table : Nat := 42
abbrev k_law_all : Nat := 43
abbrev k_law_bent_marks : Nat := 44
abbrev k_law : Nat := 45
def c_is_word_1 : E := .lc (.cmp .isin (.var 1) (.glb (.str s_abcdefghijklmnopqrstuvwx))) (.nm 1) (.ev (.var 0)) .nil [1]
@[simp] theorem oc_is_word_1 {r : Res OV} {ρ : Env} : opd c_is_word_1 r ρ = r.bd fun o ρ => .ok (.tmp o) ρ := rfl
def b_is_word : Ss :=
  (.cons (.ifs (.or (.not (.isi (.var 0) [.str])) (.not (.chn .le (.cst (.int 1)) (.bi .len (.var 0)) .le (.glb (.int 30))))) (.cons (.ret (.cst (.bl false))) .nil) .nil)
  (.cons (.ret (.bi .all c_is_word_1))
  .nil))
abbrev d_is_word : Df := ⟨1, 2, b_is_word⟩
def b_swapped : Ss :=
  (.cons (.ifs (.cmp .eq (.var 0) (.var 1)) (.cons (.ret (.var 2)) .nil) .nil)
  (.cons (.ret (.ite (.cmp .eq (.var 0) (.var 2)) (.var 1) (.var 0)))
  .nil))
abbrev d_swapped : Df := ⟨3, 3, b_swapped⟩
def b_near : Ss :=
  (.cons (.ifs (.cmp .eq (.idx (.var 2) (.cst (.int 0))) (.cst (.str s_before))) (.cons (.ret (.slc (.var 0) (.bin .add (.var 1) (.cst (.int 1))) (.bin .add (.var 1) (.cst (.int 2))))) .nil) .nil)
  (.cons (.ret (.ite (.cmp .gt (.var 1) (.cst (.int 0))) (.slc (.var 0) (.bin .sub (.var 1) (.cst (.int 1))) (.var 1)) (.cst (.str s_))))
  .nil))
abbrev d_near : Df := ⟨3, 3, b_near⟩
def l_changed_near_1 : S := .fors (.nm 7) (.rng1 (.bi .len (.var 1))) (.cons (.set (.nm 8) (.frz (.df k_near (.val (.var 1) (.val (.var 7) (.val (.var 0) .nil)))))) (.cons (.set (.nm 9) (.and (.cmp .eq (.idx (.var 1) (.var 7)) (.var 3)) (.and (.cmp .ne (.var 8) (.cst (.str s_))) (.cmp .isin (.var 8) (.var 5))))) (.cons (.ex (.mu1 .append 6 (.ite (.var 9) (.var 4) (.idx (.var 1) (.var 7))))) .nil)))
def b_changed_near : Ss :=
  (.cons (.set (.tp (.cons (.nm 2) (.cons (.nm 3) (.cons (.nm 4) (.cons (.nm 5) .nil))))) (.var 0))
  (.cons (.set (.nm 6) (.lst .nil))
  (.cons l_changed_near_1
  (.cons (.ret (.mt1 .join (.cst (.str s_)) (.var 6)))
  .nil))))
abbrev d_changed_near : Df := ⟨2, 10, b_changed_near⟩
def c_stepped_1 : E := .lc (.df k_swapped (.val (.var 4) (.val (.idx (.var 0) (.cst (.int 1))) (.val (.idx (.var 0) (.cst (.int 2))) .nil)))) (.nm 4) (.ev (.var 1)) .nil [4]
@[simp] theorem oc_stepped_1 {r : Res OV} {ρ : Env} : opd c_stepped_1 r ρ = r.bd fun o ρ => .ok (.tmp o) ρ := rfl
def b_stepped : Ss :=
  (.cons (.set (.nm 2) (.idx (.var 0) (.cst (.int 0))))
  (.cons (.ifs (.cmp .eq (.var 2) (.cst (.str s_end))) (.cons (.ret (.bin .add (.var 1) (.idx (.var 0) (.cst (.int 1))))) .nil) .nil)
  (.cons (.ifs (.cmp .eq (.var 2) (.cst (.str s_front))) (.cons (.ret (.bin .add (.idx (.var 0) (.cst (.int 1))) (.var 1))) .nil) .nil)
  (.cons (.ifs (.cmp .eq (.var 2) (.cst (.str s_cut))) (.cons (.set (.nm 3) (.bi .len (.idx (.var 0) (.cst (.int 1))))) (.cons (.ret (.ite (.and (.cmp .eq (.slc (.var 1) (.bin .sub (.bi .len (.var 1)) (.var 3)) (.cst .non)) (.idx (.var 0) (.cst (.int 1)))) (.cmp .le (.var 3) (.bi .len (.var 1)))) (.slc (.var 1) (.cst .non) (.bin .sub (.bi .len (.var 1)) (.var 3))) (.var 1))) .nil)) .nil)
  (.cons (.ifs (.cmp .eq (.var 2) (.cst (.str s_swap))) (.cons (.ret (.mt1 .join (.cst (.str s_)) c_stepped_1)) .nil) .nil)
  (.cons (.ret (.ite (.cmp .eq (.var 2) (.cst (.str s_double))) (.bin .add (.slc (.var 1) (.cst .non) (.idx (.var 0) (.cst (.int 1)))) (.var 1)) (.df k_changed_near (.val (.var 0) (.val (.var 1) .nil)))))
  .nil))))))
abbrev d_stepped : Df := ⟨2, 5, b_stepped⟩
def l_forms_on_way_1 : S := .fors (.nm 3) (.ev (.var 0)) (.cons (.ex (.mu1 .append 2 (.df k_stepped (.val (.var 3) (.val (.idx (.var 2) (.neg (.cst (.int 1)))) .nil))))) .nil)
def b_forms_on_way : Ss :=
  (.cons (.set (.nm 2) (.lst (.cons (.var 1) .nil)))
  (.cons l_forms_on_way_1
  (.cons (.ret (.bi .tuple (.var 2)))
  .nil)))
abbrev d_forms_on_way : Df := ⟨2, 4, b_forms_on_way⟩
def b_formed : Ss :=
  (.cons (.ret (.idx (.df k_forms_on_way (.val (.var 0) (.val (.var 1) .nil))) (.neg (.cst (.int 1)))))
  .nil)
abbrev d_formed : Df := ⟨2, 2, b_formed⟩
def c_class_row_1 : E := .lc (.var 3) (.nm 3) (.ev (.var 0)) (.cons (.cmp .eq (.idx (.var 3) (.cst (.int 0))) (.var 1)) .nil) [3]
@[simp] theorem oc_class_row_1 {r : Res OV} {ρ : Env} : opd c_class_row_1 r ρ = r.bd fun o ρ => .ok (.tmp o) ρ := rfl
def b_class_row : Ss :=
  (.cons (.set (.nm 2) (.frz c_class_row_1))
  (.cons (.ret (.ite (.cmp .ne (.var 2) (.lst .nil)) (.idx (.var 2) (.cst (.int 0))) (.cst .non)))
  .nil))
abbrev d_class_row : Df := ⟨2, 4, b_class_row⟩
def c_values_in_1 : E := .lc (.var 2) (.tp (.cons (.nm 2) (.cons (.nm 3) (.cons (.nm 4) .nil)))) (.ev (.var 0)) (.cons (.cmp .eq (.var 3) (.cst (.str s_thing))) .nil) [2, 3, 4]
@[simp] theorem oc_values_in_1 {r : Res OV} {ρ : Env} : opd c_values_in_1 r ρ = r.bd fun o ρ => .ok (.tmp o) ρ := rfl
def b_values_in : Ss :=
  (.cons (.ifs (.cmp .eq (.var 1) (.cst (.str s_kind))) (.cons (.ret (.bi .tuple c_values_in_1)) .nil) .nil)
  (.cons (.ret (.idx (.glb (.dct [((.str s_number), (.tup [(.str s_one), (.str s_many)])), ((.str s_fixed), (.tup [(.str s_this), (.str s_some), (.str s_each), (.str s_no)])), ((.str s_case), (.tup [(.str s_WHO), (.str s_WHAT), (.str s_WHOM)])), ((.str s_time), (.tup [(.str s_past), (.str s_now), (.str s_later)])), ((.str s_truth), (.tup [(.str s_yes), (.str s_no)])), ((.str s_mood), (.tup [(.str s_tell), (.str s_ask), (.str s_bid), (.str s_more)])), ((.str s_who), (.tup [(.str s_one), (.str s_many)]))])) (.var 1)))
  .nil))
abbrev d_values_in : Df := ⟨2, 5, b_values_in⟩
def c_entry_of_1 : E := .lc (.var 3) (.nm 3) (.ev (.idx (.var 0) (.cst (.int 2)))) (.cons (.cmp .eq (.idx (.var 3) (.cst (.int 0))) (.var 1)) .nil) [3]
@[simp] theorem oc_entry_of_1 {r : Res OV} {ρ : Env} : opd c_entry_of_1 r ρ = r.bd fun o ρ => .ok (.tmp o) ρ := rfl
def b_entry_of : Ss :=
  (.cons (.set (.nm 2) (.frz c_entry_of_1))
  (.cons (.ret (.ite (.cmp .ne (.var 2) (.lst .nil)) (.idx (.var 2) (.cst (.int 0))) (.cst .non)))
  .nil))
abbrev d_entry_of : Df := ⟨2, 4, b_entry_of⟩
def b_class_of : Ss :=
  (.cons (.set (.nm 2) (.frz (.df k_entry_of (.val (.var 0) (.val (.var 1) .nil)))))
  (.cons (.ret (.ite (.cmp .isnot (.var 2) (.cst .non)) (.idx (.var 2) (.cst (.int 2))) (.cst .non)))
  .nil))
abbrev d_class_of : Df := ⟨2, 3, b_class_of⟩
def b_slots_of : Ss :=
  (.cons (.set (.nm 2) (.frz (.df k_class_row (.val (.idx (.var 0) (.cst (.int 0))) (.val (.var 1) .nil)))))
  (.cons (.ret (.ite (.cmp .isnot (.var 2) (.cst .non)) (.idx (.var 2) (.cst (.int 2))) (.cst .non)))
  .nil))
abbrev d_slots_of : Df := ⟨2, 3, b_slots_of⟩
def b_values_of : Ss :=
  (.cons (.ret (.df k_values_in (.val (.idx (.var 0) (.cst (.int 0))) (.val (.var 1) .nil))))
  .nil)
abbrev d_values_of : Df := ⟨2, 2, b_values_of⟩
def c_marks_of_1 : E := .lc2 (.bin .add (.var 4) (.tup (.cons (.tup (.cons (.var 3) (.cons (.var 5) .nil))) .nil))) (.nm 4) (.ev (.var 2)) (.nm 5) (.ev (.df k_values_of (.val (.var 0) (.val (.var 3) .nil)))) .nil [4, 5] [5]
@[simp] theorem oc_marks_of_1 {r : Res OV} {ρ : Env} : opd c_marks_of_1 r ρ = r.bd fun o ρ => .ok (.tmp o) ρ := rfl
def l_marks_of_2 : S := .fors (.nm 3) (.ev (.df k_slots_of (.val (.var 0) (.val (.var 1) .nil)))) (.cons (.set (.nm 2) (.frz c_marks_of_1)) .nil)
def b_marks_of : Ss :=
  (.cons (.set (.nm 2) (.frz (.lst (.cons (.tup .nil) .nil))))
  (.cons l_marks_of_2
  (.cons (.ret (.bi .tuple (.var 2)))
  .nil)))
abbrev d_marks_of : Df := ⟨2, 6, b_marks_of⟩
def c_are_marks_1 : E := .lc (.cmp .isin (.var 6) (.df k_values_of (.val (.var 0) (.val (.var 4) .nil)))) (.tp (.cons (.nm 4) (.cons (.nm 6) .nil))) (.ev (.var 2)) .nil [4, 6]
@[simp] theorem oc_are_marks_1 {r : Res OV} {ρ : Env} : opd c_are_marks_1 r ρ = r.bd fun o ρ => .ok (.tmp o) ρ := rfl
def c_are_marks_2 : E := .lc (.var 4) (.tp (.cons (.nm 4) (.cons (.nm 5) .nil))) (.ev (.var 2)) .nil [4, 5]
@[simp] theorem oc_are_marks_2 {r : Res OV} {ρ : Env} : opd c_are_marks_2 r ρ = r.bd fun o ρ => .ok (.tmp o) ρ := rfl
def b_are_marks : Ss :=
  (.cons (.set (.nm 3) (.frz (.df k_slots_of (.val (.var 0) (.val (.var 1) .nil)))))
  (.cons (.ifs (.cmp .ne (.bi .tuple c_are_marks_2) (.var 3)) (.cons (.ret (.cst (.bl false))) .nil) .nil)
  (.cons (.ret (.bi .all c_are_marks_1))
  .nil)))
abbrev d_are_marks : Df := ⟨3, 7, b_are_marks⟩
def c_chain_of_1 : E := .lc (.cmp .isin (.var 7) (.var 2)) (.nm 7) (.ev (.var 5)) .nil [7]
@[simp] theorem oc_chain_of_1 {r : Res OV} {ρ : Env} : opd c_chain_of_1 r ρ = r.bd fun o ρ => .ok (.tmp o) ρ := rfl
def l_chain_of_2 : S := .fors (.tp (.cons (.nm 4) (.cons (.nm 5) (.cons (.nm 6) .nil)))) (.ev (.idx (.var 0) (.cst (.int 1)))) (.cons (.ifs (.and (.cmp .eq (.var 4) (.var 1)) (.bi .all c_chain_of_1)) (.cons (.set (.nm 3) (.frz (.bin .add (.var 3) (.var 6)))) .nil) .nil) .nil)
def b_chain_of : Ss :=
  (.cons (.set (.nm 3) (.tup .nil))
  (.cons l_chain_of_2
  (.cons (.ret (.mov 3))
  .nil)))
abbrev d_chain_of : Df := ⟨3, 8, b_chain_of⟩
def b_word_of : Ss :=
  (.cons (.set (.nm 3) (.frz (.df k_entry_of (.val (.var 0) (.val (.var 1) .nil)))))
  (.cons (.ifs (.or (.cmp .is (.var 3) (.cst .non)) (.not (.df k_are_marks (.val (.var 0) (.val (.idx (.var 3) (.cst (.int 2))) (.val (.var 2) .nil)))))) (.cons (.ret (.cst .non)) .nil) .nil)
  (.cons (.set (.nm 4) (.frz (.df k_formed (.val (.df k_chain_of (.val (.var 0) (.val (.idx (.var 3) (.cst (.int 2))) (.val (.var 2) .nil)))) (.val (.idx (.var 3) (.cst (.int 1))) .nil)))))
  (.cons (.ret (.ite (.df k_is_word (.val (.var 4) .nil)) (.var 4) (.cst .non)))
  .nil))))
abbrev d_word_of : Df := ⟨3, 5, b_word_of⟩
def c_table_of_1 : E := .lc (.tup (.cons (.var 2) (.cons (.df k_word_of (.val (.var 0) (.val (.var 1) (.val (.var 2) .nil)))) .nil))) (.nm 2) (.ev (.df k_marks_of (.val (.var 0) (.val (.df k_class_of (.val (.var 0) (.val (.var 1) .nil))) .nil)))) .nil [2]
@[simp] theorem oc_table_of_1 {r : Res OV} {ρ : Env} : opd c_table_of_1 r ρ = r.bd fun o ρ => .ok (.tmp o) ρ := rfl
def b_table_of : Ss :=
  (.cons (.ret (.bi .tuple c_table_of_1))
  .nil)
abbrev d_table_of : Df := ⟨2, 3, b_table_of⟩
def c_all_rows_1 : E := .lc (.tup (.cons (.var 5) (.cons (.var 2) (.cons (.var 4) .nil)))) (.tp (.cons (.nm 4) (.cons (.nm 5) .nil))) (.ev (.df k_table_of (.val (.var 0) (.val (.var 2) .nil)))) (.cons (.cmp .isnot (.var 5) (.cst .non)) .nil) [4, 5]
@[simp] theorem oc_all_rows_1 {r : Res OV} {ρ : Env} : opd c_all_rows_1 r ρ = r.bd fun o ρ => .ok (.tmp o) ρ := rfl
def l_all_rows_2 : S := .fors (.tp (.cons (.nm 2) (.cons (.nm 3) (.cons (.nm 3) .nil)))) (.ev (.idx (.var 0) (.cst (.int 2)))) (.cons (.ex (.mu1 .extend 1 c_all_rows_1)) .nil)
def b_all_rows : Ss :=
  (.cons (.set (.nm 1) (.lst .nil))
  (.cons l_all_rows_2
  (.cons (.ret (.mov 1))
  .nil)))
abbrev d_all_rows : Df := ⟨1, 6, b_all_rows⟩
def c_analyses_1 : E := .lc (.tup (.cons (.var 3) (.cons (.var 4) .nil))) (.tp (.cons (.nm 2) (.cons (.nm 3) (.cons (.nm 4) .nil)))) (.ev (.df k_all_rows (.val (.var 0) .nil))) (.cons (.cmp .eq (.var 2) (.var 1)) .nil) [2, 3, 4]
@[simp] theorem oc_analyses_1 {r : Res OV} {ρ : Env} : opd c_analyses_1 r ρ = r.bd fun o ρ => .ok (.tmp o) ρ := rfl
def b_analyses : Ss :=
  (.cons (.ret (.bi .tuple c_analyses_1))
  .nil)
abbrev d_analyses : Df := ⟨2, 5, b_analyses⟩
def c_doubles_1 : E := .lc (.tup (.cons (.var 2) (.cons (.idx (.var 1) (.var 2)) .nil))) (.nm 2) (.ev (.bi .sortdk (.var 1))) (.cons (.cmp .gt (.bi .len (.idx (.var 1) (.var 2))) (.cst (.int 1))) .nil) [2]
@[simp] theorem oc_doubles_1 {r : Res OV} {ρ : Env} : opd c_doubles_1 r ρ = r.bd fun o ρ => .ok (.tmp o) ρ := rfl
def l_doubles_2 : S := .fors (.tp (.cons (.nm 2) (.cons (.nm 3) (.cons (.nm 4) .nil)))) (.ev (.df k_all_rows (.val (.var 0) .nil))) (.cons (.sidx 1 (.var 2) (.bin .add (.mt2 .get (.var 1) (.var 2) (.tup .nil)) (.tup (.cons (.tup (.cons (.var 3) (.cons (.var 4) .nil))) .nil)))) .nil)
def b_doubles : Ss :=
  (.cons (.set (.nm 1) (.dct .nil))
  (.cons l_doubles_2
  (.cons (.ret (.bi .tuple c_doubles_1))
  .nil)))
abbrev d_doubles : Df := ⟨1, 5, b_doubles⟩
def c_all_forms_1 : E := .lc (.var 3) (.tp (.cons (.nm 2) (.cons (.nm 3) .nil))) (.ev (.df k_table_of (.val (.var 0) (.val (.var 1) .nil)))) (.cons (.cmp .isnot (.var 3) (.cst .non)) .nil) [2, 3]
@[simp] theorem oc_all_forms_1 {r : Res OV} {ρ : Env} : opd c_all_forms_1 r ρ = r.bd fun o ρ => .ok (.tmp o) ρ := rfl
def b_all_forms : Ss :=
  (.cons (.ret (.bi .tuple (.bi .sortset c_all_forms_1)))
  .nil)
abbrev d_all_forms : Df := ⟨2, 4, b_all_forms⟩
def l_law_draws_1 : S := .fors (.nm 4) (.rng1 (.var 1)) (.cons (.set (.nm 3) (.frz (.bin .mod (.bi .int (.bin .add (.bin .add (.bin .mul (.var 3) (.cst (.int 16807))) (.var 4)) (.cst (.int 1)))) (.cst (.int 65537))))) (.cons (.ex (.mu1 .append 2 (.bin .mod (.bi .int (.var 3)) (.cst (.int 997))))) .nil))
def l_law_draws_2 : S := .fors (.nm 7) (.rng1 (.cst (.int 60))) (.cons (.ifs (.cmp .gt (.var 6) (.cst (.int 0))) (.cons (.ex (.mu1 .append 2 (.bin .mod (.bi .int (.var 6)) (.cst (.int 997))))) (.cons (.set (.nm 6) (.frz (.bin .fdv (.var 6) (.cst (.int 997))))) .nil)) .nil) .nil)
def l_law_draws_3 : S := .fors (.nm 4) (.rng1 (.bi .len (.var 0))) (.cons (.set (.nm 5) (.bi .abs (.bi .int (.idx (.var 0) (.var 4))))) (.cons (.set (.nm 3) (.frz (.bin .mod (.bi .int (.bin .add (.bin .add (.bin .mul (.var 3) (.cst (.int 48271))) (.bin .mod (.var 5) (.cst (.int 1000003)))) (.var 4))) (.cst (.int 65537))))) (.cons (.set (.nm 6) (.cst (.int 0))) (.cons (.ifs (.cmp .ge (.var 5) (.bin .pow (.cst (.int 10)) (.cst (.int 18)))) (.cons (.set (.nm 6) (.var 5)) .nil) (.cons (.ex (.mu1 .append 2 (.bin .mod (.bi .int (.var 5)) (.cst (.int 997))))) (.cons (.ex (.mu1 .append 2 (.bin .mod (.bin .mod (.bi .int (.bin .add (.bin .mul (.var 3) (.cst (.int 69621))) (.cst (.int 5)))) (.cst (.int 65521))) (.cst (.int 997))))) .nil))) (.cons l_law_draws_2 .nil)))))
def b_law_draws : Ss :=
  (.cons (.set (.nm 2) (.lst .nil))
  (.cons (.set (.nm 3) (.cst (.int 7)))
  (.cons l_law_draws_3
  (.cons l_law_draws_1
  (.cons (.ret (.slc (.var 2) (.cst .non) (.var 1)))
  .nil)))))
abbrev d_law_draws : Df := ⟨2, 8, b_law_draws⟩
def b_law_next : Ss :=
  (.cons (.saug 0 (.cst (.str s_at)) .add (.cst (.int 1)))
  (.cons (.ifs (.cmp .gt (.idx (.var 0) (.cst (.str s_at))) (.bi .len (.idx (.var 0) (.cst (.str s_draws))))) (.cons (.ret (.cst (.int 0))) .nil) .nil)
  (.cons (.ret (.bin .mod (.bi .int (.idx (.idx (.var 0) (.cst (.str s_draws))) (.bin .sub (.idx (.var 0) (.cst (.str s_at))) (.cst (.int 1))))) (.var 1)))
  .nil)))
abbrev d_law_next : Df := ⟨2, 2, b_law_next⟩
def b_law_pick : Ss :=
  (.cons (.ret (.idx (.var 1) (.df k_law_next (.bor 0 (.val (.bi .len (.var 1)) .nil)))))
  .nil)
abbrev d_law_pick : Df := ⟨2, 2, b_law_pick⟩
def b_law_says : Ss :=
  (.cons (.ret (.and (.isi (.var 0) [.bool]) (.cmp .eq (.var 0) (.var 1))))
  .nil)
abbrev d_law_says : Df := ⟨2, 2, b_law_says⟩
def c_law_same_1 : E := .lc (.tup (.cons (.idx (.var 3) (.var 5)) (.cons (.idx (.var 4) (.var 5)) .nil))) (.nm 5) (.ev (.var 4)) .nil [5]
@[simp] theorem oc_law_same_1 {r : Res OV} {ρ : Env} : opd c_law_same_1 r ρ = r.bd fun o ρ => .ok (.tmp o) ρ := rfl
def c_law_same_2 : E := .lc (.var 5) (.nm 5) (.ev (.var 4)) (.cons (.cmp .notin (.var 5) (.var 3)) .nil) [5]
@[simp] theorem oc_law_same_2 {r : Res OV} {ρ : Env} : opd c_law_same_2 r ρ = r.bd fun o ρ => .ok (.tmp o) ρ := rfl
def c_law_same_3 : E := .lc (.tup (.cons (.idx (.var 3) (.var 6)) (.cons (.idx (.var 4) (.var 6)) .nil))) (.nm 6) (.rng1 (.bi .len (.var 4))) .nil [6]
@[simp] theorem oc_law_same_3 {r : Res OV} {ρ : Env} : opd c_law_same_3 r ρ = r.bd fun o ρ => .ok (.tmp o) ρ := rfl
def l_law_same_4 : S := .whl (.cmp .ne (.var 2) (.lst .nil)) (.cons (.set (.tp (.cons (.nm 3) (.cons (.nm 4) .nil))) (.frz (.mu0 .pop 2))) (.cons (.ifs (.isi (.var 4) [.dict]) (.cons (.ifs (.or (.not (.isi (.var 3) [.dict])) (.or (.cmp .ne (.bi .len (.var 3)) (.bi .len (.var 4))) (.cmp .ne c_law_same_2 (.lst .nil)))) (.cons (.ret (.cst (.bl false))) .nil) .nil) (.cons (.ex (.mu1 .extend 2 c_law_same_1)) .nil)) (.cons (.ifs (.isi (.var 4) [.tuple]) (.cons (.ifs (.or (.not (.isi (.var 3) [.tuple])) (.cmp .ne (.bi .len (.var 3)) (.bi .len (.var 4)))) (.cons (.ret (.cst (.bl false))) .nil) .nil) (.cons (.ex (.mu1 .extend 2 c_law_same_3)) .nil)) (.cons (.ifs (.or (.cmp .ne (.isi (.var 3) [.bool]) (.isi (.var 4) [.bool])) (.or (.cmp .ne (.isi (.var 3) [.int]) (.isi (.var 4) [.int])) (.or (.cmp .ne (.isi (.var 3) [.str]) (.isi (.var 4) [.str])) (.cmp .ne (.var 3) (.var 4))))) (.cons (.ret (.cst (.bl false))) .nil) .nil) .nil)) .nil)) .nil))
def b_law_same : Ss :=
  (.cons (.set (.nm 2) (.lst (.cons (.tup (.cons (.var 0) (.cons (.var 1) .nil))) .nil)))
  (.cons l_law_same_4
  (.cons (.ret (.cst (.bl true)))
  .nil)))
abbrev d_law_same : Df := ⟨2, 7, b_law_same⟩
def c_law_letters_1 : E := .lc (.df k_law_pick (.bor 0 (.val (.lst (.cons (.cst (.str s_a)) (.cons (.cst (.str s_b)) (.cons (.cst (.str s_a)) (.cons (.cst (.str s_b)) (.cons (.cst (.str s_c)) (.cons (.cst (.str s_d)) .nil))))))) .nil))) (.nm 2) (.rng1 (.var 1)) .nil [2]
@[simp] theorem oc_law_letters_1 {r : Res OV} {ρ : Env} : opd c_law_letters_1 r ρ = r.bd fun o ρ => .ok (.tmp o) ρ := rfl
def b_law_letters : Ss :=
  (.cons (.ret (.mt1 .join (.cst (.str s_)) c_law_letters_1))
  .nil)
abbrev d_law_letters : Df := ⟨2, 3, b_law_letters⟩
def c_law_step_1 : E := .lc (.var 4) (.nm 4) (.ev (.cst (.str s_abcdz))) (.cons (.cmp .eq (.df k_law_next (.bor 0 (.val (.cst (.int 2)) .nil))) (.cst (.int 0))) .nil) [4]
@[simp] theorem oc_law_step_1 {r : Res OV} {ρ : Env} : opd c_law_step_1 r ρ = r.bd fun o ρ => .ok (.tmp o) ρ := rfl
def c_law_step_2 : E := .lc (.var 4) (.nm 4) (.ev (.cst (.str s_abcd))) (.cons (.cmp .ne (.var 4) (.var 2)) .nil) [4]
@[simp] theorem oc_law_step_2 {r : Res OV} {ρ : Env} : opd c_law_step_2 r ρ = r.bd fun o ρ => .ok (.tmp o) ρ := rfl
def b_law_step : Ss :=
  (.cons (.set (.nm 1) (.frz (.df k_law_pick (.bor 0 (.val (.lst (.cons (.cst (.str s_end)) (.cons (.cst (.str s_front)) (.cons (.cst (.str s_cut)) (.cons (.cst (.str s_swap)) (.cons (.cst (.str s_before)) (.cons (.cst (.str s_after)) (.cons (.cst (.str s_double)) (.cons (.cst (.str s_cut)) (.cons (.cst (.str s_end)) .nil)))))))))) .nil)))))
  (.cons (.ifs (.cmp .isin (.var 1) (.tup (.cons (.cst (.str s_end)) (.cons (.cst (.str s_front)) (.cons (.cst (.str s_cut)) .nil))))) (.cons (.ret (.tup (.cons (.var 1) (.cons (.df k_law_letters (.bor 0 (.val (.bin .add (.cst (.int 1)) (.df k_law_next (.bor 0 (.val (.cst (.int 3)) .nil)))) .nil))) .nil)))) .nil) .nil)
  (.cons (.ifs (.cmp .eq (.var 1) (.cst (.str s_double))) (.cons (.ret (.tup (.cons (.var 1) (.cons (.bin .add (.cst (.int 1)) (.df k_law_next (.bor 0 (.val (.cst (.int 2)) .nil)))) .nil)))) .nil) .nil)
  (.cons (.set (.nm 2) (.frz (.df k_law_pick (.bor 0 (.val (.lst (.cons (.cst (.str s_a)) (.cons (.cst (.str s_b)) (.cons (.cst (.str s_c)) .nil)))) .nil)))))
  (.cons (.set (.nm 3) (.frz (.df k_law_pick (.bor 0 (.val c_law_step_2 .nil)))))
  (.cons (.ifs (.cmp .eq (.var 1) (.cst (.str s_swap))) (.cons (.ret (.tup (.cons (.var 1) (.cons (.var 2) (.cons (.var 3) .nil))))) .nil) .nil)
  (.cons (.set (.nm 5) (.frz (.mt1 .join (.cst (.str s_)) c_law_step_1)))
  (.cons (.ret (.tup (.cons (.var 1) (.cons (.var 2) (.cons (.var 3) (.cons (.ite (.cmp .ne (.var 5) (.cst (.str s_))) (.var 5) (.cst (.str s_a))) .nil))))))
  .nil))))))))
abbrev d_law_step : Df := ⟨1, 6, b_law_step⟩
def c_law_chain_1 : E := .lcx (.idx (.var 5) (.cst (.int 0))) (.nm 5) 2 .nil [5]
@[simp] theorem oc_law_chain_1 {r : Res OV} {ρ : Env} : opd c_law_chain_1 r ρ = r.bd fun o ρ => .ok (.tmp o) ρ := rfl
def l_law_chain_2 : S := .fors (.nm 3) (.rng1 (.df k_law_next (.bor 0 (.val (.bin .add (.var 1) (.cst (.int 1))) .nil)))) (.cons (.set (.nm 4) (.frz (.df k_law_step (.bor 0 .nil)))) (.cons (.ifs (.or (.cmp .ne (.idx (.var 4) (.cst (.int 0))) (.cst (.str s_double))) (.cmp .notin (.cst (.str s_double)) c_law_chain_1)) (.cons (.ex (.mu1 .append 2 (.var 4))) .nil) .nil) .nil))
def b_law_chain : Ss :=
  (.cons (.set (.nm 2) (.lst .nil))
  (.cons l_law_chain_2
  (.cons (.ret (.bi .tuple (.var 2)))
  .nil)))
abbrev d_law_chain : Df := ⟨2, 6, b_law_chain⟩
def l_law_stepped_1 : S := .fors (.nm 5) (.rng1 (.bi .len (.var 1))) (.cons (.ifs (.cmp .eq (.var 2) (.cst (.str s_swap))) (.cons (.set (.nm 4) (.frz (.bin .add (.var 4) (.mt2 .get (.dct (.cons (.var 3) (.idx (.var 0) (.cst (.int 2))) (.cons (.idx (.var 0) (.cst (.int 2))) (.var 3) .nil))) (.idx (.var 1) (.var 5)) (.idx (.var 1) (.var 5)))))) .nil) (.cons (.set (.nm 6) (.frz (.ite (.cmp .eq (.var 2) (.cst (.str s_before))) (.slc (.var 1) (.bin .add (.var 5) (.cst (.int 1))) (.bin .add (.var 5) (.cst (.int 2)))) (.slc (.slc (.var 1) (.cst .non) (.var 5)) (.neg (.cst (.int 1))) (.cst .non))))) (.cons (.set (.nm 4) (.frz (.bin .add (.var 4) (.ite (.and (.cmp .eq (.idx (.var 1) (.var 5)) (.var 3)) (.and (.cmp .ne (.var 6) (.cst (.str s_))) (.cmp .isin (.var 6) (.idx (.var 0) (.cst (.int 3)))))) (.idx (.var 0) (.cst (.int 2))) (.idx (.var 1) (.var 5)))))) .nil))) .nil)
def b_law_stepped : Ss :=
  (.cons (.par 2 3 (.idx (.var 0) (.cst (.int 0))) (.idx (.var 0) (.cst (.int 1))))
  (.cons (.ifs (.cmp .eq (.var 2) (.cst (.str s_end))) (.cons (.ret (.bin .add (.var 1) (.var 3))) .nil) .nil)
  (.cons (.ifs (.cmp .eq (.var 2) (.cst (.str s_front))) (.cons (.ret (.bin .add (.var 3) (.var 1))) .nil) .nil)
  (.cons (.ifs (.cmp .eq (.var 2) (.cst (.str s_cut))) (.cons (.ret (.ite (.mt1 .ends (.var 1) (.var 3)) (.slc (.var 1) (.cst .non) (.bin .sub (.bi .len (.var 1)) (.bi .len (.var 3)))) (.var 1))) .nil) .nil)
  (.cons (.ifs (.cmp .eq (.var 2) (.cst (.str s_double))) (.cons (.ret (.bin .add (.slc (.var 1) (.cst .non) (.var 3)) (.var 1))) .nil) .nil)
  (.cons (.set (.nm 4) (.cst (.str s_)))
  (.cons l_law_stepped_1
  (.cons (.ret (.mov 4))
  .nil))))))))
abbrev d_law_stepped : Df := ⟨2, 7, b_law_stepped⟩
def l_law_formed_1 : S := .fors (.nm 2) (.ev (.var 0)) (.cons (.set (.nm 1) (.frz (.df k_law_stepped (.val (.var 2) (.val (.var 1) .nil))))) .nil)
def b_law_formed : Ss :=
  (.cons l_law_formed_1
  (.cons (.ret (.var 1))
  .nil))
abbrev d_law_formed : Df := ⟨2, 3, b_law_formed⟩
def c_law_texts_1 : E := .lc (.bin .add (.var 6) (.var 7)) (.nm 7) (.ev (.var 0)) .nil [7]
@[simp] theorem oc_law_texts_1 {r : Res OV} {ρ : Env} : opd c_law_texts_1 r ρ = r.bd fun o ρ => .ok (.tmp o) ρ := rfl
def l_law_texts_2 : S := .fors (.nm 6) (.ev (.var 3)) (.cons (.set (.nm 5) (.frz (.bin .add (.var 5) c_law_texts_1))) .nil)
def l_law_texts_3 : S := .fors (.nm 4) (.rng1 (.var 1)) (.cons (.set (.nm 5) (.frz (.lst .nil))) (.cons l_law_texts_2 (.cons (.par 2 3 (.frz (.bin .add (.var 2) (.var 5))) (.var 5)) .nil)))
def b_law_texts : Ss :=
  (.cons (.par 2 3 (.frz (.lst (.cons (.cst (.str s_)) .nil))) (.frz (.lst (.cons (.cst (.str s_)) .nil))))
  (.cons l_law_texts_3
  (.cons (.ret (.mov 2))
  .nil)))
abbrev d_law_texts : Df := ⟨2, 8, b_law_texts⟩
def b_law_words_of : Ss :=
  (.cons (.set (.nm 1) (.dct (.cons (.cst (.str s_number)) (.tup (.cons (.cst (.str s_one)) (.cons (.cst (.str s_many)) .nil))) (.cons (.cst (.str s_fixed)) (.tup (.cons (.cst (.str s_this)) (.cons (.cst (.str s_some)) (.cons (.cst (.str s_each)) (.cons (.cst (.str s_no)) .nil))))) (.cons (.cst (.str s_case)) (.tup (.cons (.cst (.str s_WHO)) (.cons (.cst (.str s_WHAT)) (.cons (.cst (.str s_WHOM)) .nil)))) (.cons (.cst (.str s_who)) (.tup (.cons (.cst (.str s_one)) (.cons (.cst (.str s_many)) .nil))) .nil))))))
  (.cons (.ex (.upd 1 (.dct (.cons (.cst (.str s_time)) (.tup (.cons (.cst (.str s_past)) (.cons (.cst (.str s_now)) (.cons (.cst (.str s_later)) .nil)))) (.cons (.cst (.str s_truth)) (.tup (.cons (.cst (.str s_yes)) (.cons (.cst (.str s_no)) .nil))) (.cons (.cst (.str s_mood)) (.tup (.cons (.cst (.str s_tell)) (.cons (.cst (.str s_ask)) (.cons (.cst (.str s_bid)) (.cons (.cst (.str s_more)) .nil))))) .nil))))))
  (.cons (.ret (.idx (.var 1) (.var 0)))
  .nil)))
abbrev d_law_words_of : Df := ⟨1, 2, b_law_words_of⟩
def b_law_kind_slots : Ss :=
  (.cons (.ret (.idx (.dct (.cons (.cst (.str s_thing)) (.tup (.cons (.cst (.str s_number)) (.cons (.cst (.str s_fixed)) (.cons (.cst (.str s_case)) .nil)))) (.cons (.cst (.str s_quality)) (.tup (.cons (.cst (.str s_number)) (.cons (.cst (.str s_fixed)) (.cons (.cst (.str s_case)) (.cons (.cst (.str s_kind)) .nil))))) (.cons (.cst (.str s_doing)) (.tup (.cons (.cst (.str s_time)) (.cons (.cst (.str s_truth)) (.cons (.cst (.str s_mood)) (.cons (.cst (.str s_who)) (.cons (.cst (.str s_kind)) .nil)))))) .nil)))) (.var 0)))
  .nil)
abbrev d_law_kind_slots : Df := ⟨1, 1, b_law_kind_slots⟩
def c_law_slot_values_1 : E := .lc (.idx (.var 2) (.cst (.int 0))) (.nm 2) (.ev (.var 0)) (.cons (.cmp .eq (.idx (.var 2) (.cst (.int 1))) (.cst (.str s_thing))) .nil) [2]
@[simp] theorem oc_law_slot_values_1 {r : Res OV} {ρ : Env} : opd c_law_slot_values_1 r ρ = r.bd fun o ρ => .ok (.tmp o) ρ := rfl
def b_law_slot_values : Ss :=
  (.cons (.ret (.ite (.cmp .eq (.var 1) (.cst (.str s_kind))) (.bi .tuple c_law_slot_values_1) (.df k_law_words_of (.val (.var 1) .nil))))
  .nil)
abbrev d_law_slot_values : Df := ⟨2, 3, b_law_slot_values⟩
def c_law_some_slots_1 : E := .lc (.var 2) (.nm 2) (.ev (.df k_law_kind_slots (.val (.var 1) .nil))) (.cons (.cmp .lt (.df k_law_next (.bor 0 (.val (.cst (.int 5)) .nil))) (.cst (.int 2))) .nil) [2]
@[simp] theorem oc_law_some_slots_1 {r : Res OV} {ρ : Env} : opd c_law_some_slots_1 r ρ = r.bd fun o ρ => .ok (.tmp o) ρ := rfl
def b_law_some_slots : Ss :=
  (.cons (.ret (.bi .tuple c_law_some_slots_1))
  .nil)
abbrev d_law_some_slots : Df := ⟨2, 3, b_law_some_slots⟩
def c_law_stock_1 : E := .lc (.idx (.var 6) (.cst (.int 0))) (.nm 6) (.ev (.var 1)) (.cons (.or (.cmp .eq (.idx (.var 6) (.cst (.int 1))) (.cst (.str s_thing))) (.cmp .notin (.var 10) (.tup (.cons (.cst (.str s_I)) (.cons (.cst (.str s_WHICH)) (.cons (.cst (.str s_YOU)) .nil)))))) .nil) [6]
@[simp] theorem oc_law_stock_1 {r : Res OV} {ρ : Env} : opd c_law_stock_1 r ρ = r.bd fun o ρ => .ok (.tmp o) ρ := rfl
def l_law_stock_2 : S := .fors (.nm 10) (.ev (.tup (.cons (.cst (.str s_I)) (.cons (.cst (.str s_WHICH)) (.cons (.cst (.str s_YOU)) (.cons (.cst (.str s_ana)) (.cons (.cst (.str s_big)) (.cons (.cst (.str s_dog)) (.cons (.cst (.str s_see)) (.cons (.cst (.str s_sleep)) (.cons (.cst (.str s_stone)) .nil))))))))))) (.cons (.set (.nm 11) (.frz c_law_stock_1)) (.cons (.ifs (.and (.cmp .ne (.var 11) (.lst .nil)) (.cmp .gt (.df k_law_next (.bor 0 (.val (.cst (.int 3)) .nil))) (.cst (.int 0)))) (.cons (.ex (.mu1 .append 9 (.tup (.cons (.var 10) (.cons (.df k_law_letters (.bor 0 (.val (.bin .add (.cst (.int 1)) (.df k_law_next (.bor 0 (.val (.cst (.int 3)) .nil)))) .nil))) (.cons (.df k_law_pick (.bor 0 (.val (.var 11) .nil))) .nil)))))) .nil) .nil) .nil))
def c_law_stock_3 : E := .lc (.tup (.cons (.var 8) (.cons (.df k_law_pick (.bor 0 (.val (.df k_law_slot_values (.val (.var 1) (.val (.var 8) .nil))) .nil))) .nil))) (.nm 8) (.ev (.idx (.var 6) (.cst (.int 2)))) (.cons (.and (.cmp .eq (.df k_law_next (.bor 0 (.val (.cst (.int 2)) .nil))) (.cst (.int 0))) (.cmp .ne (.df k_law_slot_values (.val (.var 1) (.val (.var 8) .nil))) (.tup .nil))) .nil) [8]
@[simp] theorem oc_law_stock_3 {r : Res OV} {ρ : Env} : opd c_law_stock_3 r ρ = r.bd fun o ρ => .ok (.tmp o) ρ := rfl
def l_law_stock_4 : S := .fors (.nm 5) (.rng1 (.ite (.cmp .ne (.var 1) (.tup .nil)) (.df k_law_next (.bor 0 (.val (.cst (.int 8)) .nil))) (.cst (.int 0)))) (.cons (.set (.nm 6) (.frz (.df k_law_pick (.bor 0 (.val (.var 1) .nil))))) (.cons (.set (.nm 7) (.frz c_law_stock_3)) (.cons (.ex (.mu1 .append 4 (.tup (.cons (.idx (.var 6) (.cst (.int 0))) (.cons (.bi .tuple (.var 7)) (.cons (.df k_law_chain (.bor 0 (.val (.cst (.int 2)) .nil))) .nil)))))) .nil)))
def c_law_stock_5 : E := .lc (.tup (.cons (.var 2) (.cons (.var 3) (.cons (.df k_law_some_slots (.bor 0 (.val (.var 3) .nil))) .nil)))) (.tp (.cons (.nm 2) (.cons (.nm 3) .nil))) (.ev (.tup (.cons (.tup (.cons (.cst (.str s_d)) (.cons (.cst (.str s_doing)) .nil))) (.cons (.tup (.cons (.cst (.str s_m)) (.cons (.cst (.str s_thing)) .nil))) (.cons (.tup (.cons (.cst (.str s_n)) (.cons (.cst (.str s_thing)) .nil))) (.cons (.tup (.cons (.cst (.str s_q)) (.cons (.cst (.str s_quality)) .nil))) .nil)))))) (.cons (.cmp .gt (.df k_law_next (.bor 0 (.val (.cst (.int 8)) .nil))) (.cst (.int 0))) .nil) [2, 3]
@[simp] theorem oc_law_stock_5 {r : Res OV} {ρ : Env} : opd c_law_stock_5 r ρ = r.bd fun o ρ => .ok (.tmp o) ρ := rfl
def b_law_stock : Ss :=
  (.cons (.set (.nm 1) (.bi .tuple c_law_stock_5))
  (.cons (.set (.nm 4) (.lst .nil))
  (.cons l_law_stock_4
  (.cons (.set (.nm 9) (.lst .nil))
  (.cons l_law_stock_2
  (.cons (.ret (.tup (.cons (.var 1) (.cons (.bi .tuple (.var 4)) (.cons (.bi .tuple (.var 9)) .nil)))))
  .nil))))))
abbrev d_law_stock : Df := ⟨1, 12, b_law_stock⟩
def c_law_class_1 : E := .lc (.var 3) (.nm 3) (.ev (.idx (.var 0) (.cst (.int 0)))) (.cons (.cmp .eq (.idx (.var 3) (.cst (.int 0))) (.var 1)) .nil) [3]
@[simp] theorem oc_law_class_1 {r : Res OV} {ρ : Env} : opd c_law_class_1 r ρ = r.bd fun o ρ => .ok (.tmp o) ρ := rfl
def b_law_class : Ss :=
  (.cons (.set (.nm 2) (.frz c_law_class_1))
  (.cons (.ret (.ite (.cmp .ne (.var 2) (.lst .nil)) (.idx (.var 2) (.cst (.int 0))) (.cst .non)))
  .nil))
abbrev d_law_class : Df := ⟨2, 4, b_law_class⟩
def c_law_marks_1 : E := .lc (.bin .add (.var 5) (.tup (.cons (.tup (.cons (.var 3) (.cons (.var 6) .nil))) .nil))) (.nm 6) (.ev (.df k_law_slot_values (.val (.idx (.var 0) (.cst (.int 0))) (.val (.var 3) .nil)))) .nil [6]
@[simp] theorem oc_law_marks_1 {r : Res OV} {ρ : Env} : opd c_law_marks_1 r ρ = r.bd fun o ρ => .ok (.tmp o) ρ := rfl
def l_law_marks_2 : S := .fors (.nm 5) (.ev (.var 2)) (.cons (.set (.nm 4) (.frz (.bin .add (.var 4) c_law_marks_1))) .nil)
def l_law_marks_3 : S := .fors (.nm 3) (.ev (.idx (.df k_law_class (.val (.var 0) (.val (.var 1) .nil))) (.cst (.int 2)))) (.cons (.set (.nm 4) (.frz (.lst .nil))) (.cons l_law_marks_2 (.cons (.set (.nm 2) (.var 4)) .nil)))
def b_law_marks : Ss :=
  (.cons (.set (.nm 2) (.frz (.lst (.cons (.tup .nil) .nil))))
  (.cons l_law_marks_3
  (.cons (.ret (.mov 2))
  .nil)))
abbrev d_law_marks : Df := ⟨2, 7, b_law_marks⟩
def c_law_chain_of_1 : E := .lc (.var 7) (.nm 7) (.ev (.var 5)) (.cons (.cmp .notin (.var 7) (.var 2)) .nil) [7]
@[simp] theorem oc_law_chain_of_1 {r : Res OV} {ρ : Env} : opd c_law_chain_of_1 r ρ = r.bd fun o ρ => .ok (.tmp o) ρ := rfl
def l_law_chain_of_2 : S := .fors (.tp (.cons (.nm 4) (.cons (.nm 5) (.cons (.nm 6) .nil)))) (.ev (.idx (.var 0) (.cst (.int 1)))) (.cons (.ifs (.and (.cmp .eq (.var 4) (.var 1)) (.cmp .eq c_law_chain_of_1 (.lst .nil))) (.cons (.set (.nm 3) (.frz (.bin .add (.var 3) (.var 6)))) .nil) .nil) .nil)
def b_law_chain_of : Ss :=
  (.cons (.set (.nm 3) (.tup .nil))
  (.cons l_law_chain_of_2
  (.cons (.ret (.mov 3))
  .nil)))
abbrev d_law_chain_of : Df := ⟨3, 8, b_law_chain_of⟩
def c_law_word_1 : E := .lc (.var 4) (.nm 4) (.ev (.idx (.var 0) (.cst (.int 2)))) (.cons (.cmp .eq (.idx (.var 4) (.cst (.int 0))) (.var 1)) .nil) [4]
@[simp] theorem oc_law_word_1 {r : Res OV} {ρ : Env} : opd c_law_word_1 r ρ = r.bd fun o ρ => .ok (.tmp o) ρ := rfl
def b_law_word : Ss :=
  (.cons (.set (.nm 3) (.frz c_law_word_1))
  (.cons (.ifs (.or (.cmp .eq (.var 3) (.lst .nil)) (.cmp .notin (.var 2) (.df k_law_marks (.val (.var 0) (.val (.idx (.idx (.var 3) (.cst (.int 0))) (.cst (.int 2))) .nil))))) (.cons (.ret (.cst .non)) .nil) .nil)
  (.cons (.set (.nm 5) (.frz (.df k_law_formed (.val (.df k_law_chain_of (.val (.var 0) (.val (.idx (.idx (.var 3) (.cst (.int 0))) (.cst (.int 2))) (.val (.var 2) .nil)))) (.val (.idx (.idx (.var 3) (.cst (.int 0))) (.cst (.int 1))) .nil)))))
  (.cons (.ret (.ite (.chn .le (.cst (.int 1)) (.bi .len (.var 5)) .le (.cst (.int 30))) (.var 5) (.cst .non)))
  .nil))))
abbrev d_law_word : Df := ⟨3, 6, b_law_word⟩
def l_law_table_1 : S := .fors (.nm 6) (.ev (.df k_law_marks (.val (.var 0) (.val (.var 3) .nil)))) (.cons (.set (.nm 7) (.frz (.df k_law_formed (.val (.df k_law_chain_of (.val (.var 0) (.val (.var 3) (.val (.var 6) .nil)))) (.val (.var 2) .nil))))) (.cons (.ex (.mu1 .append 5 (.tup (.cons (.var 6) (.cons (.ite (.chn .le (.cst (.int 1)) (.bi .len (.var 7)) .le (.cst (.int 30))) (.var 7) (.cst .non)) .nil))))) .nil))
def c_law_table_2 : E := .lc (.slc (.var 4) (.cst (.int 1)) (.cst .non)) (.nm 4) (.ev (.idx (.var 0) (.cst (.int 2)))) (.cons (.cmp .eq (.idx (.var 4) (.cst (.int 0))) (.var 1)) .nil) [4]
@[simp] theorem oc_law_table_2 {r : Res OV} {ρ : Env} : opd c_law_table_2 r ρ = r.bd fun o ρ => .ok (.tmp o) ρ := rfl
def b_law_table : Ss :=
  (.cons (.set (.tp (.cons (.nm 2) (.cons (.nm 3) .nil))) (.idx c_law_table_2 (.cst (.int 0))))
  (.cons (.set (.nm 5) (.lst .nil))
  (.cons l_law_table_1
  (.cons (.ret (.bi .tuple (.var 5)))
  .nil))))
abbrev d_law_table : Df := ⟨2, 8, b_law_table⟩
def c_law_all_1 : E := .lc (.tup (.cons (.var 4) (.cons (.idx (.var 2) (.cst (.int 0))) (.cons (.var 3) .nil)))) (.tp (.cons (.nm 3) (.cons (.nm 4) .nil))) (.ev (.df k_law_table (.val (.var 0) (.val (.idx (.var 2) (.cst (.int 0))) .nil)))) (.cons (.cmp .isnot (.var 4) (.cst .non)) .nil) [3, 4]
@[simp] theorem oc_law_all_1 {r : Res OV} {ρ : Env} : opd c_law_all_1 r ρ = r.bd fun o ρ => .ok (.tmp o) ρ := rfl
def l_law_all_2 : S := .fors (.nm 2) (.ev (.idx (.var 0) (.cst (.int 2)))) (.cons (.set (.nm 1) (.frz (.bin .add (.var 1) c_law_all_1))) .nil)
def b_law_all : Ss :=
  (.cons (.set (.nm 1) (.frz (.lst .nil)))
  (.cons l_law_all_2
  (.cons (.ret (.mov 1))
  .nil)))
abbrev d_law_all : Df := ⟨1, 5, b_law_all⟩
def c_law_bent_marks_1 : E := .lc (.var 6) (.nm 6) (.ev (.var 4)) (.cons (.cmp .notin (.var 6) (.df k_law_marks (.val (.var 1) (.val (.var 2) .nil)))) .nil) [6]
@[simp] theorem oc_law_bent_marks_1 {r : Res OV} {ρ : Env} : opd c_law_bent_marks_1 r ρ = r.bd fun o ρ => .ok (.tmp o) ρ := rfl
def b_law_bent_marks : Ss :=
  (.cons (.set (.nm 4) (.frz (.lst (.cons (.bin .add (.var 3) (.tup (.cons (.tup (.cons (.cst (.str s_number)) (.cons (.cst (.str s_one)) .nil))) .nil))) (.cons (.ite (.cmp .gt (.bi .len (.var 3)) (.cst (.int 1))) (.bi .rev (.var 3)) (.bin .add (.var 3) (.var 3))) (.cons (.bin .add (.tup (.cons (.tup (.cons (.cst (.str s_none)) (.cons (.cst (.str s_x)) .nil))) .nil)) (.var 3)) (.cons (.ite (.cmp .ne (.var 3) (.tup .nil)) (.slc (.var 3) (.cst (.int 1)) (.cst .non)) (.tup (.cons (.tup (.cons (.cst (.str s_time)) (.cons (.cst (.str s_now)) .nil))) .nil))) .nil)))))))
  (.cons (.ifs (.cmp .ne (.var 3) (.tup .nil)) (.cons (.set (.nm 5) (.frz (.df k_law_next (.bor 0 (.val (.bi .len (.var 3)) .nil))))) (.cons (.set (.nm 4) (.frz (.bin .add (.var 4) (.lst (.cons (.bin .add (.bin .add (.slc (.var 3) (.cst .non) (.var 5)) (.tup (.cons (.tup (.cons (.idx (.idx (.var 3) (.var 5)) (.cst (.int 0))) (.cons (.cst (.str s_none)) .nil))) .nil))) (.slc (.var 3) (.bin .add (.var 5) (.cst (.int 1))) (.cst .non))) (.cons (.bin .add (.bin .add (.slc (.var 3) (.cst .non) (.var 5)) (.slc (.var 3) (.var 5) (.bin .add (.var 5) (.cst (.int 1))))) (.slc (.var 3) (.var 5) (.cst .non))) .nil)))))) .nil)) .nil)
  (.cons (.ret c_law_bent_marks_1)
  .nil)))
abbrev d_law_bent_marks : Df := ⟨4, 7, b_law_bent_marks⟩
def c_law_1 : E := .lc (.tup (.cons (.var 14) (.cons (.idx (.var 5) (.var 14)) .nil))) (.nm 14) (.ev (.bi .sortdk (.var 5))) (.cons (.cmp .gt (.bi .len (.idx (.var 5) (.var 14))) (.cst (.int 1))) .nil) [14]
@[simp] theorem oc_law_1 {r : Res OV} {ρ : Env} : opd c_law_1 r ρ = r.bd fun o ρ => .ok (.tmp o) ρ := rfl
def l_law_2 : S := .fors (.nm 14) (.ev (.bin .add (.slc (.bi .sortdk (.var 5)) (.cst .non) (.cst (.int 12))) (.lst (.cons (.cst (.str s_zz)) (.cons (.df k_law_letters (.bor 1 (.val (.cst (.int 2)) .nil))) .nil))))) (.cons (.ifs (.not (.df k_law_same (.val (.df k_analyses (.val (.var 3) (.val (.var 14) .nil))) (.val (.mt2 .get (.var 5) (.var 14) (.tup .nil)) .nil)))) (.cons (.ret (.cst (.bl false))) .nil) .nil) .nil)
def l_law_3 : S := .fors (.tp (.cons (.nm 14) (.cons (.nm 11) (.cons (.nm 10) .nil)))) (.ev (.var 4)) (.cons (.sidx 5 (.var 14) (.bin .add (.mt2 .get (.var 5) (.var 14) (.tup .nil)) (.tup (.cons (.tup (.cons (.var 11) (.cons (.var 10) .nil))) .nil)))) .nil)
def c_law_4 : E := .lc (.var 15) (.nm 15) (.ev (.df k_law_bent_marks (.bor 1 (.val (.var 3) (.val (.var 6) (.val (.var 10) .nil)))))) (.cons (.cmp .isnot (.df k_word_of (.val (.var 3) (.val (.var 11) (.val (.var 15) .nil)))) (.cst .non)) .nil) [15]
@[simp] theorem oc_law_4 {r : Res OV} {ρ : Env} : opd c_law_4 r ρ = r.bd fun o ρ => .ok (.tmp o) ρ := rfl
def l_law_5 : S := .fors (.tp (.cons (.nm 10) (.cons (.nm 14) .nil))) (.ev (.var 13)) (.cons (.ifs (.not (.df k_law_same (.val (.df k_word_of (.val (.var 3) (.val (.var 11) (.val (.var 10) .nil)))) (.val (.var 14) .nil)))) (.cons (.ret (.cst (.bl false))) .nil) .nil) .nil)
def c_law_6 : E := .lc (.var 14) (.tp (.cons (.nm 10) (.cons (.nm 14) .nil))) (.ev (.var 13)) (.cons (.cmp .isnot (.var 14) (.cst .non)) .nil) [10, 14]
@[simp] theorem oc_law_6 {r : Res OV} {ρ : Env} : opd c_law_6 r ρ = r.bd fun o ρ => .ok (.tmp o) ρ := rfl
def l_law_7 : S := .fors (.tp (.cons (.nm 11) (.cons (.nm 12) (.cons (.nm 6) .nil)))) (.ev (.idx (.var 3) (.cst (.int 2)))) (.cons (.set (.nm 13) (.frz (.df k_law_table (.val (.var 3) (.val (.var 11) .nil))))) (.cons (.ifs (.or (.not (.df k_law_same (.val (.df k_table_of (.val (.var 3) (.val (.var 11) .nil))) (.val (.var 13) .nil)))) (.not (.df k_law_same (.val (.df k_all_forms (.val (.var 3) (.val (.var 11) .nil))) (.val (.bi .tuple (.bi .sortset c_law_6)) .nil))))) (.cons (.ret (.cst (.bl false))) .nil) .nil) (.cons l_law_5 (.cons (.set (.nm 10) (.frz (.ite (.cmp .ne (.var 13) (.tup .nil)) (.idx (.df k_law_pick (.bor 1 (.val (.var 13) .nil))) (.cst (.int 0))) (.tup .nil)))) (.cons (.ifs (.or (.cmp .ne c_law_4 (.lst .nil)) (.cmp .isnot (.df k_word_of (.val (.var 3) (.val (.cst (.str s_none)) (.val (.var 10) .nil)))) (.cst .non))) (.cons (.ret (.cst (.bl false))) .nil) .nil) .nil)))))
def c_law_8 : E := .lc (.var 10) (.nm 10) (.ev (.var 9)) (.cons (.not (.df k_law_same (.val (.df k_chain_of (.val (.var 3) (.val (.var 6) (.val (.var 10) .nil)))) (.val (.df k_law_chain_of (.val (.var 3) (.val (.var 6) (.val (.var 10) .nil)))) .nil)))) .nil) [10]
@[simp] theorem oc_law_8 {r : Res OV} {ρ : Env} : opd c_law_8 r ρ = r.bd fun o ρ => .ok (.tmp o) ρ := rfl
def l_law_9 : S := .fors (.tp (.cons (.nm 6) (.cons (.nm 7) (.cons (.nm 8) .nil)))) (.ev (.idx (.var 3) (.cst (.int 0)))) (.cons (.set (.nm 9) (.frz (.df k_law_marks (.val (.var 3) (.val (.var 6) .nil))))) (.cons (.ifs (.or (.not (.df k_law_same (.val (.df k_marks_of (.val (.var 3) (.val (.var 6) .nil))) (.val (.bi .tuple (.var 9)) .nil)))) (.cmp .ne c_law_8 (.lst .nil))) (.cons (.ret (.cst (.bl false))) .nil) .nil) .nil))
def l_law_10 : S := .fors (.nm 2) (.rng1 (.cst (.int 5))) (.cons (.set (.nm 3) (.frz (.df k_law_stock (.bor 1 .nil)))) (.cons (.par 4 5 (.frz (.df k_law_all (.val (.var 3) .nil))) (.dct .nil)) (.cons l_law_9 (.cons l_law_7 (.cons l_law_3 (.cons l_law_2 (.cons (.ifs (.not (.df k_law_same (.val (.df k_doubles (.val (.var 3) .nil)) (.val (.bi .tuple c_law_1) .nil)))) (.cons (.ret (.cst (.bl false))) .nil) .nil) .nil)))))))
def b_law : Ss :=
  (.cons (.set (.nm 1) (.dct (.cons (.cst (.str s_draws)) (.df k_law_draws (.val (.var 0) (.val (.cst (.int 3000)) .nil))) (.cons (.cst (.str s_at)) (.cst (.int 0)) .nil))))
  (.cons l_law_10
  (.cons (.ret (.cst (.bl true)))
  .nil)))
abbrev d_law : Df := ⟨1, 16, b_law⟩
def prog : List Df := [d_is_word, d_swapped, d_near, d_changed_near, d_stepped, d_forms_on_way, d_formed, d_class_row, d_values_in, d_entry_of, d_class_of, d_slots_of, d_values_of, d_marks_of, d_are_marks, d_chain_of, d_word_of, d_table_of, d_all_rows, d_analyses, d_doubles, d_all_forms, d_law_draws, d_law_next, d_law_pick, d_law_says, d_law_same, d_law_letters, d_law_step, d_law_chain, d_law_stepped, d_law_formed, d_law_texts, d_law_words_of, d_law_kind_slots, d_law_slot_values, d_law_some_slots, d_law_stock, d_law_class, d_law_marks, d_law_chain_of, d_law_word, d_law_table, d_law_all, d_law_bent_marks, d_law]
def P (k : Nat) : Option Df := prog[k]?
end K16
end
section
set_option linter.all false
set_option maxRecDepth 100000
namespace K16
open Ev
def top (i : Nat) : PySem.Stmt := (PySem.Challenge.pw_meaningsled_k16_whole_tables_and_analyse).main.body.getD i (.Pass ⟨0, 0, 0, 0⟩)
def infos : List DefI := [
  ⟨"is_word", "is_word", L2.defArgs (top 3), L2.defBody (top 3), L2.defScope (top 3), ["thing", "sign"], d_is_word⟩,
  ⟨"swapped", "swapped", L2.defArgs (top 5), L2.defBody (top 5), L2.defScope (top 5), ["sign", "one", "other"], d_swapped⟩,
  ⟨"near", "near", L2.defArgs (top 6), L2.defBody (top 6), L2.defScope (top 6), ["text", "place", "step"], d_near⟩,
  ⟨"changed_near", "changed_near", L2.defArgs (top 7), L2.defBody (top 7), L2.defScope (top 7), ["step", "text", "_", "one", "other", "signs", "found", "place", "beside", "is_so"], d_changed_near⟩,
  ⟨"stepped", "stepped", L2.defArgs (top 8), L2.defBody (top 8), L2.defScope (top 8), ["step", "text", "word", "many", "sign"], d_stepped⟩,
  ⟨"forms_on_way", "forms_on_way", L2.defArgs (top 9), L2.defBody (top 9), L2.defScope (top 9), ["chain", "text", "found", "step"], d_forms_on_way⟩,
  ⟨"formed", "formed", L2.defArgs (top 10), L2.defBody (top 10), L2.defScope (top 10), ["chain", "text"], d_formed⟩,
  ⟨"class_row", "class_row", L2.defArgs (top 13), L2.defBody (top 13), L2.defScope (top 13), ["classes", "name", "found", "row"], d_class_row⟩,
  ⟨"values_in", "values_in", L2.defArgs (top 14), L2.defBody (top 14), L2.defScope (top 14), ["classes", "slot", "name", "kind", "_"], d_values_in⟩,
  ⟨"entry_of", "entry_of", L2.defArgs (top 15), L2.defBody (top 15), L2.defScope (top 15), ["stock", "key", "found", "row"], d_entry_of⟩,
  ⟨"class_of", "class_of", L2.defArgs (top 16), L2.defBody (top 16), L2.defScope (top 16), ["stock", "key", "row"], d_class_of⟩,
  ⟨"slots_of", "slots_of", L2.defArgs (top 17), L2.defBody (top 17), L2.defScope (top 17), ["stock", "name", "row"], d_slots_of⟩,
  ⟨"values_of", "values_of", L2.defArgs (top 18), L2.defBody (top 18), L2.defScope (top 18), ["stock", "slot"], d_values_of⟩,
  ⟨"marks_of", "marks_of", L2.defArgs (top 20), L2.defBody (top 20), L2.defScope (top 20), ["stock", "name", "found", "slot", "row", "value"], d_marks_of⟩,
  ⟨"are_marks", "are_marks", L2.defArgs (top 21), L2.defBody (top 21), L2.defScope (top 21), ["stock", "name", "marks", "slots", "slot", "_", "value"], d_are_marks⟩,
  ⟨"chain_of", "chain_of", L2.defArgs (top 22), L2.defBody (top 22), L2.defScope (top 22), ["stock", "name", "marks", "found", "own", "conditions", "chain", "condition"], d_chain_of⟩,
  ⟨"word_of", "word_of", L2.defArgs (top 23), L2.defBody (top 23), L2.defScope (top 23), ["stock", "key", "marks", "row", "word"], d_word_of⟩,
  ⟨"table_of", "table_of", L2.defArgs (top 24), L2.defBody (top 24), L2.defScope (top 24), ["stock", "key", "marks"], d_table_of⟩,
  ⟨"all_rows", "all_rows", L2.defArgs (top 25), L2.defBody (top 25), L2.defScope (top 25), ["stock", "found", "key", "_", "marks", "word"], d_all_rows⟩,
  ⟨"analyses", "analyses", L2.defArgs (top 26), L2.defBody (top 26), L2.defScope (top 26), ["stock", "word", "own", "key", "marks"], d_analyses⟩,
  ⟨"doubles", "doubles", L2.defArgs (top 27), L2.defBody (top 27), L2.defScope (top 27), ["stock", "known", "word", "key", "marks"], d_doubles⟩,
  ⟨"all_forms", "all_forms", L2.defArgs (top 28), L2.defBody (top 28), L2.defScope (top 28), ["stock", "key", "_", "word"], d_all_forms⟩,
  ⟨"_law_draws", "_law_draws", L2.defArgs (top 30), L2.defBody (top 30), L2.defScope (top 30), ["script", "many", "draws", "mixed", "k", "cell", "rest", "turn"], d_law_draws⟩,
  ⟨"_law_next", "_law_next", L2.defArgs (top 31), L2.defBody (top 31), L2.defScope (top 31), ["w", "many"], d_law_next⟩,
  ⟨"_law_pick", "_law_pick", L2.defArgs (top 32), L2.defBody (top 32), L2.defScope (top 32), ["w", "rows"], d_law_pick⟩,
  ⟨"_law_says", "_law_says", L2.defArgs (top 33), L2.defBody (top 33), L2.defScope (top 33), ["seen", "due"], d_law_says⟩,
  ⟨"_law_same", "_law_same", L2.defArgs (top 34), L2.defBody (top 34), L2.defScope (top 34), ["seen", "due", "waiting", "one", "other", "key", "k"], d_law_same⟩,
  ⟨"_law_letters", "_law_letters", L2.defArgs (top 35), L2.defBody (top 35), L2.defScope (top 35), ["w", "many", "k"], d_law_letters⟩,
  ⟨"_law_step", "_law_step", L2.defArgs (top 36), L2.defBody (top 36), L2.defScope (top 36), ["w", "word", "one", "other", "own", "beside"], d_law_step⟩,
  ⟨"_law_chain", "_law_chain", L2.defArgs (top 37), L2.defBody (top 37), L2.defScope (top 37), ["w", "many", "found", "k", "step", "own"], d_law_chain⟩,
  ⟨"_law_stepped", "_law_stepped", L2.defArgs (top 38), L2.defBody (top 38), L2.defScope (top 38), ["step", "text", "word", "part", "found", "k", "beside"], d_law_stepped⟩,
  ⟨"_law_formed", "_law_formed", L2.defArgs (top 39), L2.defBody (top 39), L2.defScope (top 39), ["chain", "text", "step"], d_law_formed⟩,
  ⟨"_law_texts", "_law_texts", L2.defArgs (top 40), L2.defBody (top 40), L2.defScope (top 40), ["letters", "most", "found", "last", "k", "longer", "text", "sign"], d_law_texts⟩,
  ⟨"_law_words_of", "_law_words_of", L2.defArgs (top 41), L2.defBody (top 41), L2.defScope (top 41), ["name", "rows"], d_law_words_of⟩,
  ⟨"_law_kind_slots", "_law_kind_slots", L2.defArgs (top 42), L2.defBody (top 42), L2.defScope (top 42), ["kind"], d_law_kind_slots⟩,
  ⟨"_law_slot_values", "_law_slot_values", L2.defArgs (top 43), L2.defBody (top 43), L2.defScope (top 43), ["classes", "slot", "row"], d_law_slot_values⟩,
  ⟨"_law_some_slots", "_law_some_slots", L2.defArgs (top 44), L2.defBody (top 44), L2.defScope (top 44), ["w", "kind", "slot"], d_law_some_slots⟩,
  ⟨"_law_stock", "_law_stock", L2.defArgs (top 45), L2.defBody (top 45), L2.defScope (top 45), ["w", "classes", "name", "kind", "rules", "k", "row", "conditions", "slot", "words", "key", "able"], d_law_stock⟩,
  ⟨"_law_class", "_law_class", L2.defArgs (top 46), L2.defBody (top 46), L2.defScope (top 46), ["stock", "name", "rows", "row"], d_law_class⟩,
  ⟨"_law_marks", "_law_marks", L2.defArgs (top 47), L2.defBody (top 47), L2.defScope (top 47), ["stock", "name", "found", "slot", "longer", "row", "value"], d_law_marks⟩,
  ⟨"_law_chain_of", "_law_chain_of", L2.defArgs (top 48), L2.defBody (top 48), L2.defScope (top 48), ["stock", "name", "marks", "found", "own", "conditions", "chain", "pair"], d_law_chain_of⟩,
  ⟨"_law_word", "_law_word", L2.defArgs (top 49), L2.defBody (top 49), L2.defScope (top 49), ["stock", "key", "marks", "rows", "row", "word"], d_law_word⟩,
  ⟨"_law_table", "_law_table", L2.defArgs (top 50), L2.defBody (top 50), L2.defScope (top 50), ["stock", "key", "root", "name", "row", "found", "marks", "word"], d_law_table⟩,
  ⟨"_law_all", "_law_all", L2.defArgs (top 51), L2.defBody (top 51), L2.defScope (top 51), ["stock", "found", "row", "marks", "word"], d_law_all⟩,
  ⟨"_law_bent_marks", "_law_bent_marks", L2.defArgs (top 52), L2.defBody (top 52), L2.defScope (top 52), ["w", "stock", "name", "marks", "rows", "k", "own"], d_law_bent_marks⟩,
  ⟨"law", "law", L2.defArgs (top 53), L2.defBody (top 53), L2.defScope (top 53), ["script", "w", "turn", "stock", "rows", "known", "name", "kind", "slots", "every", "marks", "key", "root", "table", "word", "own"], d_law⟩]
def T : Tab := ⟨infos, [("LETTERS", (.str s_abcdefghijklmnopqrstuvwx)), ("MOST_WORD", (.int 30))], ["abs", "all", "bool", "dict", "int", "isinstance", "len", "range", "set", "sorted", "str", "tuple"], [("VALUES", [((.str s_number), (.tup [(.str s_one), (.str s_many)])), ((.str s_fixed), (.tup [(.str s_this), (.str s_some), (.str s_each), (.str s_no)])), ((.str s_case), (.tup [(.str s_WHO), (.str s_WHAT), (.str s_WHOM)])), ((.str s_time), (.tup [(.str s_past), (.str s_now), (.str s_later)])), ((.str s_truth), (.tup [(.str s_yes), (.str s_no)])), ((.str s_mood), (.tup [(.str s_tell), (.str s_ask), (.str s_bid), (.str s_more)])), ((.str s_who), (.tup [(.str s_one), (.str s_many)]))])]⟩
theorem T_P : T.P = P := by
  funext k
  show (infos[k]?).map (·.df) = prog[k]?
  have e : infos.map (·.df) = prog := rfl
  rw [← e, List.getElem?_map]
end K16
end
section
set_option Elab.async false
set_option linter.all false
set_option maxRecDepth 100000
set_option maxHeartbeats 0
/-! the head of K16: the row holds if the evaluator answers True -/
namespace K16
open PySem PySem.Spec PyProof.Rows L2 Ev
theorem okB : T.okB = true := by decide +kernel
abbrev R : PySem.W.OpenRow := PySem.W.OpenLaw.row PySem.Challenge.rw_meaningsled_k16_whole_tables_and_analyse
abbrev hk : PySem.W.Hook := Ev.hookX 4 T
def ob (s : PySem.W.SharedT) : Ev.AlX := Ev.obsXG 4 T (HandSHeadRun.getT s)
theorem ob_eq (s : PySem.W.SharedT) : ob s = hk.obs s.abs := Ev.obsXG_eq (HandSHeadRun.getT_eq s)
def loose : List PySem.Str := ([("is_word" : PySem.Str), ("swapped" : PySem.Str), ("near" : PySem.Str), ("changed_near" : PySem.Str), ("stepped" : PySem.Str), ("forms_on_way" : PySem.Str), ("formed" : PySem.Str), ("class_row" : PySem.Str), ("values_in" : PySem.Str), ("entry_of" : PySem.Str), ("class_of" : PySem.Str), ("slots_of" : PySem.Str)] : List PySem.Str) ++ ([("values_of" : PySem.Str), ("marks_of" : PySem.Str), ("are_marks" : PySem.Str), ("chain_of" : PySem.Str), ("word_of" : PySem.Str), ("table_of" : PySem.Str), ("all_rows" : PySem.Str), ("analyses" : PySem.Str), ("doubles" : PySem.Str), ("all_forms" : PySem.Str), ("_law_draws" : PySem.Str), ("_law_next" : PySem.Str)] : List PySem.Str) ++ ([("_law_pick" : PySem.Str), ("_law_says" : PySem.Str), ("_law_same" : PySem.Str), ("_law_letters" : PySem.Str), ("_law_step" : PySem.Str), ("_law_chain" : PySem.Str), ("_law_stepped" : PySem.Str), ("_law_formed" : PySem.Str), ("_law_texts" : PySem.Str), ("_law_words_of" : PySem.Str), ("_law_kind_slots" : PySem.Str), ("_law_slot_values" : PySem.Str)] : List PySem.Str) ++ ([("_law_some_slots" : PySem.Str), ("_law_stock" : PySem.Str), ("_law_class" : PySem.Str), ("_law_marks" : PySem.Str), ("_law_chain_of" : PySem.Str), ("_law_word" : PySem.Str), ("_law_table" : PySem.Str), ("_law_all" : PySem.Str), ("_law_bent_marks" : PySem.Str), ("LETTERS" : PySem.Str), ("MOST_WORD" : PySem.Str), ("VALUES" : PySem.Str)] : List PySem.Str)
theorem runF (w : World) : HandSHeadRun.RunEq R (PySem.W.view R.prog [53]) hk ob 4000 loose (w.withFollow "special-get-raises" false) := by
  intro os
  kernel_rfl
theorem runT (w : World) : HandSHeadRun.RunEq R (PySem.W.view R.prog [53]) hk ob 4000 loose (w.withFollow "special-get-raises" true) := by
  intro os
  kernel_rfl
theorem run (w : World) : HandSHeadRun.RunEq R (PySem.W.view R.prog [53]) hk ob 4000 loose w := PySem.W.byRow2 "special-get-raises" (P := HandSHeadRun.RunEq R (PySem.W.view R.prog [53]) hk ob 4000 loose) runF runT w
end K16
open PySem PySem.W PySem.Calls PyProof.Rows
theorem K16.top_holds (hlaw : ∀ ns : List Int, ns.length ≤ 63 → ∃ outs, Ev.callD K16.T.P 60 45 [.fz (.scr ns)] = .ok (.fz (.bl true)) outs) : PySem.Challenge.rw_meaningsled_k16_whole_tables_and_analyse.Holds := by
  w_on; o_law
  refine HandSHeadRun.head_any (r := OpenLaw.row PySem.Challenge.rw_meaningsled_k16_whole_tables_and_analyse) (q := view (OpenLaw.row PySem.Challenge.rw_meaningsled_k16_whole_tables_and_analyse).prog [53]) (H := K16.hk) (ob := K16.ob) (M := 4000) (loose := K16.loose) (d := HandSHeadRun.topDef (OpenLaw.row PySem.Challenge.rw_meaningsled_k16_whole_tables_and_analyse).prog 53) (kwd := []) K16.ob_eq
    (by kernel_rfl) (fun s => by kernel_rfl) K16.run (by kernel_rfl) (by kernel_rfl) (by kernel_rfl) (by rfl) (by first | assumption | decide +kernel) (by decide +kernel) ⟨rfl, rfl, rfl, rfl, rfl, by decide +kernel⟩ ?hw ?hc
  case hw => w_witness2
  case hc =>
    refine L2.walk_ofE (l := PySem.Challenge.rw_meaningsled_k16_whole_tables_and_analyse) (n := 63) (k := 60) (x := "script") (CX := L2.CX0) rfl (by decide) (by kernel_rfl) ⟨rfl, by decide, by decide⟩ ?F (fun _ _ _ _ z => z)
    intro w mg fa h Y G hmg0
    obtain ⟨K, KX, c⟩ := Y
    have hmg : mg ("law" : PySem.Str) = some (.ref fa) := by
      have e : (HandSHeadRun.topDef (OpenLaw.row PySem.Challenge.rw_meaningsled_k16_whole_tables_and_analyse).prog 53).name = ("law" : PySem.Str) := by kernel_rfl
      rw [← e]
      exact hmg0
    obtain ⟨fd, hb, hF⟩ := Ev.law_fn KX G c K16.okB (kl := 45) (il := K16.infos[45]'(by decide)) (by rfl) (x := "script") (by decide +kernel) 60 (fa := fa) hmg (PySem.Challenge.rw_meaningsled_k16_whole_tables_and_analyse).prog
    exact ⟨K, fd, _, KX, hb, fun H a ns hl hO hS => Ev.spD_law hS hO (hlaw ns hl), fun base _ _ => hF base⟩
end
section
set_option linter.all false
set_option maxRecDepth 100000
/-! Sim: how a call of the evaluator is reckoned with open data. -/
namespace Ev
theorem call_eq {P : Nat → Option Df} {n k : Nat} {d : Df} {args : List OV} (h : P k = some d) (hl : args.length = d.np) : callD P (n + 1) k args = d.end (evSs (callD P n) d.body (d.start args)) := by
  show (match P k with | some d => if args.length = d.np then d.end (evSs (callD P n) d.body (d.start args)) else CRes.bad | none => CRes.bad) = _
  rw [h]
  show (if args.length = d.np then _ else CRes.bad) = _
  rw [if_pos hl]
theorem bd_ok {α β : Type} {a : α} {ρ : Env} {f : α → Env → Res β} : (Res.ok a ρ).bd f = f a ρ := rfl
theorem bd_bad {α β : Type} {f : α → Env → Res β} : (Res.bad : Res α).bd f = .bad := rfl
theorem of_some {α : Type} {a : α} {ρ : Env} : Res.of (some a) ρ = .ok a ρ := rfl
theorem of_none {α : Type} {ρ : Env} : (Res.of none ρ : Res α) = .bad := rfl
theorem at_zero {o : Option OV} {ρ : Env} : Env.at (o :: ρ) 0 = o := by cases o <;> rfl
theorem at_succ {o : Option OV} {ρ : Env} {i : Nat} : Env.at (o :: ρ) (i + 1) = Env.at ρ i := rfl
theorem put_zero {o : Option OV} {ρ : Env} {v : OV} : Env.put (o :: ρ) 0 v = some v :: ρ := rfl
theorem put_succ {o : Option OV} {ρ : Env} {i : Nat} {v : OV} : Env.put (o :: ρ) (i + 1) v = o :: Env.put ρ i v := rfl
/-- the loop of a comprehension, turn by turn alike -/
theorem lcGo_map {f : D → Env → Res (Option D)} {g : D → Option D} {ρ : Env} : ∀ {ds acc : List D}, (∀ d ∈ ds, f d ρ = .ok (g d) ρ) → acc.length + ds.length ≤ mostLen → lcGo f ds acc ρ = .ok (acc ++ ds.filterMap g) ρ
  | [], acc, _, _ => by simp [lcGo]
  | d :: ds, acc, h, hl => by
    have h1 := h d (by simp)
    have ih := fun acc hl => lcGo_map (f := f) (g := g) (ρ := ρ) (ds := ds) (acc := acc) (fun d hd => h d (List.mem_cons_of_mem _ hd)) hl
    simp only [List.length_cons] at hl
    rw [lcGo, h1, bd_ok]
    cases e : g d with
    | none =>
      show lcGo f ds acc ρ = _
      rw [ih acc (by omega), List.filterMap_cons, e]
    | some y =>
      show (if acc.length < mostLen then lcGo f ds (acc ++ [y]) ρ else .bad) = _
      rw [if_pos (by omega), ih _ (by rw [List.length_append]; simp; omega), List.filterMap_cons, e]
      simp
end Ev
namespace Ev
theorem opd_var {i : Nat} {r : Res OV} {ρ : Env} : opd (.var i) r ρ = (match ρ.at i with | some _ => .ok (.slot i) ρ | none => .bad) := rfl
theorem opd_mov {i : Nat} {r : Res OV} {ρ : Env} : opd (.mov i) r ρ = r.bd fun o ρ => .ok (.tmp o) ρ := rfl
theorem opd_cst {d : D} {r : Res OV} {ρ : Env} : opd (.cst d) r ρ = r.bd fun o ρ => .ok (.tmp o) ρ := rfl
theorem opd_glb {d : D} {r : Res OV} {ρ : Env} : opd (.glb d) r ρ = r.bd fun o ρ => .ok (.tmp o) ρ := rfl
theorem opd_tup {l : Es} {r : Res OV} {ρ : Env} : opd (.tup l) r ρ = r.bd fun o ρ => .ok (.tmp o) ρ := rfl
theorem opd_lst {l : Es} {r : Res OV} {ρ : Env} : opd (.lst l) r ρ = r.bd fun o ρ => .ok (.tmp o) ρ := rfl
theorem opd_dct {l : Ps} {r : Res OV} {ρ : Env} : opd (.dct l) r ρ = r.bd fun o ρ => .ok (.tmp o) ρ := rfl
theorem opd_bin {o : Op2} {a b : E} {r : Res OV} {ρ : Env} : opd (.bin o a b) r ρ = r.bd fun o ρ => .ok (.tmp o) ρ := rfl
theorem opd_neg {a : E} {r : Res OV} {ρ : Env} : opd (.neg a) r ρ = r.bd fun o ρ => .ok (.tmp o) ρ := rfl
theorem opd_cmp {c : Cp} {a b : E} {r : Res OV} {ρ : Env} : opd (.cmp c a b) r ρ = r.bd fun o ρ => .ok (.tmp o) ρ := rfl
theorem opd_chn {c : Cp} {a b : E} {c' : Cp} {e : E} {r : Res OV} {ρ : Env} : opd (.chn c a b c' e) r ρ = r.bd fun o ρ => .ok (.tmp o) ρ := rfl
theorem opd_and {a b : E} {r : Res OV} {ρ : Env} : opd (.and a b) r ρ = r.bd fun o ρ => .ok (.tmp o) ρ := rfl
theorem opd_or {a b : E} {r : Res OV} {ρ : Env} : opd (.or a b) r ρ = r.bd fun o ρ => .ok (.tmp o) ρ := rfl
theorem opd_not {a : E} {r : Res OV} {ρ : Env} : opd (.not a) r ρ = r.bd fun o ρ => .ok (.tmp o) ρ := rfl
theorem opd_ite {t a b : E} {r : Res OV} {ρ : Env} : opd (.ite t a b) r ρ = r.bd fun o ρ => .ok (.tmp o) ρ := rfl
theorem opd_idx {a b : E} {r : Res OV} {ρ : Env} : opd (.idx a b) r ρ = r.bd fun o ρ => .ok (.tmp o) ρ := rfl
theorem opd_slc {a lo hi : E} {r : Res OV} {ρ : Env} : opd (.slc a lo hi) r ρ = r.bd fun o ρ => .ok (.tmp o) ρ := rfl
theorem opd_bi {b : BI} {a : E} {r : Res OV} {ρ : Env} : opd (.bi b a) r ρ = r.bd fun o ρ => .ok (.tmp o) ρ := rfl
theorem opd_isi {a : E} {ts : List Ty} {r : Res OV} {ρ : Env} : opd (.isi a ts) r ρ = r.bd fun o ρ => .ok (.tmp o) ρ := rfl
theorem opd_mt0 {m : MT} {o : E} {r : Res OV} {ρ : Env} : opd (.mt0 m o) r ρ = r.bd fun o ρ => .ok (.tmp o) ρ := rfl
theorem opd_mt1 {m : MT} {o a : E} {r : Res OV} {ρ : Env} : opd (.mt1 m o a) r ρ = r.bd fun o ρ => .ok (.tmp o) ρ := rfl
theorem opd_mt2 {m : MT} {o a b : E} {r : Res OV} {ρ : Env} : opd (.mt2 m o a b) r ρ = r.bd fun o ρ => .ok (.tmp o) ρ := rfl
theorem opd_mu0 {m : MU} {i : Nat} {r : Res OV} {ρ : Env} : opd (.mu0 m i) r ρ = r.bd fun o ρ => .ok (.tmp o) ρ := rfl
theorem opd_mu1 {m : MU} {i : Nat} {a : E} {r : Res OV} {ρ : Env} : opd (.mu1 m i a) r ρ = r.bd fun o ρ => .ok (.tmp o) ρ := rfl
theorem opd_df {k : Nat} {l : As} {r : Res OV} {ρ : Env} : opd (.df k l) r ρ = r.bd fun o ρ => .ok (.tmp o) ρ := rfl
theorem opd_lc {elt : E} {g : Tg} {it : It} {ifs : Es} {own : List Nat} {r : Res OV} {ρ : Env} : opd (.lc elt g it ifs own) r ρ = r.bd fun o ρ => .ok (.tmp o) ρ := rfl
theorem opd_lc2 {elt : E} {g : Tg} {it : It} {g1 : Tg} {it1 : It} {ifs : Es} {own own1 : List Nat} {r : Res OV} {ρ : Env} : opd (.lc2 elt g it g1 it1 ifs own own1) r ρ = r.bd fun o ρ => .ok (.tmp o) ρ := rfl
theorem opd_upd {i : Nat} {a : E} {r : Res OV} {ρ : Env} : opd (.upd i a) r ρ = r.bd fun o ρ => .ok (.tmp o) ρ := rfl
theorem opd_frz {a : E} {r : Res OV} {ρ : Env} : opd (.frz a) r ρ = r.bd fun o ρ => .ok (.tmp o) ρ := rfl
end Ev
namespace Ev
section
variable {i j : Int} {x y : Tx} {l m : List D} {d e k v : D} {n : Nat} {a b : Bool} {kv : List (D × D)}
theorem eq_ss : D.eq (.str x) (.str y) = decide (x = y) := rfl
theorem eq_ii : D.eq (.int i) (.int j) = decide (i = j) := rfl
theorem eq_bb : D.eq (.bl a) (.bl b) = (a == b) := rfl
theorem eq_nn : D.eq .non .non = true := rfl
theorem eq_tt : D.eq (.tup l) (.tup m) = D.eqs l m := rfl
theorem eq_ll : D.eq (.lst l) (.lst m) = D.eqs l m := rfl
theorem eq_sn : D.eq (.str x) .non = false := rfl
theorem eq_in : D.eq (.int i) .non = false := rfl
theorem eq_tn : D.eq (.tup l) .non = false := rfl
theorem eq_ns : D.eq .non (.str x) = false := rfl
theorem eq_nt : D.eq .non (.tup l) = false := rfl
theorem eq_si : D.eq (.str x) (.int i) = false := rfl
theorem eq_is : D.eq (.int i) (.str x) = false := rfl
theorem eq_ts : D.eq (.tup l) (.str x) = false := rfl
theorem eq_st : D.eq (.str x) (.tup l) = false := rfl
theorem eqs_nn : D.eqs [] [] = true := rfl
theorem eqs_cc : D.eqs (d :: l) (e :: m) = (D.eq d e && D.eqs l m) := rfl
theorem eqs_nc : D.eqs [] (e :: m) = false := rfl
theorem eqs_cn : D.eqs (d :: l) [] = false := rfl
theorem flat_s : D.flat n (.str x) = true := by cases n <;> rfl
theorem flat_i : D.flat n (.int i) = true := by cases n <;> rfl
theorem flat_b : D.flat n (.bl a) = true := by cases n <;> rfl
theorem flat_n : D.flat n .non = true := by cases n <;> rfl
theorem flat_t : D.flat (n + 1) (.tup l) = D.flats n l := rfl
theorem flat_l : D.flat (n + 1) (.lst l) = D.flats n l := rfl
theorem flat_t30 : D.flat 30 (.tup l) = D.flats 29 l := rfl
theorem flat_l30 : D.flat 30 (.lst l) = D.flats 29 l := rfl
theorem flats_n : D.flats n [] = true := rfl
theorem flats_c : D.flats n (d :: l) = (D.flat n d && D.flats n l) := rfl
theorem flats_strs : ∀ {ts : List Tx}, D.flats n (ts.map .str) = true
  | [] => rfl
  | t :: ts => by rw [List.map_cons, flats_c, flat_s, flats_strs]; rfl
theorem lt_ii : D.lt (.int i) (.int j) = some (decide (i < j)) := rfl
theorem lt_ss : D.lt (.str x) (.str y) = some (decide (x < y)) := rfl
theorem isIn_t : isIn d (.tup l) = if d.ok && D.flats 29 l then some (l.any fun y => D.eq y d) else none := by cases d <;> rfl
theorem isIn_l : isIn d (.lst l) = if d.ok && D.flats 29 l then some (l.any fun y => D.eq y d) else none := by cases d <;> rfl
theorem isIn_s {c : Nat} : isIn (.str [c]) (.str y) = some (decide (c ∈ y)) := rfl
theorem c_eq : cmp2 .eq d e = if d.ok && e.ok then some (D.eq d e) else none := by cases d <;> cases e <;> rfl
theorem c_ne : cmp2 .ne d e = if d.ok && e.ok then some (!D.eq d e) else none := by cases d <;> cases e <;> rfl
theorem c_lt : cmp2 .lt d e = D.lt d e := by cases d <;> cases e <;> rfl
theorem c_gt : cmp2 .gt d e = D.lt e d := by cases d <;> cases e <;> rfl
theorem c_le : cmp2 .le d e = (D.lt e d).map (!·) := by cases d <;> cases e <;> rfl
theorem c_ge : cmp2 .ge d e = (D.lt d e).map (!·) := by cases d <;> cases e <;> rfl
theorem c_in : cmp2 .isin d e = isIn d e := by cases d <;> cases e <;> rfl
theorem c_nin : cmp2 .notin d e = (isIn d e).map (!·) := by cases d <;> cases e <;> rfl
theorem c_is : cmp2 .is d .non = some (isNon d) := by cases d <;> rfl
theorem c_isn : cmp2 .isnot d .non = some (!isNon d) := by cases d <;> rfl
theorem c_isb : cmp2 .is (.bl a) (.bl b) = some (a == b) := rfl
theorem c_isnb : cmp2 .isnot (.bl a) (.bl b) = some (!(a == b)) := rfl
theorem x_t : idx2 (.tup l) (.int i) = atI l i := rfl
theorem x_l : idx2 (.lst l) (.int i) = atI l i := rfl
theorem x_scr {is : List Int} : idx2 (.scr is) (.int i) = (atI is i).map .int := rfl
theorem x_s : idx2 (.str x) (.int i) = if x.length ≤ mostLen then (atI x i).map fun c => .str [c] else none := rfl
theorem x_d : idx2 (.dct kv) k = if keyOk k then dGet kv k else none := by cases k <;> rfl
theorem b_add : bin2 .add (.int i) (.int j) = some (.fz (.int (i + j))) := rfl
theorem b_adds : bin2 .add (.str x) (.str y) = if x.length + y.length ≤ mostLen then some (.fz (.str (x ++ y))) else none := rfl
theorem b_addl : bin2 .add (.lst l) (.lst m) = if l.length + m.length ≤ mostLen then some (.lst (l ++ m)) else none := rfl
theorem b_addt : bin2 .add (.tup l) (.tup m) = if l.length + m.length ≤ mostLen then some (.fz (.tup (l ++ m))) else none := rfl
theorem b_sub : bin2 .sub (.int i) (.int j) = some (.fz (.int (i - j))) := rfl
theorem b_mul : bin2 .mul (.int i) (.int j) = if i.natAbs < 2 ^ 64 ∨ j.natAbs < 2 ^ 64 then some (.fz (.int (i * j))) else none := rfl
theorem b_mod : bin2 .mod (.int i) (.int j) = if j ≠ 0 then some (.fz (.int (i.fmod j))) else none := rfl
theorem b_fdv : bin2 .fdv (.int i) (.int j) = if j ≠ 0 ∧ j.natAbs < 1073741824 then some (.fz (.int (i.fdiv j))) else none := rfl
theorem b_pow : bin2 .pow (.int i) (.int j) = if 0 ≤ j ∧ j ≤ 1000000 ∧ i.natAbs < 2 ^ 64 then some (.fz (.int (i ^ j.toNat))) else none := rfl
theorem l_s : bi1 .len (.str x) = if x.length ≤ mostLen then some (.fz (.int x.length)) else none := rfl
theorem l_t : bi1 .len (.tup l) = some (.fz (.int l.length)) := rfl
theorem l_l : bi1 .len (.lst l) = some (.fz (.int l.length)) := rfl
theorem l_scr {is : List Int} : bi1 .len (.scr is) = some (.fz (.int is.length)) := rfl
theorem l_d : bi1 .len (.dct kv) = some (.fz (.int kv.length)) := rfl
theorem i_abs : bi1 .abs (.int i) = some (.fz (.int (if i < 0 then -i else i))) := rfl
theorem i_int : bi1 .int (.int i) = some (.fz (.int i)) := rfl
theorem i_strs : bi1 .str (.str x) = some (.fz (.str x)) := rfl
theorem i_stri : bi1 .str (.int i) = if 0 ≤ i ∧ i < 2 ^ 64 then some (.fz (.str (TL.numL i.toNat))) else none := rfl
theorem i_ints : bi1 .int (.str x) = (intOf? x).map fun i => .fz (.int i) := rfl
theorem i_tupl : bi1 .tuple (.lst l) = some (.fz (.tup l)) := rfl
theorem i_tupt : bi1 .tuple (.tup l) = some (.fz (.tup l)) := rfl
theorem i_lstl : bi1 .list (.lst l) = some (.lst l) := rfl
theorem i_lstt : bi1 .list (.tup l) = some (.lst l) := rfl
theorem i_all : bi1 .all (.lst l) = (allB l).map fun bs => .fz (.bl (bs.all id)) := rfl
theorem i_any : bi1 .any (.lst l) = (allB l).map fun bs => .fz (.bl (bs.any id)) := rfl
theorem i_ss : bi1 .sortset d = (itemsV d).bind fun l => if l.length ≤ 4000 then (match allI l with
    | some is => some (.lst (((once is).mergeSort fun a b => decide (a ≤ b)).map .int))
    | none => (allS l).bind fun ts => some (.lst (((once ts).mergeSort fun a b => decide (a ≤ b)).map .str))) else none := by cases d <;> rfl
theorem m_joinl : mth1 .join (.str x) (.lst l) = (allS l).bind fun ts => if (ts.map (·.length)).sum + ts.length * x.length ≤ mostLen then some (.fz (.str (TL.joinL x ts))) else none := rfl
theorem m_joint : mth1 .join (.str x) (.tup l) = (allS l).bind fun ts => if (ts.map (·.length)).sum + ts.length * x.length ≤ mostLen then some (.fz (.str (TL.joinL x ts))) else none := rfl
theorem m_split : mth1 .split (.str x) (.str y) = if y ≠ [] ∧ y.all (· < 256) = true ∧ x.length + 2 ≤ mostLen then some (.lst ((TL.spl y 0 [] x).map .str)) else none := rfl
theorem m_ends : mth1 .ends (.str x) (.str y) = some (.fz (.bl (PySem.Txt.endswith ⟨x.toArray⟩ ⟨y.toArray⟩))) := rfl
theorem m_get2 : mth2 .get (.dct kv) k v = if keyOk k then some (.fz ((dGet kv k).getD v)) else none := by cases k <;> rfl
theorem r_s {mt : MT} (h : mt ≠ .get) : recvOk mt (.str x) = some () := by cases mt <;> first | rfl | exact absurd rfl h
theorem r_join : recvOk .join (.str x) = some () := rfl
theorem r_split : recvOk .split (.str x) = some () := rfl
theorem r_ends : recvOk .ends (.str x) = some () := rfl
theorem r_get : recvOk .get (.dct kv) = some () := rfl
theorem s_s {p q : Option Int} : slc3 (.str x) p q = if x.length ≤ mostLen then some (.fz (.str (cut x p q))) else none := rfl
theorem s_t {p q : Option Int} : slc3 (.tup l) p q = some (.fz (.tup (cut l p q))) := rfl
theorem s_l {p q : Option Int} : slc3 (.lst l) p q = some (.lst (cut l p q)) := rfl
theorem iv_l : itemsV (.lst l) = some l := rfl
theorem iv_t : itemsV (.tup l) = some l := rfl
theorem iv_s : itemsV (.str x) = some (x.map fun c => .str [c]) := rfl
theorem tr_b : truth (.bl a) = some a := rfl
theorem od_fz : OV.d (.fz d) = d := rfl
theorem od_l : OV.d (.lst l) = .lst l := rfl
theorem od_d : OV.d (.dct kv) = .dct kv := rfl
theorem ov_t {o : OV} {ρ : Env} : (Opd.tmp o).view ρ = some o.d := rfl
theorem ov_s {q : Nat} {ρ : Env} : (Opd.slot q).view ρ = (ρ.at q).map OV.d := rfl
theorem mu_app {z : D} : mut1 .append l z = if l.length < mostLen then some (l ++ [z]) else none := by cases z <;> rfl
theorem mu_ext : mut1 .extend l (.lst m) = if l.length + m.length ≤ mostLen then some (l ++ m) else none := rfl
theorem mu_pop : mut0 .pop l = (l.getLast?).map fun x => (x, l.dropLast) := rfl
end
end Ev
namespace Ev
end Ev
namespace Ev
/-- a comprehension with a state: each turn gives an item -/
theorem lcGo_all {f : D → Env → Res (Option D)} {I : Env → Prop} {Pd : D → Prop} : ∀ {ds acc : List D} {ρ : Env}, (∀ d ∈ ds, ∀ ρ, I ρ → ∃ y ρ', f d ρ = .ok (some y) ρ' ∧ I ρ' ∧ Pd y) → I ρ → (∀ y ∈ acc, Pd y) → acc.length + ds.length ≤ mostLen →
    ∃ l ρ', lcGo f ds acc ρ = .ok l ρ' ∧ I ρ' ∧ (∀ y ∈ l, Pd y) ∧ l.length = acc.length + ds.length
  | [], acc, ρ, _, hI, ha, _ => ⟨acc, ρ, rfl, hI, ha, by simp⟩
  | d :: ds, acc, ρ, h, hI, ha, hl => by
    obtain ⟨y, ρ', e, hI', hy⟩ := h d (by simp) ρ hI
    simp only [List.length_cons] at hl
    obtain ⟨l, ρ2, e2, h2, h3, h4⟩ := lcGo_all (f := f) (I := I) (Pd := Pd) (ds := ds) (acc := acc ++ [y]) (ρ := ρ') (fun d hd => h d (List.mem_cons_of_mem _ hd)) hI' (fun z hz => by
      rcases List.mem_append.mp hz with hz | hz
      · exact ha z hz
      · rw [List.mem_singleton] at hz; rw [hz]; exact hy) (by rw [List.length_append]; simp; omega)
    refine ⟨l, ρ2, ?_, h2, h3, by rw [h4, List.length_append]; simp; omega⟩
    rw [lcGo, e, bd_ok]
    show (if acc.length < mostLen then lcGo f ds (acc ++ [y]) ρ' else .bad) = _
    rw [if_pos (by omega), e2]
/-- .. or none -/
theorem lcGo_some {f : D → Env → Res (Option D)} {I : Env → Prop} {Pd : D → Prop} : ∀ {ds acc : List D} {ρ : Env}, (∀ d ∈ ds, ∀ ρ, I ρ → ∃ o ρ', f d ρ = .ok o ρ' ∧ I ρ' ∧ ∀ y, o = some y → Pd y) → I ρ → (∀ y ∈ acc, Pd y) → acc.length + ds.length ≤ mostLen →
    ∃ l ρ', lcGo f ds acc ρ = .ok l ρ' ∧ I ρ' ∧ (∀ y ∈ l, Pd y) ∧ l.length ≤ acc.length + ds.length
  | [], acc, ρ, _, hI, ha, _ => ⟨acc, ρ, rfl, hI, ha, by simp⟩
  | d :: ds, acc, ρ, h, hI, ha, hl => by
    obtain ⟨o, ρ', e, hI', hy⟩ := h d (by simp) ρ hI
    simp only [List.length_cons] at hl
    cases o with
    | none =>
      obtain ⟨l, ρ2, e2, h2, h3, h4⟩ := lcGo_some (f := f) (I := I) (Pd := Pd) (ds := ds) (acc := acc) (ρ := ρ') (fun d hd => h d (List.mem_cons_of_mem _ hd)) hI' ha (by omega)
      refine ⟨l, ρ2, ?_, h2, h3, by simp; omega⟩
      rw [lcGo, e, bd_ok]
      exact e2
    | some y =>
      obtain ⟨l, ρ2, e2, h2, h3, h4⟩ := lcGo_some (f := f) (I := I) (Pd := Pd) (ds := ds) (acc := acc ++ [y]) (ρ := ρ') (fun d hd => h d (List.mem_cons_of_mem _ hd)) hI' (fun z hz => by
        rcases List.mem_append.mp hz with hz | hz
        · exact ha z hz
        · rw [List.mem_singleton] at hz; rw [hz]; exact hy y rfl) (by rw [List.length_append]; simp; omega)
      refine ⟨l, ρ2, ?_, h2, h3, by rw [List.length_append] at h4; simp at h4 ⊢; omega⟩
      rw [lcGo, e, bd_ok]
      show (if acc.length < mostLen then lcGo f ds (acc ++ [y]) ρ' else .bad) = _
      rw [if_pos (by omega), e2]
/-- a for whose every turn goes on; I by the items taken -/
theorem forGo_pre {f : D → Env → Res Flow} {I : List D → Env → Prop} : ∀ {ds pre : List D} {ρ : Env}, (∀ (pre : List D) (d : D), ∀ ρ, I pre ρ → ∃ ρ', f d ρ = .ok .nx ρ' ∧ I (pre ++ [d]) ρ') → I pre ρ → ∃ ρ', forGo f ds ρ = .ok .nx ρ' ∧ I (pre ++ ds) ρ'
  | [], pre, ρ, _, hI => ⟨ρ, rfl, by rw [List.append_nil]; exact hI⟩
  | d :: ds, pre, ρ, h, hI => by
    obtain ⟨ρ', e, hI'⟩ := h pre d ρ hI
    obtain ⟨ρ2, e2, h2⟩ := forGo_pre (ds := ds) h hI'
    refine ⟨ρ2, ?_, by rw [List.append_assoc] at h2; exact h2⟩
    rw [forGo, e, bd_ok]
    exact e2
theorem forGo_inv {f : D → Env → Res Flow} {I : Env → Prop} : ∀ {ds : List D} {ρ : Env}, (∀ d ∈ ds, ∀ ρ, I ρ → ∃ ρ', f d ρ = .ok .nx ρ' ∧ I ρ') → I ρ → ∃ ρ', forGo f ds ρ = .ok .nx ρ' ∧ I ρ'
  | [], ρ, _, hI => ⟨ρ, rfl, hI⟩
  | d :: ds, ρ, h, hI => by
    obtain ⟨ρ', e, hI'⟩ := h d (by simp) ρ hI
    obtain ⟨ρ2, e2, h2⟩ := forGo_inv (ds := ds) (fun d hd => h d (List.mem_cons_of_mem _ hd)) hI'
    refine ⟨ρ2, ?_, h2⟩
    rw [forGo, e, bd_ok]
    exact e2
theorem rngOf_length (lo : Int) (n : Nat) : (rngOf lo n).length = n := by simp [rngOf]
end Ev
namespace Ev
def lcFn (cl : CL) (elt : E) (g : Tg) (ifs : Es) (own : List Nat) : D → Env → Res (Option D) := fun d ρb => (Res.of (Tg.put g (.fz d) (wipe ρb own)) ρb).bd fun ρg _ =>
        (evTs cl ifs ρg).bd fun b ρ => if b then (evE cl elt ρ).bd fun o ρ => .ok (some o.d) (unwipe ρb ρ own) else .ok none (unwipe ρb ρ own)
theorem lc_eq {cl : CL} {elt : E} {g : Tg} {it : It} {ifs : Es} {own : List Nat} {ρ ρ1 ρ2 : Env} {ds l : List D} (h1 : evIt cl it ρ = .ok ds ρ1) (h2 : lcGo (lcFn cl elt g ifs own) ds [] ρ1 = .ok l ρ2) : evE cl (.lc elt g it ifs own) ρ = .ok (.lst l) ρ2 := by
  have e : evE cl (.lc elt g it ifs own) ρ = ((evIt cl it ρ).bd fun ds ρ => (lcGo (lcFn cl elt g ifs own) ds [] ρ).bd fun l ρ' => Res.ok (OV.lst l) ρ') := by rw [evE]; rfl
  rw [e, h1, bd_ok, h2, bd_ok]
def forFn (cl : CL) (g : Tg) (b : Ss) : D → Env → Res Flow := fun d ρ => (Res.of (Tg.put g (.fz d) ρ) ρ).bd fun ρ' _ => evSs cl b ρ'
theorem for_eq {cl : CL} {g : Tg} {it : It} {b : Ss} {ρ ρ1 ρ2 : Env} {ds : List D} {fl : Flow} (h1 : evIt cl it ρ = .ok ds ρ1) (h2 : forGo (forFn cl g b) ds ρ1 = .ok fl ρ2) : evS cl (.fors g it b) ρ = .ok fl ρ2 := by
  have e : evS cl (.fors g it b) ρ = ((evIt cl it ρ).bd fun ds ρ => forGo (forFn cl g b) ds ρ) := by rw [evS]; rfl
  rw [e, h1, bd_ok, h2]
theorem sum_singles : ∀ t : Tx, ((t.map fun k => [k]).map (·.length)).sum = t.length
  | [] => rfl
  | k :: t => by rw [List.map_cons, List.map_cons, List.sum_cons, sum_singles t]; simp; omega
end Ev
namespace Ev
theorem lcGo_sub {f : D → Env → Res (Option D)} {I : Env → Prop} : ∀ {ds acc : List D} {ρ : Env}, (∀ d ∈ ds, ∀ ρ, I ρ → ∃ (b : Bool) (ρ' : Env), f d ρ = .ok (if b then some d else none) ρ' ∧ I ρ') → I ρ → acc.length + ds.length ≤ mostLen →
    ∃ l ρ', lcGo f ds acc ρ = .ok (acc ++ l) ρ' ∧ I ρ' ∧ l.Sublist ds
  | [], acc, ρ, _, hI, _ => ⟨[], ρ, by simp [lcGo], hI, .slnil⟩
  | d :: ds, acc, ρ, h, hI, hl => by
    obtain ⟨b, ρ', e, hI'⟩ := h d (by simp) ρ hI
    simp only [List.length_cons] at hl
    cases b with
    | false =>
      obtain ⟨l, ρ2, e2, h2, h3⟩ := lcGo_sub (f := f) (I := I) (ds := ds) (acc := acc) (ρ := ρ') (fun d hd => h d (List.mem_cons_of_mem _ hd)) hI' (by omega)
      refine ⟨l, ρ2, ?_, h2, .cons _ h3⟩
      rw [lcGo, e, bd_ok]
      exact e2
    | true =>
      obtain ⟨l, ρ2, e2, h2, h3⟩ := lcGo_sub (f := f) (I := I) (ds := ds) (acc := acc ++ [d]) (ρ := ρ') (fun d hd => h d (List.mem_cons_of_mem _ hd)) hI' (by rw [List.length_append]; simp; omega)
      refine ⟨d :: l, ρ2, ?_, h2, .cons₂ _ h3⟩
      rw [lcGo, e, bd_ok]
      show (if acc.length < mostLen then lcGo f ds (acc ++ [d]) ρ' else .bad) = _
      rw [if_pos (by omega), e2]
      simp
end Ev
namespace Ev
theorem forGo_ix {f : D → Env → Res Flow} : ∀ {ds : List D} {I : Nat → Env → Prop} {ρ : Env}, (∀ (i : Nat) (d : D) (ρ : Env), ds[i]? = some d → I i ρ → ∃ ρ', f d ρ = .ok .nx ρ' ∧ I (i + 1) ρ') → I 0 ρ → ∃ ρ', forGo f ds ρ = .ok .nx ρ' ∧ I ds.length ρ'
  | [], I, ρ, _, hI => ⟨ρ, rfl, hI⟩
  | d :: ds, I, ρ, h, hI => by
    obtain ⟨ρ', e, hI'⟩ := h 0 d ρ rfl hI
    obtain ⟨ρ2, e2, h2⟩ := forGo_ix (ds := ds) (I := fun i => I (i + 1)) (fun i d ρ hd hi => h (i + 1) d ρ (by simpa using hd) hi) hI'
    refine ⟨ρ2, ?_, by simpa using h2⟩
    rw [forGo, e, bd_ok]
    exact e2
theorem rng_get {n i : Nat} {d : D} (h : (rngOf 0 n)[i]? = some d) : i < n ∧ d = .int i := by
  simp only [rngOf, List.getElem?_map] at h
  obtain ⟨j, e, rfl⟩ := Option.map_eq_some_iff.mp h
  by_cases hi : i < n
  · rw [List.getElem?_range hi] at e
    cases e
    exact ⟨hi, by simp⟩
  · rw [List.getElem?_eq_none (by simpa using hi)] at e; cases e
end Ev
end
local macro_rules | `(tactic| simp_all! [$xs,*]) => `(tactic| simp [Ev.Df.start, Ev.Df.end, Ev.evSs, Ev.evS, Ev.evE, Ev.evT, Ev.evEs, Ev.evTs, Ev.evPs, Ev.evAs, Ev.evIt, Ev.opd_var, Ev.opd_mov, Ev.opd_cst, Ev.opd_glb, Ev.opd_tup, Ev.opd_lst, Ev.opd_dct, Ev.opd_bin, Ev.opd_neg, Ev.opd_cmp, Ev.opd_chn, Ev.opd_and, Ev.opd_or, Ev.opd_not, Ev.opd_ite, Ev.opd_idx, Ev.opd_slc, Ev.opd_bi, Ev.opd_isi, Ev.opd_mt0, Ev.opd_mt1, Ev.opd_mt2, Ev.opd_mu0, Ev.opd_mu1, Ev.opd_df, Ev.opd_lc, Ev.opd_lc2, Ev.opd_upd, Ev.opd_frz, Ev.bd_ok, Ev.bd_bad, Ev.of_some, Ev.of_none, Ev.at_zero, Ev.at_succ, Ev.put_zero, Ev.put_succ, Ev.callAs, Ev.takeAs, Ev.backTo, Ev.CRes.back, Ev.Tg.put, Ev.Tgs.put, Ev.setD, Ev.setF, Ev.getF, Ev.augF, Ev.dGet, Ev.dPut, Ev.keyOk, Ev.isi2, Ev.isFn, Ev.isTy, Ev.b2i, Ev.eq_ss, Ev.eq_ii, Ev.eq_bb, Ev.eq_nn, Ev.eq_tt, Ev.eq_ll, Ev.eq_sn, Ev.eq_in, Ev.eq_tn, Ev.eq_ns, Ev.eq_nt, Ev.eq_si, Ev.eq_is, Ev.eq_ts, Ev.eq_st, Ev.eqs_nn, Ev.eqs_cc, Ev.eqs_nc, Ev.eqs_cn, Ev.flat_s, Ev.flat_i, Ev.flat_b, Ev.flat_n, Ev.flat_t, Ev.flat_l, Ev.flat_t30, Ev.flat_l30, Ev.flats_n, Ev.flats_c, Ev.flats_strs, Ev.lt_ii, Ev.lt_ss, Ev.isIn_t, Ev.isIn_l, Ev.isIn_s, Ev.c_eq, Ev.c_ne, Ev.c_lt, Ev.c_gt, Ev.c_le, Ev.c_ge, Ev.c_in, Ev.c_nin, Ev.c_is, Ev.c_isn, Ev.c_isb, Ev.c_isnb, Ev.x_t, Ev.x_l, Ev.x_scr, Ev.x_s, Ev.x_d, Ev.b_add, Ev.b_adds, Ev.b_addl, Ev.b_addt, Ev.b_sub, Ev.b_mul, Ev.b_mod, Ev.b_fdv, Ev.b_pow, Ev.l_s, Ev.l_t, Ev.l_l, Ev.l_scr, Ev.l_d, Ev.i_abs, Ev.i_int, Ev.i_strs, Ev.i_stri, Ev.i_ints, Ev.i_tupl, Ev.i_tupt, Ev.i_lstl, Ev.i_lstt, Ev.i_all, Ev.i_any, Ev.i_ss, Ev.m_joinl, Ev.m_joint, Ev.m_split, Ev.m_ends, Ev.m_get2, Ev.r_join, Ev.r_split, Ev.r_ends, Ev.r_get, Ev.s_s, Ev.s_t, Ev.s_l, Ev.iv_l, Ev.iv_t, Ev.iv_s, Ev.tr_b, Ev.od_fz, Ev.od_l, Ev.od_d, Ev.ov_t, Ev.ov_s, Ev.mu_app, Ev.mu_ext, Ev.mu_pop, Ev.atI, Ev.ixOf, Ev.Df.outs, Ev.Ss.sets, Ev.S.sets, Ev.Tg.sets, Ev.Tgs.sets, Ev.mostLen, $xs,*])
local macro_rules | `(tactic| dsimp! [$xs,*]) => `(tactic| simp [Ev.lcFn, Ev.forFn, Ev.Df.start, Ev.Df.end, Ev.evSs, Ev.evS, Ev.evE, Ev.evT, Ev.evEs, Ev.evTs, Ev.evPs, Ev.evAs, Ev.evIt, Ev.opd_var, Ev.opd_mov, Ev.opd_cst, Ev.opd_glb, Ev.opd_tup, Ev.opd_lst, Ev.opd_dct, Ev.opd_bin, Ev.opd_neg, Ev.opd_cmp, Ev.opd_chn, Ev.opd_and, Ev.opd_or, Ev.opd_not, Ev.opd_ite, Ev.opd_idx, Ev.opd_slc, Ev.opd_bi, Ev.opd_isi, Ev.opd_mt0, Ev.opd_mt1, Ev.opd_mt2, Ev.opd_mu0, Ev.opd_mu1, Ev.opd_df, Ev.opd_lc, Ev.opd_lc2, Ev.opd_upd, Ev.opd_frz, Ev.bd_ok, Ev.bd_bad, Ev.of_some, Ev.of_none, Ev.at_zero, Ev.at_succ, Ev.put_zero, Ev.put_succ, Ev.callAs, Ev.takeAs, Ev.backTo, Ev.CRes.back, Ev.Tg.put, Ev.Tgs.put, Ev.setD, Ev.setF, Ev.getF, Ev.augF, Ev.dGet, Ev.dPut, Ev.keyOk, Ev.isi2, Ev.isFn, Ev.isTy, Ev.b2i, Ev.eq_ss, Ev.eq_ii, Ev.eq_bb, Ev.eq_nn, Ev.eq_tt, Ev.eq_ll, Ev.eq_sn, Ev.eq_in, Ev.eq_tn, Ev.eq_ns, Ev.eq_nt, Ev.eq_si, Ev.eq_is, Ev.eq_ts, Ev.eq_st, Ev.eqs_nn, Ev.eqs_cc, Ev.eqs_nc, Ev.eqs_cn, Ev.flat_s, Ev.flat_i, Ev.flat_b, Ev.flat_n, Ev.flat_t, Ev.flat_l, Ev.flat_t30, Ev.flat_l30, Ev.flats_n, Ev.flats_c, Ev.flats_strs, Ev.lt_ii, Ev.lt_ss, Ev.isIn_t, Ev.isIn_l, Ev.isIn_s, Ev.c_eq, Ev.c_ne, Ev.c_lt, Ev.c_gt, Ev.c_le, Ev.c_ge, Ev.c_in, Ev.c_nin, Ev.c_is, Ev.c_isn, Ev.c_isb, Ev.c_isnb, Ev.x_t, Ev.x_l, Ev.x_scr, Ev.x_s, Ev.x_d, Ev.b_add, Ev.b_adds, Ev.b_addl, Ev.b_addt, Ev.b_sub, Ev.b_mul, Ev.b_mod, Ev.b_fdv, Ev.b_pow, Ev.l_s, Ev.l_t, Ev.l_l, Ev.l_scr, Ev.l_d, Ev.i_abs, Ev.i_int, Ev.i_strs, Ev.i_stri, Ev.i_ints, Ev.i_tupl, Ev.i_tupt, Ev.i_lstl, Ev.i_lstt, Ev.i_all, Ev.i_any, Ev.i_ss, Ev.m_joinl, Ev.m_joint, Ev.m_split, Ev.m_ends, Ev.m_get2, Ev.r_join, Ev.r_split, Ev.r_ends, Ev.r_get, Ev.s_s, Ev.s_t, Ev.s_l, Ev.iv_l, Ev.iv_t, Ev.iv_s, Ev.tr_b, Ev.od_fz, Ev.od_l, Ev.od_d, Ev.ov_t, Ev.ov_s, Ev.mu_app, Ev.mu_ext, Ev.mu_pop, Ev.atI, Ev.ixOf, Ev.wipe, Ev.unwipe, Ev.keepFz, Ev.mostLen, $xs,*])
section
set_option linter.all false
set_option autoImplicit false
set_option maxRecDepth 100000
set_option maxHeartbeats 1000000
open Ev
namespace K16
/-- the world's data -/
def wD (ds : List Int) (a : Int) : List (D × D) := [(.str s_draws, .lst (ds.map .int)), (.str s_at, .int a)]
theorem next_ok {N : Nat} (hN : 1 ≤ N) (ds : List Int) {a : Int} (ha : 0 ≤ a) {m : Int} (hm : 0 < m) : ∃ i, 0 ≤ i ∧ i < m ∧ callD P N k_law_next [.dct (wD ds a), .fz (.int m)] = .ok (.fz (.int i)) [some (.dct (wD ds (a+1))), some (.fz (.int m))] := by
  obtain ⟨n, rfl⟩ : ∃ n, N = n + 1 := ⟨N - 1, by omega⟩
  rw [call_eq (d := d_law_next) rfl rfl]
  by_cases h : (ds.length : Int) < a + 1
  · refine ⟨0, by omega, hm, ?_⟩
    simp_all! [b_law_next, wD, h]
    rfl
  · have h2 : a.toNat < ds.length := by omega
    have h3 : ¬ m = 0 := by omega
    have h4 : a < ds.length := by omega
    refine ⟨(ds[a.toNat]).fmod m, Int.fmod_nonneg_of_pos _ hm, Int.fmod_lt_of_pos _ hm, ?_⟩
    simp_all! [b_law_next, wD, h, h2, h3, h4, ha]
    rfl
theorem pick_ok {N : Nat} (hN : 2 ≤ N) (ds : List Int) {a : Int} (ha : 0 ≤ a) {rows : List D} (hr : rows ≠ []) : ∃ r, r ∈ rows ∧ callD P N k_law_pick [.dct (wD ds a), .lst rows] = .ok (.fz r) [some (.dct (wD ds (a+1))), some (.lst rows)] := by
  obtain ⟨n, rfl⟩ : ∃ n, N = n + 1 := ⟨N - 1, by omega⟩
  have hl : 0 < (rows.length : Int) := by
    cases rows with
    | nil => exact absurd rfl hr
    | cons _ _ => simp
  obtain ⟨i, h0, h1, e⟩ := next_ok (N := n) (by omega) ds ha hl
  have h2 : i.toNat < rows.length := by omega
  refine ⟨rows[i.toNat], List.getElem_mem _, ?_⟩
  rw [call_eq (d := d_law_pick) rfl rfl]
  simp_all! [b_law_pick, e, h0, h1, h2]
  rfl
theorem abcd_str {c : D} (h : c ∈ [D.str s_a, D.str s_b, D.str s_a, D.str s_b, D.str s_c, D.str s_d]) : ∃ k, c = .str [k] ∧ 97 ≤ k ∧ k ≤ 100 := by
  simp at h
  rcases h with rfl | rfl | rfl | rfl | rfl | rfl <;> exact ⟨_, rfl, by omega, by omega⟩
theorem join_singles : ∀ {l : List D}, (∀ y ∈ l, ∃ k, y = .str [k] ∧ 97 ≤ k ∧ k ≤ 100) → ∃ t : Tx, allS l = some (t.map fun k => [k]) ∧ t.length = l.length ∧ ∀ k ∈ t, 97 ≤ k ∧ k ≤ 100
  | [], _ => ⟨[], rfl, rfl, by simp⟩
  | y :: l, h => by
    obtain ⟨k, rfl, h1, h2⟩ := h y (by simp)
    obtain ⟨t, e, hl, ht⟩ := join_singles fun y hy => h y (List.mem_cons_of_mem _ hy)
    refine ⟨k :: t, by simp [allS, e], by simp [hl], fun j hj => ?_⟩
    rcases List.mem_cons.mp hj with rfl | hj
    · exact ⟨h1, h2⟩
    · exact ht j hj
theorem joinL_nil : ∀ t : Tx, TL.joinL [] (t.map fun k => [k]) = t := by
  intro t
  induction t with
  | nil => rfl
  | cons k t ih =>
    cases t with
    | nil => rfl
    | cons j t => simpa [TL.joinL] using ih
theorem letters_ok {N : Nat} (hN : 3 ≤ N) (ds : List Int) {a : Int} (ha : 0 ≤ a) {m : Int} (h0 : 0 ≤ m) (h1 : m < 1000) : ∃ (t : Tx) (a' : Int), 0 ≤ a' ∧ (t.length : Int) = m ∧ (∀ k ∈ t, 97 ≤ k ∧ k ≤ 100) ∧
    callD P N k_law_letters [.dct (wD ds a), .fz (.int m)] = .ok (.fz (.str t)) [some (.dct (wD ds a')), some (.fz (.int m))] := by
  obtain ⟨n, rfl⟩ : ∃ n, N = n + 1 := ⟨N - 1, by omega⟩
  rw [call_eq (d := d_law_letters) rfl rfl]
  have hm1 : -(2 ^ 62) ≤ m := by omega
  have hm2 : m < 2 ^ 62 := by omega
  have e1 : evIt (callD P n) (.rng1 (.var 1)) [some (.dct (wD ds a)), some (.fz (.int m)), none] = .ok (rngOf 0 m.toNat) [some (.dct (wD ds a)), some (.fz (.int m)), none] := by
    have hm : okRng m = true := by simp only [okRng, Bool.and_eq_true, decide_eq_true_eq]; omega
    dsimp! [hm]
  obtain ⟨l, ρ', e, ⟨a', ha', rfl⟩, hl, hlen⟩ := lcGo_all (ds := rngOf 0 m.toNat) (acc := []) (ρ := [some (.dct (wD ds a)), some (.fz (.int m)), none]) (f := lcFn (callD P n) _ (.nm 2) .nil [2])
    (I := fun ρ => ∃ a', 0 ≤ a' ∧ ρ = [some (.dct (wD ds a')), some (.fz (.int m)), none]) (Pd := fun y => ∃ k, y = .str [k] ∧ 97 ≤ k ∧ k ≤ 100) (fun d hd ρ hI => by
      obtain ⟨a', ha', rfl⟩ := hI
      obtain ⟨r, hr, e⟩ := pick_ok (N := n) (by omega) ds ha' (rows := [D.str s_a, D.str s_b, D.str s_a, D.str s_b, D.str s_c, D.str s_d]) (by simp)
      refine ⟨r, [some (.dct (wD ds (a' + 1))), some (.fz (.int m)), none], ?_, ⟨a' + 1, by omega, rfl⟩, abcd_str hr⟩
      show lcFn (callD P n) (.df k_law_pick (.bor 0 (.val (.lst (.cons (.cst (.str s_a)) (.cons (.cst (.str s_b)) (.cons (.cst (.str s_a)) (.cons (.cst (.str s_b)) (.cons (.cst (.str s_c)) (.cons (.cst (.str s_d)) .nil))))))) .nil))) (.nm 2) .nil [2] d _ = _
      dsimp! [e]) ⟨a, ha, rfl⟩ (by simp) (by rw [rngOf_length]; simp [mostLen]; omega)
  have hE : evE (callD P n) c_law_letters_1 [some (.dct (wD ds a)), some (.fz (.int m)), none] = .ok (.lst l) [some (.dct (wD ds a')), some (.fz (.int m)), none] := lc_eq e1 e
  obtain ⟨t, et, htl, hk⟩ := join_singles hl
  rw [rngOf_length] at hlen
  have hlen' : t.length = m.toNat := by rw [htl, hlen]; simp
  refine ⟨t, a', ha', by omega, hk, ?_⟩
  have hs : (List.map ((fun x : Tx => List.length x) ∘ fun k => [k]) t).sum ≤ 16777216 := by rw [← List.map_map, sum_singles]; omega
  have hj := joinL_nil t
  simp_all! [b_law_letters, hE, et, hs, hj]
  rfl
end K16
end
section
set_option linter.all false
set_option autoImplicit false
set_option maxRecDepth 100000
set_option maxHeartbeats 2000000
open Ev
namespace K16
inductive Stp | end_ (p : Tx) | front (p : Tx) | cut (p : Tx) | dbl (n : Nat) | swap (a b : Nat) | near (w : Tx) (a b : Nat) (s : Tx)
def Stp.l : Stp → List D
  | .end_ p => [.str s_end, .str p]
  | .front p => [.str s_front, .str p]
  | .cut p => [.str s_cut, .str p]
  | .dbl n => [.str s_double, .int n]
  | .swap a b => [.str s_swap, .str [a], .str [b]]
  | .near w a b s => [.str w, .str [a], .str [b], .str s]
def Part (p : Tx) : Prop := 1 ≤ p.length ∧ p.length ≤ 6 ∧ ∀ k ∈ p, 97 ≤ k ∧ k ≤ 122
def Let (k : Nat) : Prop := 97 ≤ k ∧ k ≤ 122
def Stp.Good : Stp → Prop
  | .end_ p => Part p
  | .front p => Part p
  | .cut p => Part p
  | .dbl n => n = 1 ∨ n = 2
  | .swap a b => Let a ∧ Let b ∧ a ≠ b
  | .near w a b s => (w = s_before ∨ w = s_after) ∧ Let a ∧ Let b ∧ a ≠ b ∧ s ≠ [] ∧ (∀ k ∈ s, Let k) ∧ s.Pairwise (· < ·) ∧ s.length ≤ 5
theorem Part.of {t : Tx} {m : Int} (h : (t.length : Int) = 1 + m) (h0 : 0 ≤ m) (h1 : m < 3) (hk : ∀ k ∈ t, 97 ≤ k ∧ k ≤ 100) : Part t := ⟨by omega, by omega, fun k hx => ⟨(hk k hx).1, by have := (hk k hx).2; omega⟩⟩
theorem sub_chars {l : List D} : ∀ {cs : Tx}, l.Sublist (cs.map fun k => D.str [k]) → ∃ t : Tx, allS l = some (t.map fun k => [k]) ∧ t.Sublist cs := by
  intro cs
  induction cs generalizing l with
  | nil => intro h; cases h; exact ⟨[], rfl, .slnil⟩
  | cons c cs ih =>
    intro h
    rw [List.map_cons] at h
    cases h with
    | cons _ h => obtain ⟨t, e, hs⟩ := ih h; exact ⟨t, e, .cons _ hs⟩
    | cons_cons _ h => obtain ⟨t, e, hs⟩ := ih h; exact ⟨c :: t, by simp [allS, e], .cons₂ _ hs⟩
theorem beside_ok {n : Nat} (hN : 3 ≤ n + 1) (ds : List Int) {a : Int} (ha : 0 ≤ a) (x1 x2 x3 : Option OV) : ∃ (t : Tx) (l : List D) (a' : Int), 0 ≤ a' ∧ t.Sublist [97, 98, 99, 100, 122] ∧ allS l = some (t.map fun k => [k]) ∧
    evE (callD P n) c_law_step_1 [some (.dct (wD ds a)), x1, x2, x3, none, none] = .ok (.lst l) [some (.dct (wD ds a')), x1, x2, x3, none, none] := by
  have e1 : evIt (callD P n) (.ev (.cst (.str s_abcdz))) [some (.dct (wD ds a)), x1, x2, x3, none, none] = .ok (([97, 98, 99, 100, 122] : Tx).map fun k => D.str [k]) [some (.dct (wD ds a)), x1, x2, x3, none, none] := rfl
  obtain ⟨l, ρ', e, ⟨a', ha', rfl⟩, hs⟩ := lcGo_sub (ds := ([97, 98, 99, 100, 122] : Tx).map fun k => D.str [k]) (acc := []) (ρ := [some (.dct (wD ds a)), x1, x2, x3, none, none])
    (f := lcFn (callD P n) (.var 4) (.nm 4) (.cons (.cmp .eq (.df k_law_next (.bor 0 (.val (.cst (.int 2)) .nil))) (.cst (.int 0))) .nil) [4])
    (I := fun ρ => ∃ a', 0 ≤ a' ∧ ρ = [some (.dct (wD ds a')), x1, x2, x3, none, none]) (fun d hd ρ hI => by
      obtain ⟨a', ha', rfl⟩ := hI
      obtain ⟨i, h0, h1, e⟩ := next_ok (N := n) (by omega) ds ha' (m := 2) (by omega)
      refine ⟨decide (i = 0), [some (.dct (wD ds (a' + 1))), x1, x2, x3, none, none], ?_, ⟨a' + 1, by omega, rfl⟩⟩
      by_cases hi : i = 0
      · dsimp! [e, hi]
      · dsimp! [e, hi]) ⟨a, ha, rfl⟩ (by simp [mostLen])
  obtain ⟨t, et, hts⟩ := sub_chars hs
  exact ⟨t, l, a', ha', hts, et, lc_eq e1 (by simpa using e)⟩

theorem other_ok (n : Nat) (w x1 : Option OV) {one : D} (h : one ∈ [D.str s_a, D.str s_b, D.str s_c]) : ∃ (b c d : Nat), one = .str [b] ∧ True ∧ ∃ rows : List D, (∀ r ∈ rows, ∃ k, r = .str [k] ∧ Let k ∧ one ≠ r) ∧ rows ≠ [] ∧
    evE (callD P n) c_law_step_2 [w, x1, some (.fz one), none, none, none] = .ok (.lst rows) [w, x1, some (.fz one), none, none, none] := by
  simp at h
  rcases h with rfl | rfl | rfl
  · exact ⟨97, 0, 0, rfl, trivial, [.str [98], .str [99], .str [100]], by simp [Let], by simp, rfl⟩
  · exact ⟨98, 0, 0, rfl, trivial, [.str [97], .str [99], .str [100]], by simp [Let], by simp, rfl⟩
  · exact ⟨99, 0, 0, rfl, trivial, [.str [97], .str [98], .str [100]], by simp [Let], by simp, rfl⟩
theorem near_ok {bs : Tx} (h : bs.Sublist [97, 98, 99, 100, 122]) {w : Tx} {b c : Nat} (hw : w = s_before ∨ w = s_after) (hb : Let b) (hc : Let c) (hbc : b ≠ c) (hne : bs ≠ []) : (Stp.near w b c bs).Good := by
  refine ⟨hw, hb, hc, hbc, hne, fun k hk => ?_, List.Pairwise.sublist h (by decide), h.length_le⟩
  have := h.subset hk
  simp at this
  rcases this with rfl | rfl | rfl | rfl | rfl <;> simp [Let]
theorem near_a {w : Tx} {b c : Nat} (hw : w = s_before ∨ w = s_after) (hb : Let b) (hc : Let c) (hbc : b ≠ c) : (Stp.near w b c s_a).Good :=
  ⟨hw, hb, hc, hbc, by simp, by simp [Let], by simp, by simp⟩
theorem step_ok {N : Nat} (hN : 4 ≤ N) (ds : List Int) {a : Int} (ha : 0 ≤ a) : ∃ (s : Stp) (a' : Int), 0 ≤ a' ∧ s.Good ∧ callD P N k_law_step [.dct (wD ds a)] = .ok (.fz (.tup s.l)) [some (.dct (wD ds a'))] := by
  obtain ⟨n, rfl⟩ : ∃ n, N = n + 1 := ⟨N - 1, by omega⟩
  rw [call_eq (d := d_law_step) rfl rfl]
  obtain ⟨r, hr, e⟩ := pick_ok (N := n) (by omega) ds ha (rows := [D.str s_end, D.str s_front, D.str s_cut, D.str s_swap, D.str s_before, D.str s_after, D.str s_double, D.str s_cut, D.str s_end]) (by simp)
  have hw : r = .str s_end ∨ r = .str s_front ∨ r = .str s_cut ∨ r = .str s_double ∨ r = .str s_swap ∨ r = .str s_before ∨ r = .str s_after := by
    simp at hr
    rcases hr with rfl | rfl | rfl | rfl | rfl | rfl | rfl | rfl | rfl <;> simp
  have a1 : 0 ≤ a + 1 := by omega
  obtain ⟨i, i0, i1, e2⟩ := next_ok (N := n) (by omega) ds a1 (m := 3) (by omega)
  obtain ⟨t, a2, ha2, tl, tk, e3⟩ := letters_ok (N := n) (by omega) ds (show 0 ≤ a + 1 + 1 by omega) (m := 1 + i) (by omega) (by omega)
  have hp := Part.of tl i0 i1 tk
  obtain ⟨j, j0, j1, e4⟩ := next_ok (N := n) (by omega) ds a1 (m := 2) (by omega)
  obtain ⟨one, hone, e5⟩ := pick_ok (N := n) (by omega) ds a1 (rows := [D.str s_a, D.str s_b, D.str s_c]) (by simp)
  obtain ⟨b, _, _, rfl, _, rows, hrows, hne, e6⟩ := other_ok n (some (.dct (wD ds (a + 1 + 1)))) (some (.fz r)) hone
  obtain ⟨r2, hr2, e7⟩ := pick_ok (N := n) (by omega) ds (show 0 ≤ a + 1 + 1 by omega) hne
  obtain ⟨c, rfl, hc, hbc⟩ := hrows r2 hr2
  have hbc : b ≠ c := fun h => hbc (by rw [h])
  have hb : Let b := by simp at hone; rcases hone with h | h | h <;> (cases h; simp [Let])
  obtain ⟨bs, l, a3, ha3, hsub, hall, e8⟩ := beside_ok (n := n) (by omega) ds (show 0 ≤ a + 1 + 1 + 1 by omega) (some (.fz r)) (some (.fz (.str [b]))) (some (.fz (.str [c])))
  have hj := joinL_nil bs
  have hlen : bs.length ≤ 5 := hsub.length_le
  have hsum : (List.map ((fun x : Tx => List.length x) ∘ fun k => [k]) bs).sum ≤ 16777216 := by rw [← List.map_map, sum_singles]; omega
  rcases hw with rfl | rfl | rfl | rfl | rfl | rfl | rfl
  · refine ⟨.end_ t, a2, ha2, hp, ?_⟩
    simp_all! [b_law_step, e, e2, e3, Stp.l]
  · refine ⟨.front t, a2, ha2, hp, ?_⟩
    simp_all! [b_law_step, e, e2, e3, Stp.l]
  · refine ⟨.cut t, a2, ha2, hp, ?_⟩
    simp_all! [b_law_step, e, e2, e3, Stp.l]
  · refine ⟨.dbl (1 + j).toNat, a + 1 + 1, by omega, by show _ = 1 ∨ _ = 2; omega, ?_⟩
    have : ((1 + j).toNat : Int) = 1 + j := by omega
    simp_all! [b_law_step, e, e4, Stp.l, this]
  · refine ⟨.swap b c, a + 1 + 1 + 1, by omega, ⟨hb, hc, hbc⟩, ?_⟩
    simp_all! [b_law_step, e, e5, e6, e7, Stp.l]
  · have hs := near_ok hsub (w := s_before) (.inl rfl) hb hc hbc
    by_cases hbs : bs = []
    · refine ⟨.near s_before b c s_a, a3, ha3, near_a (.inl rfl) hb hc hbc, ?_⟩
      subst hbs
      simp_all! [b_law_step, e, e5, e6, e7, e8, Stp.l, hall, hj]
      rfl
    · refine ⟨.near s_before b c bs, a3, ha3, hs hbs, ?_⟩
      simp_all! [b_law_step, e, e5, e6, e7, e8, Stp.l, hall, hj, hsum, hbs]
  · have hs := near_ok hsub (w := s_after) (.inr rfl) hb hc hbc
    by_cases hbs : bs = []
    · refine ⟨.near s_after b c s_a, a3, ha3, near_a (.inr rfl) hb hc hbc, ?_⟩
      subst hbs
      simp_all! [b_law_step, e, e5, e6, e7, e8, Stp.l, hall, hj]
      rfl
    · refine ⟨.near s_after b c bs, a3, ha3, hs hbs, ?_⟩
      simp_all! [b_law_step, e, e5, e6, e7, e8, Stp.l, hall, hj, hsum, hbs]
end K16
end
section
set_option linter.all false
set_option autoImplicit false
set_option maxRecDepth 100000
set_option maxHeartbeats 2000000
open Ev
namespace K16
/-- what stands beside place k -/
def beside (w : Tx) (t : Tx) (k : Nat) : Option Nat := if w = s_before then t[k + 1]? else if k = 0 then none else t[k - 1]?
def nearC (w : Tx) (a b : Nat) (s : Tx) (t : Tx) (k c : Nat) : Nat := if c = a then (match beside w t k with | some d => if d ∈ s then b else c | none => c) else c
def Stp.app : Stp → Tx → Tx
  | .end_ p, t => t ++ p
  | .front p, t => p ++ t
  | .cut p, t => if p.isSuffixOf t then t.take (t.length - p.length) else t
  | .dbl n, t => t.take n ++ t
  | .swap a b, t => t.map fun c => if c = a then b else if c = b then a else c
  | .near w a b s, t => (List.range t.length).map fun k => nearC w a b s t k (t.getD k 0)
theorem suf_iff {p t : Tx} : p.isSuffixOf t = true ↔ p.length ≤ t.length ∧ t.drop (t.length - p.length) = p := by
  rw [List.isSuffixOf_iff_suffix]
  constructor
  · rintro ⟨u, rfl⟩
    refine ⟨by simp, ?_⟩
    rw [List.length_append, Nat.add_sub_cancel]; simp
  · rintro ⟨h1, h2⟩
    have := List.take_append_drop (t.length - p.length) t
    rw [h2] at this
    exact ⟨_, this⟩
theorem cut_lo (t : Tx) (m : Nat) : cut t (some ((t.length : Int) - m)) none = if m ≤ t.length then t.drop (t.length - m) else t.drop (t.length - (m - t.length)) := by
  unfold cut slIx
  by_cases h : m ≤ t.length
  · have e1 : ¬ ((t.length : Int) - m < 0) := by omega
    have e2 : ((t.length : Int) - m).toNat = t.length - m := by omega
    simp only [e1, if_false, e2, if_pos h]
    rw [Nat.min_eq_left (by omega), List.take_of_length_le (by simp)]
  · have e1 : ((t.length : Int) - m < 0) := by omega
    have e2 : ((t.length : Int) - m + t.length).toNat = t.length - (m - t.length) := by omega
    simp only [e1, if_true, e2, if_neg h]
    rw [List.take_of_length_le (by simp)]
theorem cut_hi (t : Tx) (m : Nat) (h : m ≤ t.length) : cut t none (some ((t.length : Int) - m)) = t.take (t.length - m) := by
  unfold cut slIx
  have e1 : ¬ ((t.length : Int) - m < 0) := by omega
  have e2 : ((t.length : Int) - m).toNat = t.length - m := by omega
  simp only [e1, if_false, e2]
  rw [Nat.min_eq_left (by omega)]; simp
theorem cut_n (t : Tx) (n : Nat) : cut t none (some (n : Int)) = t.take n := by
  unfold cut slIx
  have e1 : ¬ ((n : Int) < 0) := by omega
  simp only [e1, if_false, Int.toNat_natCast]
  by_cases h : n ≤ t.length
  · rw [Nat.min_eq_left h]; simp
  · rw [Nat.min_eq_right (by omega)]
    simp
    rw [List.take_of_length_le (by omega)]
theorem stepped_end {N : Nat} (hN : 1 ≤ N) {p t : Tx} (hl : t.length + p.length ≤ 16777216) : callD P N k_stepped [.fz (.tup [.str s_end, .str p]), .fz (.str t)] = .ok (.fz (.str (t ++ p))) [some (.fz (.tup [.str s_end, .str p])), some (.fz (.str t))] := by
  obtain ⟨n, rfl⟩ : ∃ n, N = n + 1 := ⟨N - 1, by omega⟩
  rw [call_eq (d := d_stepped) rfl rfl]
  simp_all! [b_stepped, hl]
  rfl
theorem stepped_front {N : Nat} (hN : 1 ≤ N) {p t : Tx} (hl : t.length + p.length ≤ 16777216) : callD P N k_stepped [.fz (.tup [.str s_front, .str p]), .fz (.str t)] = .ok (.fz (.str (p ++ t))) [some (.fz (.tup [.str s_front, .str p])), some (.fz (.str t))] := by
  obtain ⟨n, rfl⟩ : ∃ n, N = n + 1 := ⟨N - 1, by omega⟩
  rw [call_eq (d := d_stepped) rfl rfl]
  have hl' : p.length + t.length ≤ 16777216 := by omega
  simp_all! [b_stepped, hl']
  rfl
theorem stepped_cut {N : Nat} (hN : 1 ≤ N) {p t : Tx} (hl : t.length + p.length ≤ 16777216) : callD P N k_stepped [.fz (.tup [.str s_cut, .str p]), .fz (.str t)] = .ok (.fz (.str (if p.isSuffixOf t then t.take (t.length - p.length) else t))) [some (.fz (.tup [.str s_cut, .str p])), some (.fz (.str t))] := by
  obtain ⟨n, rfl⟩ : ∃ n, N = n + 1 := ⟨N - 1, by omega⟩
  rw [call_eq (d := d_stepped) rfl rfl]
  have h1 : t.length ≤ 16777216 := by omega
  have h2 : p.length ≤ 16777216 := by omega
  have h3 := cut_lo t p.length
  by_cases h : p.isSuffixOf t = true
  · obtain ⟨k1, k2⟩ := suf_iff.mp h
    have h4 := cut_hi t p.length k1
    rw [if_pos k1, k2] at h3
    have k3 : ¬ (t.length : Int) < p.length := by omega
    rw [if_pos h]
    simp_all! [b_stepped, h1, h2, h3, h4, k1, k3, endOf]
    rfl
  · rw [if_neg h]
    by_cases k1 : p.length ≤ t.length
    · rw [if_pos k1] at h3
      have k2 : ¬ t.drop (t.length - p.length) = p := fun e => h (suf_iff.mpr ⟨k1, e⟩)
      simp_all! [b_stepped, h1, h2, h3, k2, endOf]
      rfl
    · rw [if_neg k1] at h3
      have k2 : ¬ t.drop (t.length - (p.length - t.length)) = p := fun e => by
        have := congrArg List.length e
        rw [List.length_drop] at this
        omega
      simp_all! [b_stepped, h1, h2, h3, k2, endOf]
      rfl
theorem stepped_dbl {N : Nat} (hN : 1 ≤ N) {k : Nat} {t : Tx} (hl : t.length + t.length ≤ 16777216) : callD P N k_stepped [.fz (.tup [.str s_double, .int k]), .fz (.str t)] = .ok (.fz (.str (t.take k ++ t))) [some (.fz (.tup [.str s_double, .int k])), some (.fz (.str t))] := by
  obtain ⟨n, rfl⟩ : ∃ n, N = n + 1 := ⟨N - 1, by omega⟩
  rw [call_eq (d := d_stepped) rfl rfl]
  have h1 : t.length ≤ 16777216 := by omega
  have h2 := cut_n t k
  have h3 : min k t.length + t.length ≤ 16777216 := by omega
  simp_all! [b_stepped, h1, h2, h3, endOf]
  rfl
end K16
end
section
set_option linter.all false
set_option autoImplicit false
set_option maxRecDepth 100000
set_option maxHeartbeats 2000000
open Ev
namespace K16
theorem swapped_ok {N : Nat} (hN : 1 ≤ N) (c a b : Nat) : callD P N k_swapped [.fz (.str [c]), .fz (.str [a]), .fz (.str [b])] = .ok (.fz (.str [if c = a then b else if c = b then a else c])) [some (.fz (.str [c])), some (.fz (.str [a])), some (.fz (.str [b]))] := by
  obtain ⟨n, rfl⟩ : ∃ n, N = n + 1 := ⟨N - 1, by omega⟩
  rw [call_eq (d := d_swapped) rfl rfl]
  by_cases h : c = a
  · simp_all! [b_swapped, h]
    rfl
  · by_cases h2 : c = b
    · subst h2
      simp_all! [b_swapped, h]
      rfl
    · simp_all! [b_swapped, h, h2]
      rfl
theorem allS_chars (t : Tx) : allS (t.map fun c => D.str [c]) = some (t.map fun c => [c]) := by
  induction t with
  | nil => rfl
  | cons c t ih => simp [allS, ih]
theorem stepped_swap {N : Nat} (hN : 2 ≤ N) {a b : Nat} {t : Tx} (hl : t.length ≤ 16777216) : callD P N k_stepped [.fz (.tup [.str s_swap, .str [a], .str [b]]), .fz (.str t)] = .ok (.fz (.str (t.map fun c => if c = a then b else if c = b then a else c))) [some (.fz (.tup [.str s_swap, .str [a], .str [b]])), some (.fz (.str t))] := by
  obtain ⟨n, rfl⟩ : ∃ n, N = n + 1 := ⟨N - 1, by omega⟩
  rw [call_eq (d := d_stepped) rfl rfl]
  generalize hu : (t.map fun c => if c = a then b else if c = b then a else c) = u
  have hE : evE (callD P n) c_stepped_1 [some (.fz (.tup [.str s_swap, .str [a], .str [b]])), some (.fz (.str t)), some (.fz (.str s_swap)), none, none] = .ok (.lst (u.map fun c => .str [c])) [some (.fz (.tup [.str s_swap, .str [a], .str [b]])), some (.fz (.str t)), some (.fz (.str s_swap)), none, none] := by
    refine lc_eq (ds := t.map fun c => .str [c]) (ρ1 := [some (.fz (.tup [.str s_swap, .str [a], .str [b]])), some (.fz (.str t)), some (.fz (.str s_swap)), none, none]) (by dsimp! []) ?_
    have := lcGo_map (f := lcFn (callD P n) (.df k_swapped (.val (.var 4) (.val (.idx (.var 0) (.cst (.int 1))) (.val (.idx (.var 0) (.cst (.int 2))) .nil)))) (.nm 4) .nil [4]) (g := fun d => match d with | .str [c] => some (.str [if c = a then b else if c = b then a else c]) | _ => none) (ρ := [some (.fz (.tup [.str s_swap, .str [a], .str [b]])), some (.fz (.str t)), some (.fz (.str s_swap)), none, none]) (ds := t.map fun c => .str [c]) (acc := []) (fun d hd => by
      obtain ⟨c, _, rfl⟩ := List.mem_map.mp hd
      have e := swapped_ok (N := n) (by omega) c a b
      dsimp! [e]) (by simpa [mostLen] using hl)
    rw [this, List.filterMap_map, ← hu, List.map_map]
    congr 1
    rw [List.nil_append]
    clear this hl hu
    induction t with
    | nil => rfl
    | cons c t ih => simpa [List.filterMap_cons] using ih
  have hs := allS_chars u
  have hj := joinL_nil u
  have hlu : u.length = t.length := by rw [← hu]; simp
  have hsum : (List.map ((fun x : Tx => List.length x) ∘ fun k => [k]) u).sum ≤ 16777216 := by rw [← List.map_map, sum_singles]; omega
  simp_all! [b_stepped, hE, hs, hj, hsum]
  rfl
end K16
end
section
set_option linter.all false
set_option autoImplicit false
set_option maxRecDepth 100000
set_option maxHeartbeats 2000000
open Ev
namespace K16
theorem ends_eq (t p : Tx) : PySem.Txt.endswith ⟨t.toArray⟩ ⟨p.toArray⟩ = p.isSuffixOf t := by
  unfold PySem.Txt.endswith
  rw [PySem.StrLaws.subAt_eq]
  have e1 : PySem.Str.length ⟨t.toArray⟩ = t.length := by simp [PySem.Str.length]
  have e2 : PySem.Str.length ⟨p.toArray⟩ = p.length := by simp [PySem.Str.length]
  rw [e1, e2]
  by_cases h : p.isSuffixOf t = true
  · obtain ⟨k1, k2⟩ := suf_iff.mp h
    rw [h]
    simp [k1, k2]
  · rw [Bool.not_eq_true] at h
    rw [h]
    by_cases k1 : p.length ≤ t.length
    · have k2 : ¬ t.drop (t.length - p.length) = p := fun e => by rw [suf_iff.mpr ⟨k1, e⟩] at h; cases h
      have k3 : (t.drop (t.length - p.length)).take p.length = t.drop (t.length - p.length) := List.take_of_length_le (by rw [List.length_drop]; omega)
      simp [k1, k2, k3]
    · simp [k1]
theorem lstep_end {N : Nat} (hN : 1 ≤ N) {p t : Tx} (hl : t.length + p.length ≤ 16777216) : callD P N k_law_stepped [.fz (.tup [.str s_end, .str p]), .fz (.str t)] = .ok (.fz (.str (t ++ p))) [some (.fz (.tup [.str s_end, .str p])), some (.fz (.str t))] := by
  obtain ⟨n, rfl⟩ : ∃ n, N = n + 1 := ⟨N - 1, by omega⟩
  rw [call_eq (d := d_law_stepped) rfl rfl]
  simp_all! [b_law_stepped, hl]
  rfl
theorem lstep_front {N : Nat} (hN : 1 ≤ N) {p t : Tx} (hl : t.length + p.length ≤ 16777216) : callD P N k_law_stepped [.fz (.tup [.str s_front, .str p]), .fz (.str t)] = .ok (.fz (.str (p ++ t))) [some (.fz (.tup [.str s_front, .str p])), some (.fz (.str t))] := by
  obtain ⟨n, rfl⟩ : ∃ n, N = n + 1 := ⟨N - 1, by omega⟩
  rw [call_eq (d := d_law_stepped) rfl rfl]
  have hl' : p.length + t.length ≤ 16777216 := by omega
  simp_all! [b_law_stepped, hl']
  rfl
theorem lstep_cut {N : Nat} (hN : 1 ≤ N) {p t : Tx} (hl : t.length + p.length ≤ 16777216) : callD P N k_law_stepped [.fz (.tup [.str s_cut, .str p]), .fz (.str t)] = .ok (.fz (.str (if p.isSuffixOf t then t.take (t.length - p.length) else t))) [some (.fz (.tup [.str s_cut, .str p])), some (.fz (.str t))] := by
  obtain ⟨n, rfl⟩ : ∃ n, N = n + 1 := ⟨N - 1, by omega⟩
  rw [call_eq (d := d_law_stepped) rfl rfl]
  have h1 : t.length ≤ 16777216 := by omega
  have h2 : p.length ≤ 16777216 := by omega
  have h3 := ends_eq t p
  by_cases h : p.isSuffixOf t = true
  · obtain ⟨k1, k2⟩ := suf_iff.mp h
    have h4 := cut_hi t p.length k1
    rw [h] at h3
    rw [if_pos h]
    simp_all! [b_law_stepped, h1, h2, h3, h4, endOf]
    rfl
  · rw [if_neg h]
    rw [Bool.not_eq_true] at h
    rw [h] at h3
    simp_all! [b_law_stepped, h1, h2, h3, endOf]
    rfl
theorem lstep_dbl {N : Nat} (hN : 1 ≤ N) {k : Nat} {t : Tx} (hl : t.length + t.length ≤ 16777216) : callD P N k_law_stepped [.fz (.tup [.str s_double, .int k]), .fz (.str t)] = .ok (.fz (.str (t.take k ++ t))) [some (.fz (.tup [.str s_double, .int k])), some (.fz (.str t))] := by
  obtain ⟨n, rfl⟩ : ∃ n, N = n + 1 := ⟨N - 1, by omega⟩
  rw [call_eq (d := d_law_stepped) rfl rfl]
  have h1 : t.length ≤ 16777216 := by omega
  have h2 := cut_n t k
  have h3 : min k t.length + t.length ≤ 16777216 := by omega
  simp_all! [b_law_stepped, h1, h2, h3, endOf]
  rfl
end K16
end
section
set_option linter.all false
set_option autoImplicit false
set_option maxRecDepth 100000
namespace Ev
theorem okr {n : Nat} (h : n ≤ 100000000) : okRng (n : Int) = true := by
  have h1 : -(2 ^ 62) ≤ (n : Int) := by omega
  have h2 : (n : Int) < 2 ^ 62 := by omega
  generalize (n : Int) = m at h1 h2
  unfold okRng
  rw [decide_eq_true h1, decide_eq_true h2]; rfl
theorem it_rng {n : Nat} {r : Env} (h : okRng (n : Int) = true) : Res.of (((Opd.tmp (.fz (.int (n : Int)))).view r).bind fun x => match x with | .int j => if okRng j then some (rngOf 0 j.toNat) else none | _ => none) r = .ok (rngOf 0 n) r := by
  rw [ov_t, od_fz, Option.bind_some]
  generalize hm : (n : Int) = m at h
  have e : (if okRng m = true then some (rngOf 0 m.toNat) else none) = some (rngOf 0 n) := by rw [if_pos h, ← hm, Int.toNat_natCast]
  have e2 : (match D.int m with | .int j => if okRng j then some (rngOf 0 j.toNat) else none | _ => none) = (if okRng m = true then some (rngOf 0 m.toNat) else none) := rfl
  exact (congrArg (fun o => Res.of o r) (e2.trans e)).trans of_some
theorem it_r1 {cl : CL} {a : E} {n : Nat} {r : Env} (ho : ∀ q ρ, opd a q ρ = q.bd fun o ρ => .ok (.tmp o) ρ) (h : evE cl a r = .ok (.fz (.int n)) r) (hn : n ≤ 100000000) : evIt cl (.rng1 a) r = .ok (rngOf 0 n) r := by
  rw [evIt, ho, h, bd_ok, bd_ok]
  exact it_rng (okr hn)
theorem it_rv {cl : CL} {i n : Nat} {r : Env} (h : r.at i = some (.fz (.int n))) (hn : n ≤ 100000000) : evIt cl (.rng1 (.var i)) r = .ok (rngOf 0 n) r := by
  rw [evIt, opd_var, h]
  have e : (Opd.slot i).view r = (Opd.tmp (.fz (.int n))).view r := by rw [ov_s, h]; rfl
  simp only [bd_ok]
  rw [e]
  exact it_rng (okr hn)
theorem rngOf_map (n : Nat) : rngOf 0 n = (List.range n).map fun (k : Nat) => D.int (k : Int) := by
  unfold rngOf
  exact List.map_congr_left fun k _ => by rw [Int.zero_add]
/-- the turn of a comprehension, its items; the turn of a for, its items: by the term alone -/
def cmpF (cl : CL) : E → D → Env → Res (Option D)
  | .lc elt g _ ifs own => lcFn cl elt g ifs own
  | _ => fun _ _ => .bad
def lcI (cl : CL) : E → Env → Res (List D)
  | .lc _ _ it _ _ => evIt cl it
  | _ => fun _ => .bad
def isLc : E → Bool
  | .lc .. => true
  | _ => false
def lpF (cl : CL) : S → D → Env → Res Flow
  | .fors g _ b => forFn cl g b
  | _ => fun _ _ => .bad
def forI (cl : CL) : S → Env → Res (List D)
  | .fors _ it _ => evIt cl it
  | _ => fun _ => .bad
def isFor : S → Bool
  | .fors .. => true
  | _ => false
theorem forI_eq {cl : CL} {g : Tg} {it : It} {b : Ss} {r : Env} : forI cl (.fors g it b) r = evIt cl it r := rfl
theorem lcI_eq {cl : CL} {elt : E} {g : Tg} {it : It} {ifs : Es} {own : List Nat} {r : Env} : lcI cl (.lc elt g it ifs own) r = evIt cl it r := rfl
theorem lc2 {cl : CL} {c : E} {ρ ρ1 ρ2 : Env} {ds l : List D} (hc : isLc c = true) (h1 : lcI cl c ρ = .ok ds ρ1) (h2 : lcGo (cmpF cl c) ds [] ρ1 = .ok l ρ2) : evE cl c ρ = .ok (.lst l) ρ2 := by
  cases c <;> first | exact lc_eq h1 h2 | cases hc
theorem for2 {cl : CL} {s : S} {ρ ρ1 ρ2 : Env} {ds : List D} {fl : Flow} (hc : isFor s = true) (h1 : forI cl s ρ = .ok ds ρ1) (h2 : forGo (lpF cl s) ds ρ1 = .ok fl ρ2) : evS cl s ρ = .ok fl ρ2 := by
  cases s <;> first | exact for_eq h1 h2 | cases hc
/-- a comprehension over typed items, each kept or not -/
theorem lc_if {cl : CL} {c : E} {ρ : Env} {α : Type} {xs : List α} {e : α → D} {p : α → Bool} {r : α → D} (hc : isLc c = true) (h1 : lcI cl c ρ = .ok (xs.map e) ρ) (hl : xs.length ≤ mostLen)
    (h : ∀ x ∈ xs, cmpF cl c (e x) ρ = .ok (if p x then some (r x) else none) ρ) : evE cl c ρ = .ok (.lst ((xs.filter p).map r)) ρ := by
  refine lc2 hc h1 ?_
  have main : ∀ (xs : List α) (acc : List D), (∀ x ∈ xs, cmpF cl c (e x) ρ = .ok (if p x then some (r x) else none) ρ) → acc.length + xs.length ≤ mostLen → lcGo (cmpF cl c) (xs.map e) acc ρ = .ok (acc ++ (xs.filter p).map r) ρ := by
    intro xs
    induction xs with
    | nil => intro acc _ _; simp [lcGo]
    | cons x xs ih =>
      intro acc h hl
      simp only [List.length_cons] at hl
      rw [List.map_cons, lcGo, h x (by simp), bd_ok]
      cases hp : p x with
      | false =>
        simp only [Bool.false_eq_true, if_false]
        rw [ih acc (fun x hx => h x (List.mem_cons_of_mem _ hx)) (by omega), List.filter_cons, hp]; rfl
      | true =>
        simp only [if_true]
        rw [if_pos (by omega), ih _ (fun x hx => h x (List.mem_cons_of_mem _ hx)) (by rw [List.length_append]; simp; omega), List.filter_cons, hp]
        simp
  have := main xs [] h (by simpa using hl)
  rw [this, List.nil_append]
theorem lc_map {cl : CL} {c : E} {ρ : Env} {α : Type} {xs : List α} {e : α → D} {r : α → D} (hc : isLc c = true) (h1 : lcI cl c ρ = .ok (xs.map e) ρ) (hl : xs.length ≤ mostLen)
    (h : ∀ x ∈ xs, cmpF cl c (e x) ρ = .ok (some (r x)) ρ) : evE cl c ρ = .ok (.lst (xs.map r)) ρ := by
  have := lc_if (p := fun _ => true) hc h1 hl (fun x hx => by rw [h x hx]; rfl)
  rwa [List.filter_eq_self.mpr fun _ _ => rfl] at this
/-- a for over typed items: what holds before each turn, by the items done -/
theorem for_inv {cl : CL} {s : S} {ρ ρ1 : Env} {α : Type} {xs : List α} {e : α → D} (I : List α → Env → Prop) (hc : isFor s = true) (h1 : forI cl s ρ = .ok (xs.map e) ρ1) (h0 : I [] ρ1)
    (h : ∀ (pre : List α) (x : α) (post : List α) (ρ : Env), xs = pre ++ x :: post → I pre ρ → ∃ ρ', lpF cl s (e x) ρ = .ok .nx ρ' ∧ I (pre ++ [x]) ρ') : ∃ ρ', evS cl s ρ = .ok .nx ρ' ∧ I xs ρ' := by
  have main : ∀ (post pre : List α) (ρ : Env), xs = pre ++ post → I pre ρ → ∃ ρ', forGo (lpF cl s) (post.map e) ρ = .ok .nx ρ' ∧ I xs ρ' := by
    intro post
    induction post with
    | nil => intro pre ρ hx hI; exact ⟨ρ, rfl, by rw [hx, List.append_nil]; exact hI⟩
    | cons x post ih =>
      intro pre ρ hx hI
      obtain ⟨ρ', e1, h2⟩ := h pre x post ρ hx hI
      obtain ⟨ρ2, e2, h3⟩ := ih (pre ++ [x]) ρ' (by rw [hx]; simp) h2
      refine ⟨ρ2, ?_, h3⟩
      rw [List.map_cons, forGo, e1, bd_ok]
      exact e2
  obtain ⟨ρ', e1, h2⟩ := main xs [] ρ1 rfl h0
  exact ⟨ρ', for2 hc h1 e1, h2⟩
/-- a comprehension's turns over typed items -/
theorem lcGo_typ {f : D → Env → Res (Option D)} {ρ : Env} {α : Type} {e : α → D} {p : α → Bool} {r : α → D} : ∀ {xs : List α} {acc : List D}, (∀ x ∈ xs, f (e x) ρ = .ok (if p x then some (r x) else none) ρ) → acc.length + xs.length ≤ mostLen → lcGo f (xs.map e) acc ρ = .ok (acc ++ (xs.filter p).map r) ρ
  | [], acc, _, _ => by simp [lcGo]
  | x :: xs, acc, h, hl => by
    simp only [List.length_cons] at hl
    rw [List.map_cons, lcGo, h x (by simp), bd_ok]
    cases hp : p x with
    | false =>
      simp only [Bool.false_eq_true, if_false]
      rw [lcGo_typ (fun x hx => h x (List.mem_cons_of_mem _ hx)) (by omega), List.filter_cons, hp]; rfl
    | true =>
      simp only [if_true]
      rw [if_pos (by omega), lcGo_typ (fun x hx => h x (List.mem_cons_of_mem _ hx)) (by rw [List.length_append]; simp; omega), List.filter_cons, hp]
      simp
def isLc2 : E → Bool
  | .lc2 .. => true
  | _ => false
def lc2I (cl : CL) : E → Env → Res (List D)
  | .lc2 _ _ it _ _ _ _ _ => evIt cl it
  | _ => fun _ => .bad
/-- the outer turn of a comprehension with two sources -/
def lc2O (cl : CL) : E → D → List D → Env → Res (List D)
  | .lc2 elt g _ g1 it1 ifs own own1 => fun d acc ρb => (Res.of (Tg.put g (.fz d) (wipe ρb own)) ρb).bd fun ρg _ => (evIt cl it1 ρg).bd fun ds1 ρ1 => (lcGo (lcFn cl elt g1 ifs own1) ds1 acc ρ1).bd fun acc ρ2 => .ok acc (unwipe ρb ρ2 own)
  | _ => fun _ _ _ => .bad
theorem lc2_eq {cl : CL} {c : E} {ρ ρ1 ρ2 : Env} {ds l : List D} (hc : isLc2 c = true) (h1 : lc2I cl c ρ = .ok ds ρ1) (h2 : lcGo2 (lc2O cl c) ds [] ρ1 = .ok l ρ2) : evE cl c ρ = .ok (.lst l) ρ2 := by
  cases c with
  | lc2 elt g it g1 it1 ifs own own1 =>
    have e : evE cl (.lc2 elt g it g1 it1 ifs own own1) ρ = ((evIt cl it ρ).bd fun ds ρ => (lcGo2 (lc2O cl (.lc2 elt g it g1 it1 ifs own own1)) ds [] ρ).bd fun l ρ' => Res.ok (OV.lst l) ρ') := by rw [evE]; rfl
    rw [e, show evIt cl it ρ = .ok ds ρ1 from h1, bd_ok, h2, bd_ok]
  | _ => cases hc
theorem lc2_typ {cl : CL} {c : E} {ρ : Env} {α : Type} {xs : List α} {e : α → D} {f : α → List D} (hc : isLc2 c = true) (h1 : lc2I cl c ρ = .ok (xs.map e) ρ) (hl : (xs.flatMap f).length ≤ mostLen)
    (h : ∀ x ∈ xs, ∀ acc : List D, acc.length + (f x).length ≤ mostLen → lc2O cl c (e x) acc ρ = .ok (acc ++ f x) ρ) : evE cl c ρ = .ok (.lst (xs.flatMap f)) ρ := by
  refine lc2_eq hc h1 ?_
  have main : ∀ (xs : List α) (acc : List D), (∀ x ∈ xs, ∀ acc : List D, acc.length + (f x).length ≤ mostLen → lc2O cl c (e x) acc ρ = .ok (acc ++ f x) ρ) → acc.length + (xs.flatMap f).length ≤ mostLen → lcGo2 (lc2O cl c) (xs.map e) acc ρ = .ok (acc ++ xs.flatMap f) ρ := by
    intro xs
    induction xs with
    | nil => intro acc _ _; simp [lcGo2]
    | cons x xs ih =>
      intro acc h hl
      rw [List.flatMap_cons, List.length_append] at hl
      rw [List.map_cons, lcGo2, h x (by simp) acc (by omega), bd_ok, ih _ (fun y hy => h y (List.mem_cons_of_mem _ hy)) (by rw [List.length_append]; omega), List.flatMap_cons, List.append_assoc]
  have := main xs [] h (by simpa using hl)
  rw [this, List.nil_append]
/-- a comprehension over a list that a slot keeps -/
theorem lcx_map {cl : CL} {elt : E} {g : Tg} {i : Nat} {ifs : Es} {own : List Nat} {ρ : Env} {α : Type} {xs : List α} {e : α → D} {r : α → D} (hr : ρ.at i = some (.lst (xs.map e))) (hp : Env.put (ρ.set i none) i (.lst (xs.map e)) = ρ) (hl : xs.length ≤ mostLen)
    (h : ∀ x ∈ xs, lcFn cl elt g ifs own (e x) (ρ.set i none) = .ok (some (r x)) (ρ.set i none)) : evE cl (.lcx elt g i ifs own) ρ = .ok (.lst (xs.map r)) ρ := by
  have h2 := lcGo_typ (f := lcFn cl elt g ifs own) (ρ := ρ.set i none) (xs := xs) (e := e) (p := fun _ => true) (r := r) (acc := []) (fun x hx => by rw [h x hx]; rfl) (by simpa using hl)
  rw [List.filter_eq_self.mpr fun _ _ => rfl, List.nil_append] at h2
  have e1 : evE cl (.lcx elt g i ifs own) ρ = (match ρ.at i with
    | some (.lst ds) => (lcGo (lcFn cl elt g ifs own) ds [] (ρ.set i none)).bd fun l ρ' => Res.ok (OV.lst l) (ρ'.put i (.lst ds))
    | _ => .bad) := by rw [evE]; rfl
  rw [e1, hr]
  simp only
  rw [h2, bd_ok, hp]
end Ev
end
section
set_option linter.all false
set_option autoImplicit false
set_option maxRecDepth 100000
set_option maxHeartbeats 2000000
open Ev
namespace K16
theorem take_succ' (u : Tx) (k : Nat) (h : k < u.length) : u.take k ++ [u[k]] = u.take (k + 1) := by
  rw [List.take_add_one, List.getElem?_eq_getElem h]; rfl
theorem it_len {cl : CL} {t : Tx} {r : Env} {i : Nat} (hl : t.length ≤ 16777216) (hr : r.at i = some (.fz (.str t))) : evIt cl (.rng1 (.bi .len (.var i))) r = .ok (rngOf 0 t.length) r := by
  have e : evE cl (.bi .len (.var i)) r = .ok (.fz (.int t.length)) r := by dsimp! [hr, hl]
  rw [evIt, opd_bi, e, bd_ok, bd_ok]
  exact it_rng (okr (by omega))
theorem lstep_swap {N : Nat} (hN : 1 ≤ N) {a b : Nat} (hab : a ≠ b) {t : Tx} (hl : t.length ≤ 16777216) : callD P N k_law_stepped [.fz (.tup [.str s_swap, .str [a], .str [b]]), .fz (.str t)] = .ok (.fz (.str (t.map fun c => if c = a then b else if c = b then a else c))) [some (.fz (.tup [.str s_swap, .str [a], .str [b]])), some (.fz (.str t))] := by
  obtain ⟨n, rfl⟩ : ∃ n, N = n + 1 := ⟨N - 1, by omega⟩
  rw [call_eq (d := d_law_stepped) rfl rfl]
  generalize hu : (t.map fun c => if c = a then b else if c = b then a else c) = u
  have hul : u.length = t.length := by rw [← hu]; simp
  obtain ⟨ρ', e, x5, x6, rfl⟩ := forGo_ix (ds := rngOf 0 t.length) (ρ := [some (.fz (.tup [.str s_swap, .str [a], .str [b]])), some (.fz (.str t)), some (.fz (.str s_swap)), some (.fz (.str [a])), some (.fz (.str [])), none, none])
    (f := forFn (callD P n) (.nm 5) (.cons (.ifs (.cmp .eq (.var 2) (.cst (.str s_swap))) (.cons (.set (.nm 4) (.frz (.bin .add (.var 4) (.mt2 .get (.dct (.cons (.var 3) (.idx (.var 0) (.cst (.int 2))) (.cons (.idx (.var 0) (.cst (.int 2))) (.var 3) .nil))) (.idx (.var 1) (.var 5)) (.idx (.var 1) (.var 5)))))) .nil) (.cons (.set (.nm 6) (.frz (.ite (.cmp .eq (.var 2) (.cst (.str s_before))) (.slc (.var 1) (.bin .add (.var 5) (.cst (.int 1))) (.bin .add (.var 5) (.cst (.int 2)))) (.slc (.slc (.var 1) (.cst .non) (.var 5)) (.neg (.cst (.int 1))) (.cst .non))))) (.cons (.set (.nm 4) (.frz (.bin .add (.var 4) (.ite (.and (.cmp .eq (.idx (.var 1) (.var 5)) (.var 3)) (.and (.cmp .ne (.var 6) (.cst (.str s_))) (.cmp .isin (.var 6) (.idx (.var 0) (.cst (.int 3)))))) (.idx (.var 0) (.cst (.int 2))) (.idx (.var 1) (.var 5)))))) .nil))) .nil))
    (I := fun k ρ => ∃ x5 x6, ρ = [some (.fz (.tup [.str s_swap, .str [a], .str [b]])), some (.fz (.str t)), some (.fz (.str s_swap)), some (.fz (.str [a])), some (.fz (.str (u.take k))), x5, x6]) (fun k d ρ hd hI => by
      obtain ⟨hk, rfl⟩ := rng_get hd
      obtain ⟨x5, x6, rfl⟩ := hI
      refine ⟨_, ?_, some (.fz (.int k)), x6, rfl⟩
      have hk' : (k : Int) < t.length := by omega
      have e3 : u.take (k + 1) = u.take k ++ [if t[k] = a then b else if t[k] = b then a else t[k]] := by
        rw [← take_succ' u k (by omega)]
        congr 2
        subst hu
        simp
      rw [e3]
      have hb2 : ¬ b = a := fun h => hab h.symm
      have hlen : min k u.length + 1 ≤ 16777216 := by omega
      by_cases h1 : t[k] = a
      · have h1' : a = t[k] := h1.symm
        dsimp! [hl, hk, hk', m_get2, h1, hab, hb2, hlen]
      · have h1' : ¬ a = t[k] := fun h => h1 h.symm
        by_cases h2 : t[k] = b
        · dsimp! [hl, hk, hk', m_get2, h1, h2, hab, hb2, hlen]
        · have h2' : ¬ b = t[k] := fun h => h2 h.symm
          dsimp! [hl, hk, hk', m_get2, h1, h1', h2, h2', hab, hb2, hlen]) ⟨none, none, by simp⟩
  have hE : evS (callD P n) l_law_stepped_1 [some (.fz (.tup [.str s_swap, .str [a], .str [b]])), some (.fz (.str t)), some (.fz (.str s_swap)), some (.fz (.str [a])), some (.fz (.str [])), none, none] = .ok .nx _ := for_eq (it_len hl rfl) e
  rw [rngOf_length, ← hul, List.take_length] at hE
  simp_all! [b_law_stepped, hE]
  rfl
end K16
end
section
set_option linter.all false
set_option autoImplicit false
set_option maxRecDepth 100000
set_option maxHeartbeats 2000000
open Ev
namespace K16
theorem drop_take1 (t : Tx) (m : Nat) : (t.drop m).take 1 = t[m]?.toList := by rw [List.take_one, List.head?_drop]
theorem cut_one (t : Tx) (k : Nat) : cut t (some ((k : Int) + 1)) (some ((k : Int) + 2)) = t[k + 1]?.toList := by
  unfold cut slIx
  have e1 : ¬ ((k : Int) + 1 < 0) := by omega
  have e2 : ¬ ((k : Int) + 2 < 0) := by omega
  have e3 : ((k : Int) + 1).toNat = k + 1 := by omega
  have e4 : ((k : Int) + 2).toNat = k + 2 := by omega
  simp only [e1, e2, if_false, e3, e4]
  by_cases h : k + 2 ≤ t.length
  · rw [Nat.min_eq_left (show k + 1 ≤ t.length by omega), Nat.min_eq_left h, show k + 2 - (k + 1) = 1 by omega, drop_take1]
  · rw [List.getElem?_eq_none (by omega), show min (k + 2) t.length - min (k + 1) t.length = 0 by omega]; simp
theorem cut_bef {t : Tx} {k : Nat} (h0 : 0 < k) (hk : k ≤ t.length) : cut t (some ((k : Int) - 1)) (some (k : Int)) = t[k - 1]?.toList := by
  unfold cut slIx
  have e1 : ¬ ((k : Int) - 1 < 0) := by omega
  have e2 : ¬ ((k : Int) < 0) := by omega
  have e3 : ((k : Int) - 1).toNat = k - 1 := by omega
  simp only [e1, e2, if_false, e3, Int.toNat_natCast]
  rw [Nat.min_eq_left (show k - 1 ≤ t.length by omega), Nat.min_eq_left hk, show k - (k - 1) = 1 by omega, drop_take1]
theorem cut_last {t : Tx} {k : Nat} (hk : k ≤ t.length) : cut (t.take k) (some (-1)) none = (if k = 0 then none else t[k - 1]?).toList := by
  unfold cut slIx
  by_cases h : k = 0
  · subst h; simp
  · have hl : (t.take k).length = k := by rw [List.length_take]; omega
    rw [hl]
    have e1 : ((-1 : Int) < 0) := by omega
    have e2 : ((-1 : Int) + k).toNat = k - 1 := by omega
    simp only [e1, if_true, e2, if_neg h]
    rw [show k - (k - 1) = 1 by omega, drop_take1, List.getElem?_take_of_lt (by omega)]
theorem near_ret {N : Nat} (hN : 1 ≤ N) {w : Tx} (hw : w = s_before ∨ w = s_after) {a b s t : Tx} {k : Nat} (hk : k < t.length) (hl : t.length ≤ 16777216) : callD P N k_near [.fz (.str t), .fz (.int k), .fz (.tup [.str w, .str a, .str b, .str s])] = .ok (.fz (.str (beside w t k).toList)) [some (.fz (.str t)), some (.fz (.int k)), some (.fz (.tup [.str w, .str a, .str b, .str s]))] := by
  obtain ⟨n, rfl⟩ : ∃ n, N = n + 1 := ⟨N - 1, by omega⟩
  rw [call_eq (d := d_near) rfl rfl]
  rcases hw with rfl | rfl
  · have e := cut_one t k
    rw [show beside s_before t k = t[k + 1]? from if_pos rfl]
    generalize t[k + 1]?.toList = y at e
    simp_all! [b_near, hl, e, endOf]
    rfl
  · have hb : beside s_after t k = if k = 0 then none else t[k - 1]? := if_neg (by decide)
    rw [hb]
    by_cases h : k = 0
    · subst h
      simp_all! [b_near, hl, endOf]
      rfl
    · have h0 : 0 < k := by omega
      have e := cut_bef h0 (Nat.le_of_lt hk)
      rw [if_neg h]
      generalize t[k - 1]?.toList = y at e
      simp_all! [b_near, hl, e, endOf, h0]
      rfl
end K16
end
section
set_option linter.all false
set_option autoImplicit false
set_option maxRecDepth 100000
set_option maxHeartbeats 2000000
open Ev
namespace K16
theorem idx_at {t : Tx} {k c : Nat} (hl : t.length ≤ 16777216) (hc : t[k]? = some c) : idx2 (.str t) (.int (k : Int)) = some (.str [c]) := by
  obtain ⟨hkt, hc'⟩ := List.getElem?_eq_some_iff.mp hc
  have hk' : (k : Int) < t.length := by omega
  rw [x_s, if_pos (by simpa [mostLen] using hl)]
  simp [atI, ixOf, hk', hc', hc]
theorem take_map_range {t : Tx} {g : Nat → Nat} {k : Nat} (hk : k < t.length) : ((List.range t.length).map g).take (k + 1) = ((List.range t.length).map g).take k ++ [g k] := by
  rw [List.take_add_one, List.getElem?_map, List.getElem?_range hk]
  rfl
theorem cnr_turn {N : Nat} {w : Tx} {a b c : Nat} {s t : Tx} {k : Nat} {ds : List D} {x7 x8 x9 : Option OV} (hx : idx2 (.str t) (.int (k : Int)) = some (.str [c])) (hs : s.length ≤ 16777216) (hds : ds.length < 16777216)
    (he : callD P N k_near [.fz (.str t), .fz (.int k), .fz (.tup [.str w, .str [a], .str [b], .str s])] = .ok (.fz (.str (beside w t k).toList)) [some (.fz (.str t)), some (.fz (.int k)), some (.fz (.tup [.str w, .str [a], .str [b], .str s]))]) :
    ∃ y8 y9, forFn (callD P N) (.nm 7) (.cons (.set (.nm 8) (.frz (.df k_near (.val (.var 1) (.val (.var 7) (.val (.var 0) .nil)))))) (.cons (.set (.nm 9) (.and (.cmp .eq (.idx (.var 1) (.var 7)) (.var 3)) (.and (.cmp .ne (.var 8) (.cst (.str s_))) (.cmp .isin (.var 8) (.var 5))))) (.cons (.ex (.mu1 .append 6 (.ite (.var 9) (.var 4) (.idx (.var 1) (.var 7))))) .nil))) (.int k) [some (.fz (.tup [.str w, .str [a], .str [b], .str s])), some (.fz (.str t)), some (.fz (.str w)), some (.fz (.str [a])), some (.fz (.str [b])), some (.fz (.str s)), some (.lst ds), x7, x8, x9] =
    .ok .nx [some (.fz (.tup [.str w, .str [a], .str [b], .str s])), some (.fz (.str t)), some (.fz (.str w)), some (.fz (.str [a])), some (.fz (.str [b])), some (.fz (.str s)), some (.lst (ds ++ [.str [nearC w a b s t k c]])), some (.fz (.int k)), y8, y9] := by
  by_cases h1 : c = a
  · subst h1
    cases hb : beside w t k with
    | none =>
      rw [show nearC w c b s t k c = c by simp [nearC, hb]]
      rw [hb] at he
      simp only [Option.toList_none] at he
      refine ⟨some (.fz (.str [])), some (.fz (.bl false)), ?_⟩
      dsimp! [↓hx, he, hds, hs]
    | some d =>
      rw [hb] at he
      simp only [Option.toList_some] at he
      by_cases h2 : d ∈ s
      · rw [show nearC w c b s t k c = b by simp [nearC, hb, h2]]
        refine ⟨some (.fz (.str [d])), some (.fz (.bl true)), ?_⟩
        dsimp! [↓hx, he, hds, hs, h2]
      · rw [show nearC w c b s t k c = c by simp [nearC, hb, h2]]
        refine ⟨some (.fz (.str [d])), some (.fz (.bl false)), ?_⟩
        dsimp! [↓hx, he, hds, hs, h2]
  · rw [show nearC w a b s t k c = c by simp [nearC, h1]]
    generalize (beside w t k).toList = y at he
    refine ⟨some (.fz (.str y)), some (.fz (.bl false)), ?_⟩
    dsimp! [↓hx, he, hds, hs, h1]
theorem cnr_loop {N : Nat} (hN : 1 ≤ N) {w : Tx} (hw : w = s_before ∨ w = s_after) {a b : Nat} {s t : Tx} (hl : t.length ≤ 16777216) (hs : s.length ≤ 16777216) : ∃ x7 x8 x9, evS (callD P N) l_changed_near_1 [some (.fz (.tup [.str w, .str [a], .str [b], .str s])), some (.fz (.str t)), some (.fz (.str w)), some (.fz (.str [a])), some (.fz (.str [b])), some (.fz (.str s)), some (.lst []), none, none, none] = .ok .nx [some (.fz (.tup [.str w, .str [a], .str [b], .str s])), some (.fz (.str t)), some (.fz (.str w)), some (.fz (.str [a])), some (.fz (.str [b])), some (.fz (.str s)), some (.lst (((Stp.near w a b s).app t).map fun c => .str [c])), x7, x8, x9] := by
  generalize hu : (Stp.near w a b s).app t = u
  have hul : u.length = t.length := by rw [← hu]; simp [Stp.app]
  obtain ⟨ρ', e, x7, x8, x9, rfl⟩ := forGo_ix (ds := rngOf 0 t.length) (ρ := [some (.fz (.tup [.str w, .str [a], .str [b], .str s])), some (.fz (.str t)), some (.fz (.str w)), some (.fz (.str [a])), some (.fz (.str [b])), some (.fz (.str s)), some (.lst []), none, none, none])
    (f := forFn (callD P N) (.nm 7) (.cons (.set (.nm 8) (.frz (.df k_near (.val (.var 1) (.val (.var 7) (.val (.var 0) .nil)))))) (.cons (.set (.nm 9) (.and (.cmp .eq (.idx (.var 1) (.var 7)) (.var 3)) (.and (.cmp .ne (.var 8) (.cst (.str s_))) (.cmp .isin (.var 8) (.var 5))))) (.cons (.ex (.mu1 .append 6 (.ite (.var 9) (.var 4) (.idx (.var 1) (.var 7))))) .nil))))
    (I := fun k ρ => ∃ x7 x8 x9, ρ = [some (.fz (.tup [.str w, .str [a], .str [b], .str s])), some (.fz (.str t)), some (.fz (.str w)), some (.fz (.str [a])), some (.fz (.str [b])), some (.fz (.str s)), some (.lst ((u.take k).map fun c => .str [c])), x7, x8, x9]) (fun k d ρ hd hI => by
      obtain ⟨hk, rfl⟩ := rng_get hd
      obtain ⟨x7, x8, x9, rfl⟩ := hI
      obtain ⟨c, hc⟩ : ∃ c, t[k]? = some c := ⟨_, List.getElem?_eq_getElem hk⟩
      have hx := idx_at hl hc
      have e3 : u.take (k + 1) = u.take k ++ [nearC w a b s t k c] := by
        rw [← hu, Stp.app, take_map_range hk, List.getD_eq_getElem?_getD, hc]
        rfl
      have hds : ((u.take k).map fun c => D.str [c]).length < 16777216 := by rw [List.length_map, List.length_take]; omega
      obtain ⟨y8, y9, e⟩ := cnr_turn (x7 := x7) (x8 := x8) (x9 := x9) (a := a) (b := b) hx hs hds (near_ret hN hw hk hl)
      refine ⟨_, e, some (.fz (.int k)), y8, y9, ?_⟩
      rw [e3, List.map_append]
      rfl) ⟨none, none, none, rfl⟩
  have ht : u.take (rngOf 0 t.length).length = u := by rw [rngOf_length, ← hul, List.take_length]
  rw [ht] at e
  exact ⟨x7, x8, x9, for_eq (cl := callD P N) (it_len (cl := callD P N) hl rfl) e⟩
theorem changed_near_ok {N : Nat} (hN : 2 ≤ N) {w : Tx} (hw : w = s_before ∨ w = s_after) {a b : Nat} {s t : Tx} (hl : t.length ≤ 16777216) (hs : s.length ≤ 16777216) : callD P N k_changed_near [.fz (.tup [.str w, .str [a], .str [b], .str s]), .fz (.str t)] = .ok (.fz (.str ((Stp.near w a b s).app t))) [some (.fz (.tup [.str w, .str [a], .str [b], .str s])), some (.fz (.str t))] := by
  obtain ⟨n, rfl⟩ : ∃ n, N = n + 1 := ⟨N - 1, by omega⟩
  rw [call_eq (d := d_changed_near) rfl rfl]
  obtain ⟨x7, x8, x9, hE⟩ := cnr_loop (N := n) (by omega) hw (a := a) (b := b) hl hs
  generalize hu : (Stp.near w a b s).app t = u at hE
  have hul : u.length = t.length := by rw [← hu]; simp [Stp.app]
  have hs' := allS_chars u
  have hj := joinL_nil u
  have hsum : (List.map ((fun x : Tx => List.length x) ∘ fun k => [k]) u).sum ≤ 16777216 := by rw [← List.map_map, sum_singles]; omega
  simp_all! [b_changed_near, hE, hs', hj, hsum]
  rfl
end K16
end
section
set_option linter.all false
set_option autoImplicit false
set_option maxRecDepth 100000
set_option maxHeartbeats 2000000
open Ev
namespace K16
theorem stepped_near {N : Nat} (hN : 3 ≤ N) {w : Tx} (hw : w = s_before ∨ w = s_after) {a b : Nat} {s t : Tx} (hl : t.length ≤ 16777216) (hs : s.length ≤ 16777216) : callD P N k_stepped [.fz (.tup [.str w, .str [a], .str [b], .str s]), .fz (.str t)] = .ok (.fz (.str ((Stp.near w a b s).app t))) [some (.fz (.tup [.str w, .str [a], .str [b], .str s])), some (.fz (.str t))] := by
  obtain ⟨n, rfl⟩ : ∃ n, N = n + 1 := ⟨N - 1, by omega⟩
  have e := changed_near_ok (N := n) (by omega) hw (a := a) (b := b) hl hs
  rw [call_eq (d := d_stepped) rfl rfl]
  rcases hw with rfl | rfl
  · generalize (Stp.near s_before a b s).app t = u at e
    simp_all! [b_stepped, e]
    rfl
  · generalize (Stp.near s_after a b s).app t = u at e
    simp_all! [b_stepped, e]
    rfl
theorem lnr_gen {cl : CL} {X : E} {w : Tx} (hw : w = s_before ∨ w = s_after) {a b c : Nat} {s t u : Tx} {k : Nat} {x5 x6 : Option OV} (hx : idx2 (.str t) (.int (k : Int)) = some (.str [c])) (hk : k < t.length) (hl : t.length ≤ 16777216) (hs : s.length ≤ 16777216) (hul : u.length + 1 ≤ 16777216) (hsl : ∀ {x6 : Option OV}, evE cl X [some (.fz (.tup [.str w, .str [a], .str [b], .str s])), some (.fz (.str t)), some (.fz (.str w)), some (.fz (.str [a])), some (.fz (.str u)), some (.fz (.int k)), x6] = .ok (.fz (.str (beside w t k).toList)) [some (.fz (.tup [.str w, .str [a], .str [b], .str s])), some (.fz (.str t)), some (.fz (.str w)), some (.fz (.str [a])), some (.fz (.str u)), some (.fz (.int k)), x6]) :
    ∃ y6, forFn cl (.nm 5) (.cons (.ifs (.cmp .eq (.var 2) (.cst (.str s_swap))) (.cons (.set (.nm 4) (.frz (.bin .add (.var 4) (.mt2 .get (.dct (.cons (.var 3) (.idx (.var 0) (.cst (.int 2))) (.cons (.idx (.var 0) (.cst (.int 2))) (.var 3) .nil))) (.idx (.var 1) (.var 5)) (.idx (.var 1) (.var 5)))))) .nil) (.cons (.set (.nm 6) (.frz X)) (.cons (.set (.nm 4) (.frz (.bin .add (.var 4) (.ite (.and (.cmp .eq (.idx (.var 1) (.var 5)) (.var 3)) (.and (.cmp .ne (.var 6) (.cst (.str s_))) (.cmp .isin (.var 6) (.idx (.var 0) (.cst (.int 3)))))) (.idx (.var 0) (.cst (.int 2))) (.idx (.var 1) (.var 5)))))) .nil))) .nil) (.int k) [some (.fz (.tup [.str w, .str [a], .str [b], .str s])), some (.fz (.str t)), some (.fz (.str w)), some (.fz (.str [a])), some (.fz (.str u)), x5, x6] =
    .ok .nx [some (.fz (.tup [.str w, .str [a], .str [b], .str s])), some (.fz (.str t)), some (.fz (.str w)), some (.fz (.str [a])), some (.fz (.str (u ++ [nearC w a b s t k c]))), some (.fz (.int k)), y6] := by
  refine ⟨some (.fz (.str (beside w t k).toList)), ?_⟩
  have hsw : ¬ w = s_swap := by rcases hw with rfl | rfl <;> decide
  by_cases h1 : c = a
  · subst h1
    cases hb : beside w t k with
    | none =>
      rw [show nearC w c b s t k c = c by simp [nearC, hb]]
      simp only [hb, Option.toList_none] at hsl ⊢
      dsimp! [↓hx, hsl, hul, hs, hsw]
    | some d =>
      simp only [hb, Option.toList_some] at hsl ⊢
      by_cases h2 : d ∈ s
      · rw [show nearC w c b s t k c = b by simp [nearC, hb, h2]]
        dsimp! [↓hx, hsl, hul, hs, h2, hsw]
      · rw [show nearC w c b s t k c = c by simp [nearC, hb, h2]]
        dsimp! [↓hx, hsl, hul, hs, h2, hsw]
  · rw [show nearC w a b s t k c = c by simp [nearC, h1]]
    generalize (beside w t k).toList = y at hsl
    dsimp! [↓hx, hsl, hul, hs, h1, hsw]
theorem lnr_turn {cl : CL} {w : Tx} (hw : w = s_before ∨ w = s_after) {a b c : Nat} {s t u : Tx} {k : Nat} {x5 x6 : Option OV} (hx : idx2 (.str t) (.int (k : Int)) = some (.str [c])) (hk : k < t.length) (hl : t.length ≤ 16777216) (hs : s.length ≤ 16777216) (hul : u.length + 1 ≤ 16777216) :
    ∃ y6, forFn cl (.nm 5) (.cons (.ifs (.cmp .eq (.var 2) (.cst (.str s_swap))) (.cons (.set (.nm 4) (.frz (.bin .add (.var 4) (.mt2 .get (.dct (.cons (.var 3) (.idx (.var 0) (.cst (.int 2))) (.cons (.idx (.var 0) (.cst (.int 2))) (.var 3) .nil))) (.idx (.var 1) (.var 5)) (.idx (.var 1) (.var 5)))))) .nil) (.cons (.set (.nm 6) (.frz (.ite (.cmp .eq (.var 2) (.cst (.str s_before))) (.slc (.var 1) (.bin .add (.var 5) (.cst (.int 1))) (.bin .add (.var 5) (.cst (.int 2)))) (.slc (.slc (.var 1) (.cst .non) (.var 5)) (.neg (.cst (.int 1))) (.cst .non))))) (.cons (.set (.nm 4) (.frz (.bin .add (.var 4) (.ite (.and (.cmp .eq (.idx (.var 1) (.var 5)) (.var 3)) (.and (.cmp .ne (.var 6) (.cst (.str s_))) (.cmp .isin (.var 6) (.idx (.var 0) (.cst (.int 3)))))) (.idx (.var 0) (.cst (.int 2))) (.idx (.var 1) (.var 5)))))) .nil))) .nil) (.int k) [some (.fz (.tup [.str w, .str [a], .str [b], .str s])), some (.fz (.str t)), some (.fz (.str w)), some (.fz (.str [a])), some (.fz (.str u)), x5, x6] =
    .ok .nx [some (.fz (.tup [.str w, .str [a], .str [b], .str s])), some (.fz (.str t)), some (.fz (.str w)), some (.fz (.str [a])), some (.fz (.str (u ++ [nearC w a b s t k c]))), some (.fz (.int k)), y6] := by
  have hsl : ∀ {x6 : Option OV}, evE cl (.ite (.cmp .eq (.var 2) (.cst (.str s_before))) (.slc (.var 1) (.bin .add (.var 5) (.cst (.int 1))) (.bin .add (.var 5) (.cst (.int 2)))) (.slc (.slc (.var 1) (.cst .non) (.var 5)) (.neg (.cst (.int 1))) (.cst .non))) [some (.fz (.tup [.str w, .str [a], .str [b], .str s])), some (.fz (.str t)), some (.fz (.str w)), some (.fz (.str [a])), some (.fz (.str u)), some (.fz (.int k)), x6] = .ok (.fz (.str (beside w t k).toList)) [some (.fz (.tup [.str w, .str [a], .str [b], .str s])), some (.fz (.str t)), some (.fz (.str w)), some (.fz (.str [a])), some (.fz (.str u)), some (.fz (.int k)), x6] := by
    intro x6
    rcases hw with rfl | rfl
    · have e := cut_one t k
      rw [show beside s_before t k = t[k + 1]? from if_pos rfl]
      generalize t[k + 1]?.toList = y at e
      dsimp! [hl, e, endOf]
    · have e := cut_last (Nat.le_of_lt hk)
      rw [show beside s_after t k = if k = 0 then none else t[k - 1]? from if_neg (by decide)]
      generalize (if k = 0 then none else t[k - 1]?).toList = y at e
      have e2 := cut_n t k
      generalize hv : t.take k = v at e e2
      have hvl : v.length ≤ 16777216 := by rw [← hv, List.length_take]; omega
      dsimp! [hl, e, e2, endOf, hvl]
  exact lnr_gen hw hx hk hl hs hul hsl
theorem lnr_loop {N : Nat} {w : Tx} (hw : w = s_before ∨ w = s_after) {a b : Nat} {s t : Tx} (hl : t.length ≤ 16777216) (hs : s.length ≤ 16777216) : ∃ x5 x6, evS (callD P N) l_law_stepped_1 [some (.fz (.tup [.str w, .str [a], .str [b], .str s])), some (.fz (.str t)), some (.fz (.str w)), some (.fz (.str [a])), some (.fz (.str [])), none, none] = .ok .nx [some (.fz (.tup [.str w, .str [a], .str [b], .str s])), some (.fz (.str t)), some (.fz (.str w)), some (.fz (.str [a])), some (.fz (.str ((Stp.near w a b s).app t))), x5, x6] := by
  generalize hu : (Stp.near w a b s).app t = u
  have hul : u.length = t.length := by rw [← hu]; simp [Stp.app]
  obtain ⟨ρ', e, x5, x6, rfl⟩ := forGo_ix (ds := rngOf 0 t.length) (ρ := [some (.fz (.tup [.str w, .str [a], .str [b], .str s])), some (.fz (.str t)), some (.fz (.str w)), some (.fz (.str [a])), some (.fz (.str [])), none, none])
    (f := forFn (callD P N) (.nm 5) (.cons (.ifs (.cmp .eq (.var 2) (.cst (.str s_swap))) (.cons (.set (.nm 4) (.frz (.bin .add (.var 4) (.mt2 .get (.dct (.cons (.var 3) (.idx (.var 0) (.cst (.int 2))) (.cons (.idx (.var 0) (.cst (.int 2))) (.var 3) .nil))) (.idx (.var 1) (.var 5)) (.idx (.var 1) (.var 5)))))) .nil) (.cons (.set (.nm 6) (.frz (.ite (.cmp .eq (.var 2) (.cst (.str s_before))) (.slc (.var 1) (.bin .add (.var 5) (.cst (.int 1))) (.bin .add (.var 5) (.cst (.int 2)))) (.slc (.slc (.var 1) (.cst .non) (.var 5)) (.neg (.cst (.int 1))) (.cst .non))))) (.cons (.set (.nm 4) (.frz (.bin .add (.var 4) (.ite (.and (.cmp .eq (.idx (.var 1) (.var 5)) (.var 3)) (.and (.cmp .ne (.var 6) (.cst (.str s_))) (.cmp .isin (.var 6) (.idx (.var 0) (.cst (.int 3)))))) (.idx (.var 0) (.cst (.int 2))) (.idx (.var 1) (.var 5)))))) .nil))) .nil))
    (I := fun k ρ => ∃ x5 x6, ρ = [some (.fz (.tup [.str w, .str [a], .str [b], .str s])), some (.fz (.str t)), some (.fz (.str w)), some (.fz (.str [a])), some (.fz (.str (u.take k))), x5, x6]) (fun k d ρ hd hI => by
      obtain ⟨hk, rfl⟩ := rng_get hd
      obtain ⟨x5, x6, rfl⟩ := hI
      obtain ⟨c, hc⟩ : ∃ c, t[k]? = some c := ⟨_, List.getElem?_eq_getElem hk⟩
      have e3 : u.take (k + 1) = u.take k ++ [nearC w a b s t k c] := by
        rw [← hu, Stp.app, take_map_range hk, List.getD_eq_getElem?_getD, hc]
        rfl
      have hlen : (u.take k).length + 1 ≤ 16777216 := by rw [List.length_take]; omega
      obtain ⟨y6, e⟩ := lnr_turn (cl := callD P N) (x5 := x5) (x6 := x6) hw (a := a) (b := b) (idx_at hl hc) hk hl hs hlen
      refine ⟨_, e, some (.fz (.int k)), y6, ?_⟩
      rw [e3]) ⟨none, none, rfl⟩
  have ht : u.take (rngOf 0 t.length).length = u := by rw [rngOf_length, ← hul, List.take_length]
  rw [ht] at e
  exact ⟨x5, x6, for_eq (cl := callD P N) (it_len (cl := callD P N) hl rfl) e⟩
theorem lstep_near {N : Nat} (hN : 1 ≤ N) {w : Tx} (hw : w = s_before ∨ w = s_after) {a b : Nat} {s t : Tx} (hl : t.length ≤ 16777216) (hs : s.length ≤ 16777216) : callD P N k_law_stepped [.fz (.tup [.str w, .str [a], .str [b], .str s]), .fz (.str t)] = .ok (.fz (.str ((Stp.near w a b s).app t))) [some (.fz (.tup [.str w, .str [a], .str [b], .str s])), some (.fz (.str t))] := by
  obtain ⟨n, rfl⟩ : ∃ n, N = n + 1 := ⟨N - 1, by omega⟩
  rw [call_eq (d := d_law_stepped) rfl rfl]
  obtain ⟨x5, x6, hE⟩ := lnr_loop (N := n) hw (a := a) (b := b) hl hs
  rcases hw with rfl | rfl
  · generalize (Stp.near s_before a b s).app t = u at hE
    simp_all! [b_law_stepped, hE]
    rfl
  · generalize (Stp.near s_after a b s).app t = u at hE
    simp_all! [b_law_stepped, hE]
    rfl
end K16
end
section
set_option linter.all false
set_option autoImplicit false
set_option maxRecDepth 100000
set_option maxHeartbeats 2000000
open Ev
namespace K16
theorem app_len {s : Stp} (hs : s.Good) (t : Tx) : (s.app t).length ≤ t.length + 6 := by
  cases s with
  | end_ p => have := hs.2.1; simp only [Stp.app, List.length_append]; omega
  | front p => have := hs.2.1; simp only [Stp.app, List.length_append]; omega
  | cut p =>
    simp only [Stp.app]
    split
    · rw [List.length_take]; omega
    · omega
  | dbl n =>
    simp only [Stp.app, List.length_append, List.length_take]
    rcases hs with rfl | rfl <;> omega
  | swap a b => simp only [Stp.app, List.length_map]; omega
  | near w a b s => simp only [Stp.app, List.length_map, List.length_range]; omega
theorem stepped_ok {N : Nat} (hN : 3 ≤ N) {s : Stp} (hs : s.Good) {t : Tx} (hl : t.length ≤ 1000000) : callD P N k_stepped [.fz (.tup s.l), .fz (.str t)] = .ok (.fz (.str (s.app t))) [some (.fz (.tup s.l)), some (.fz (.str t))] := by
  cases s with
  | end_ p => have := hs.2.1; exact stepped_end (by omega) (by omega)
  | front p => have := hs.2.1; exact stepped_front (by omega) (by omega)
  | cut p => have := hs.2.1; exact stepped_cut (by omega) (by omega)
  | dbl n => exact stepped_dbl (by omega) (by omega)
  | swap a b => exact stepped_swap (by omega) (by omega)
  | near w a b s => exact stepped_near hN hs.1 (by omega) (by have := hs.2.2.2.2.2.2.2; omega)
theorem lstep_ok {N : Nat} (hN : 1 ≤ N) {s : Stp} (hs : s.Good) {t : Tx} (hl : t.length ≤ 1000000) : callD P N k_law_stepped [.fz (.tup s.l), .fz (.str t)] = .ok (.fz (.str (s.app t))) [some (.fz (.tup s.l)), some (.fz (.str t))] := by
  cases s with
  | end_ p => have := hs.2.1; exact lstep_end (by omega) (by omega)
  | front p => have := hs.2.1; exact lstep_front (by omega) (by omega)
  | cut p => have := hs.2.1; exact lstep_cut (by omega) (by omega)
  | dbl n => exact lstep_dbl (by omega) (by omega)
  | swap a b => exact lstep_swap (by omega) hs.2.2 (by omega)
  | near w a b s => exact lstep_near (by omega) hs.1 (by omega) (by have := hs.2.2.2.2.2.2.2; omega)
end K16
end
section
set_option linter.all false
set_option autoImplicit false
set_option maxRecDepth 100000
set_option maxHeartbeats 2000000
open Ev
namespace K16
def forms : List Stp → Tx → List Tx
  | [], t => [t]
  | s :: ss, t => t :: forms ss (s.app t)
def endf : List Stp → Tx → Tx
  | [], t => t
  | s :: ss, t => endf ss (s.app t)
def chD (ss : List Stp) : List D := ss.map fun s => .tup s.l
theorem idx_last (l : List D) (x : D) : idx2 (.lst (l ++ [x])) (.int (-1)) = some x := by
  rw [x_l]
  have e : ((-1 : Int) + ((l.length : Int) + 1)).toNat = l.length := by omega
  simp [atI, ixOf]
  rw [if_pos (by omega), e]
  simp
theorem fow_turn {N : Nat} (hN : 3 ≤ N) {s : Stp} (hs : s.Good) {t : Tx} (hl : t.length ≤ 1000000) {x0 x1 x3 : Option OV} {acc : List D} (ha : acc.length + 1 < 16777216) : forFn (callD P N) (.nm 3) (.cons (.ex (.mu1 .append 2 (.df k_stepped (.val (.var 3) (.val (.idx (.var 2) (.neg (.cst (.int 1)))) .nil))))) .nil) (.tup s.l) [x0, x1, some (.lst (acc ++ [.str t])), x3] = .ok .nx [x0, x1, some (.lst (acc ++ [.str t] ++ [.str (s.app t)])), some (.fz (.tup s.l))] := by
  have e := stepped_ok hN hs hl
  have hi := idx_last acc (.str t)
  have hlen : (acc ++ [D.str t]).length < 16777216 := by simp; omega
  generalize acc ++ [D.str t] = l at hi hlen
  generalize s.app t = u at e
  generalize s.l = z at e
  dsimp! [↓hi, e, hlen]
theorem forms_ne (ss : List Stp) (t : Tx) : ∃ l, forms ss t = l ++ [endf ss t] := by
  induction ss generalizing t with
  | nil => exact ⟨[], rfl⟩
  | cons s ss ih =>
    obtain ⟨l, e⟩ := ih (s.app t)
    exact ⟨t :: l, by rw [forms, e]; rfl⟩
theorem fow_loop {N : Nat} (hN : 3 ≤ N) {x0 x1 : Option OV} : ∀ {ss : List Stp}, (∀ s ∈ ss, s.Good) → ∀ {t : Tx} {acc : List D} {x3 : Option OV}, t.length + 6 * ss.length ≤ 1000000 → acc.length + ss.length < 1000000 → ∃ y3, forGo (forFn (callD P N) (.nm 3) (.cons (.ex (.mu1 .append 2 (.df k_stepped (.val (.var 3) (.val (.idx (.var 2) (.neg (.cst (.int 1)))) .nil))))) .nil)) (chD ss) [x0, x1, some (.lst (acc ++ [.str t])), x3] = .ok .nx [x0, x1, some (.lst (acc ++ (forms ss t).map .str)), y3]
  | [], _, t, acc, x3, _, _ => ⟨x3, rfl⟩
  | s :: ss, hg, t, acc, x3, hl, ha => by
    simp only [List.length_cons] at hl ha
    have hs := hg s (by simp)
    have hal := app_len hs t
    obtain ⟨y3, e⟩ := fow_loop hN (ss := ss) (fun s h => hg s (List.mem_cons_of_mem _ h)) (t := s.app t) (acc := acc ++ [.str t]) (x3 := some (.fz (.tup s.l))) (by omega) (by rw [List.length_append, List.length_singleton]; omega)
    refine ⟨y3, ?_⟩
    have e1 := fow_turn hN hs (t := t) (by omega) (x0 := x0) (x1 := x1) (x3 := x3) (acc := acc) (by omega)
    show forGo _ (.tup s.l :: chD ss) _ = _
    rw [forGo, e1, bd_ok]
    show forGo _ (chD ss) _ = _
    rw [e, forms, List.map_cons]
    simp
end K16
end
section
set_option linter.all false
set_option autoImplicit false
set_option maxRecDepth 100000
set_option maxHeartbeats 2000000
open Ev
namespace K16
theorem it_ev {cl : CL} {i : Nat} {r : Env} {l : List D} (hr : r.at i = some (.fz (.tup l))) (hp : r.put i (.fz (.tup l)) = r) : evIt cl (.ev (.var i)) r = .ok l r := by
  dsimp! [hr, hp]
theorem fow_ok {N : Nat} (hN : 4 ≤ N) {ss : List Stp} (hg : ∀ s ∈ ss, s.Good) {t : Tx} (hl : t.length + 6 * ss.length ≤ 1000000) : callD P N k_forms_on_way [.fz (.tup (chD ss)), .fz (.str t)] = .ok (.fz (.tup ((forms ss t).map .str))) [some (.fz (.tup (chD ss))), some (.fz (.str t))] := by
  obtain ⟨n, rfl⟩ : ∃ n, N = n + 1 := ⟨N - 1, by omega⟩
  rw [call_eq (d := d_forms_on_way) rfl rfl]
  obtain ⟨y3, e⟩ := fow_loop (N := n) (by omega) (x0 := some (.fz (.tup (chD ss)))) (x1 := some (.fz (.str t))) hg (t := t) (acc := []) (x3 := none) hl (by simp; omega)
  have hE : evS (callD P n) l_forms_on_way_1 [some (.fz (.tup (chD ss))), some (.fz (.str t)), some (.lst [.str t]), none] = .ok .nx [some (.fz (.tup (chD ss))), some (.fz (.str t)), some (.lst ((forms ss t).map .str)), y3] := for_eq (cl := callD P n) (it_ev rfl rfl) e
  generalize (forms ss t).map D.str = z at hE
  generalize chD ss = c at hE
  simp_all! [b_forms_on_way, hE]
  rfl
theorem formed_ok {N : Nat} (hN : 5 ≤ N) {ss : List Stp} (hg : ∀ s ∈ ss, s.Good) {t : Tx} (hl : t.length + 6 * ss.length ≤ 1000000) : callD P N k_formed [.fz (.tup (chD ss)), .fz (.str t)] = .ok (.fz (.str (endf ss t))) [some (.fz (.tup (chD ss))), some (.fz (.str t))] := by
  obtain ⟨n, rfl⟩ : ∃ n, N = n + 1 := ⟨N - 1, by omega⟩
  rw [call_eq (d := d_formed) rfl rfl]
  have e := fow_ok (N := n) (by omega) hg hl
  obtain ⟨l, el⟩ := forms_ne ss t
  rw [el, List.map_append] at e
  have hi : idx2 (.tup (l.map D.str ++ [endf ss t].map D.str)) (.int (-1)) = some (.str (endf ss t)) := by
    have := idx_last (l.map D.str) (.str (endf ss t))
    rw [x_l] at this
    rw [x_t]; exact this
  generalize l.map D.str ++ [endf ss t].map D.str = z at e hi
  generalize endf ss t = y at hi
  generalize chD ss = c at e
  simp_all! [b_formed, e, ↓hi]
  rfl
theorem lfm_turn {N : Nat} (hN : 1 ≤ N) {s : Stp} (hs : s.Good) {t : Tx} (hl : t.length ≤ 1000000) {x0 x2 : Option OV} : forFn (callD P N) (.nm 2) (.cons (.set (.nm 1) (.frz (.df k_law_stepped (.val (.var 2) (.val (.var 1) .nil))))) .nil) (.tup s.l) [x0, some (.fz (.str t)), x2] = .ok .nx [x0, some (.fz (.str (s.app t))), some (.fz (.tup s.l))] := by
  have e := lstep_ok hN hs hl
  generalize s.app t = u at e
  generalize s.l = z at e
  dsimp! [e]
theorem lfm_loop {N : Nat} (hN : 1 ≤ N) {x0 : Option OV} : ∀ {ss : List Stp}, (∀ s ∈ ss, s.Good) → ∀ {t : Tx} {x2 : Option OV}, t.length + 6 * ss.length ≤ 1000000 → ∃ y2, forGo (forFn (callD P N) (.nm 2) (.cons (.set (.nm 1) (.frz (.df k_law_stepped (.val (.var 2) (.val (.var 1) .nil))))) .nil)) (chD ss) [x0, some (.fz (.str t)), x2] = .ok .nx [x0, some (.fz (.str (endf ss t))), y2]
  | [], _, t, x2, _ => ⟨x2, rfl⟩
  | s :: ss, hg, t, x2, hl => by
    simp only [List.length_cons] at hl
    have hs := hg s (by simp)
    have hal := app_len hs t
    obtain ⟨y2, e⟩ := lfm_loop hN (ss := ss) (fun s h => hg s (List.mem_cons_of_mem _ h)) (t := s.app t) (x2 := some (.fz (.tup s.l))) (by omega)
    refine ⟨y2, ?_⟩
    have e1 := lfm_turn hN hs (t := t) (by omega) (x0 := x0) (x2 := x2)
    show forGo _ (.tup s.l :: chD ss) _ = _
    rw [forGo, e1, bd_ok]
    show forGo _ (chD ss) _ = _
    rw [e]
    rfl
theorem lformed_ok {N : Nat} (hN : 2 ≤ N) {ss : List Stp} (hg : ∀ s ∈ ss, s.Good) {t : Tx} (hl : t.length + 6 * ss.length ≤ 1000000) : callD P N k_law_formed [.fz (.tup (chD ss)), .fz (.str t)] = .ok (.fz (.str (endf ss t))) [some (.fz (.tup (chD ss))), none] := by
  obtain ⟨n, rfl⟩ : ∃ n, N = n + 1 := ⟨N - 1, by omega⟩
  rw [call_eq (d := d_law_formed) rfl rfl]
  obtain ⟨y2, e⟩ := lfm_loop (N := n) (by omega) (x0 := some (.fz (.tup (chD ss)))) hg (t := t) (x2 := none) hl
  have hE : evS (callD P n) l_law_formed_1 [some (.fz (.tup (chD ss))), some (.fz (.str t)), none] = .ok .nx [some (.fz (.tup (chD ss))), some (.fz (.str (endf ss t))), y2] := for_eq (cl := callD P n) (it_ev rfl rfl) e
  generalize endf ss t = z at hE
  generalize chD ss = c at hE
  simp_all! [b_law_formed, hE]
  rfl
end K16
end
section
set_option linter.all false
set_option autoImplicit false
set_option maxRecDepth 100000
set_option maxHeartbeats 2000000
open Ev
namespace K16
theorem says_ok {N : Nat} (hN : 1 ≤ N) (a b : Bool) : callD P N k_law_says [.fz (.bl a), .fz (.bl b)] = .ok (.fz (.bl (a == b))) [some (.fz (.bl a)), some (.fz (.bl b))] := by
  obtain ⟨n, rfl⟩ : ∃ n, N = n + 1 := ⟨N - 1, by omega⟩
  rw [call_eq (d := d_law_says) rfl rfl]
  cases a <;> cases b <;> rfl
end K16
end
section
set_option linter.all false
set_option autoImplicit false
set_option maxRecDepth 100000
set_option maxHeartbeats 2000000
open Ev
namespace K16
def pr (x : D) : D := .tup [x, x]
def sameB : Ss := (.cons (.set (.tp (.cons (.nm 3) (.cons (.nm 4) .nil))) (.frz (.mu0 .pop 2))) (.cons (.ifs (.isi (.var 4) [.dict]) (.cons (.ifs (.or (.not (.isi (.var 3) [.dict])) (.or (.cmp .ne (.bi .len (.var 3)) (.bi .len (.var 4))) (.cmp .ne c_law_same_2 (.lst .nil)))) (.cons (.ret (.cst (.bl false))) .nil) .nil) (.cons (.ex (.mu1 .extend 2 c_law_same_1)) .nil)) (.cons (.ifs (.isi (.var 4) [.tuple]) (.cons (.ifs (.or (.not (.isi (.var 3) [.tuple])) (.cmp .ne (.bi .len (.var 3)) (.bi .len (.var 4)))) (.cons (.ret (.cst (.bl false))) .nil) .nil) (.cons (.ex (.mu1 .extend 2 c_law_same_3)) .nil)) (.cons (.ifs (.or (.cmp .ne (.isi (.var 3) [.bool]) (.isi (.var 4) [.bool])) (.or (.cmp .ne (.isi (.var 3) [.int]) (.isi (.var 4) [.int])) (.or (.cmp .ne (.isi (.var 3) [.str]) (.isi (.var 4) [.str])) (.cmp .ne (.var 3) (.var 4))))) (.cons (.ret (.cst (.bl false))) .nil) .nil) .nil)) .nil)) .nil))
theorem pop_last (l : List D) (x : D) : mut0 .pop (l ++ [x]) = some (x, l) := by rw [mu_pop]; simp
theorem put_tp2 {i j : Nat} {a b : D} {r : Env} : Tg.put (.tp (.cons (.nm i) (.cons (.nm j) .nil))) (.fz (.tup [a, b])) r = some ((r.put i (.fz a)).put j (.fz b)) := rfl
theorem same_pop {cl : CL} {x : D} {l : List D} {x0 x1 x3 x4 x5 x6 : Option OV} : evS cl (.set (.tp (.cons (.nm 3) (.cons (.nm 4) .nil))) (.frz (.mu0 .pop 2))) [x0, x1, some (.lst (l ++ [pr x])), x3, x4, x5, x6] = .ok .nx [x0, x1, some (.lst l), some (.fz x), some (.fz x), x5, x6] := by
  have hp := pop_last l (pr x)
  generalize l ++ [pr x] = z at hp
  have e1 : evE cl (.mu0 .pop 2) [x0, x1, some (.lst z), x3, x4, x5, x6] = .ok (.fz (pr x)) [x0, x1, some (.lst l), x3, x4, x5, x6] := by
    rw [evE, Ev.at_succ, Ev.at_succ, Ev.at_zero]
    simp only [hp]
    rfl
  rw [evS, evE, e1]
  rfl
end K16
end
section
set_option linter.all false
set_option autoImplicit false
set_option maxRecDepth 100000
set_option maxHeartbeats 2000000
open Ev
namespace K16
theorem same_s {cl : CL} {x : Tx} {l : List D} {x0 x1 x3 x4 x5 x6 : Option OV} : evSs cl sameB [x0, x1, some (.lst (l ++ [pr (.str x)])), x3, x4, x5, x6] = .ok .nx [x0, x1, some (.lst l), some (.fz (.str x)), some (.fz (.str x)), x5, x6] := by
  rw [sameB, evSs, same_pop, bd_ok]
  dsimp! []
theorem same_i {cl : CL} {i : Int} {l : List D} {x0 x1 x3 x4 x5 x6 : Option OV} : evSs cl sameB [x0, x1, some (.lst (l ++ [pr (.int i)])), x3, x4, x5, x6] = .ok .nx [x0, x1, some (.lst l), some (.fz (.int i)), some (.fz (.int i)), x5, x6] := by
  rw [sameB, evSs, same_pop, bd_ok]
  dsimp! []
end K16
end
section
set_option linter.all false
set_option autoImplicit false
set_option maxRecDepth 100000
set_option maxHeartbeats 2000000
open Ev
namespace K16
theorem rng_map (ds : List D) : ((rngOf 0 ds.length).filterMap fun d => match d with | .int k => ds[k.toNat]?.map pr | _ => none) = ds.map pr := by
  rw [rngOf, List.filterMap_map]
  have e : ((fun d => match d with | D.int k => ds[k.toNat]?.map pr | _ => none) ∘ fun (i : Nat) => D.int (0 + i)) = fun i => ds[i]?.map pr := by
    funext i
    show Option.map pr ds[((0 : Int) + i).toNat]? = _
    rw [show ((0 : Int) + i).toNat = i by omega]
  rw [e]
  clear e
  induction ds with
  | nil => rfl
  | cons d ds ih =>
    rw [List.length_cons, List.range_succ_eq_map, List.filterMap_cons]
    show pr d :: _ = _
    rw [List.filterMap_map, List.map_cons, ← ih]
    rfl
theorem same_prs {cl : CL} {ds : List D} {x0 x1 x2 x5 : Option OV} (hn : ds.length ≤ 900000) (hf : D.flats 29 ds = true) : evE cl c_law_same_3 [x0, x1, x2, some (.fz (.tup ds)), some (.fz (.tup ds)), x5, none] = .ok (.lst (ds.map pr)) [x0, x1, x2, some (.fz (.tup ds)), some (.fz (.tup ds)), x5, none] := by
  have hl : evE cl (.bi .len (.var 4)) [x0, x1, x2, some (.fz (.tup ds)), some (.fz (.tup ds)), x5, none] = .ok (.fz (.int ds.length)) [x0, x1, x2, some (.fz (.tup ds)), some (.fz (.tup ds)), x5, none] := by dsimp! []
  have hi : evIt cl (.rng1 (.bi .len (.var 4))) [x0, x1, x2, some (.fz (.tup ds)), some (.fz (.tup ds)), x5, none] = .ok (rngOf 0 ds.length) [x0, x1, x2, some (.fz (.tup ds)), some (.fz (.tup ds)), x5, none] := by
    rw [evIt, opd_bi, hl, bd_ok, bd_ok]
    exact it_rng (okr (by omega))
  refine lc_eq hi ?_
  have := lcGo_map (f := lcFn cl (.tup (.cons (.idx (.var 3) (.var 6)) (.cons (.idx (.var 4) (.var 6)) .nil))) (.nm 6) .nil [6]) (g := fun d => match d with | .int k => ds[k.toNat]?.map pr | _ => none) (ρ := [x0, x1, x2, some (.fz (.tup ds)), some (.fz (.tup ds)), x5, none]) (ds := rngOf 0 ds.length) (acc := []) (fun d hd => by
    obtain ⟨k, hk0⟩ := List.getElem?_of_mem hd
    obtain ⟨hk, rfl⟩ := rng_get hk0
    obtain ⟨c, hc⟩ : ∃ c, ds[k]? = some c := ⟨_, List.getElem?_eq_getElem hk⟩
    have hx : idx2 (.tup ds) (.int (k : Int)) = some c := by
      have hk' : (k : Int) < ds.length := by omega
      rw [x_t]
      simp [atI, ixOf, hk', hc]
    dsimp! [↓hx, hc, pr]) (by simp [rngOf_length, mostLen]; omega)
  rw [this, List.nil_append]
  rw [rng_map]
end K16
end
section
set_option linter.all false
set_option autoImplicit false
set_option maxRecDepth 100000
set_option maxHeartbeats 2000000
namespace Ev
mutual
def D.pl : D → Bool
  | .tup l => D.pls l
  | .lst _ => false
  | .dct _ => false
  | .fn _ => false
  | .scr _ => false
  | _ => true
def D.pls : List D → Bool
  | [] => true
  | d :: l => D.pl d && D.pls l
end
mutual
def D.nod : D → Nat
  | .tup l => D.nods l + 1
  | _ => 1
def D.nods : List D → Nat
  | [] => 0
  | d :: l => D.nod d + D.nods l
end
theorem nods_app : ∀ l m : List D, D.nods (l ++ m) = D.nods l + D.nods m
  | [], m => by simp [D.nods]
  | d :: l, m => by simp [D.nods, nods_app l m]; omega
theorem pls_mem : ∀ {l : List D}, D.pls l = true → ∀ d ∈ l, D.pl d = true
  | [], _, d, h => by simp at h
  | e :: l, h, d, hd => by
    simp only [D.pls, Bool.and_eq_true] at h
    rcases List.mem_cons.mp hd with rfl | hd
    · exact h.1
    · exact pls_mem h.2 d hd
theorem flats_mem {n : Nat} : ∀ {l : List D}, D.flats n l = true → ∀ d ∈ l, D.flat n d = true
  | [], _, d, h => by simp at h
  | e :: l, h, d, hd => by
    rw [flats_c, Bool.and_eq_true] at h
    rcases List.mem_cons.mp hd with rfl | hd
    · exact h.1
    · exact flats_mem h.2 d hd
theorem flats_of {n : Nat} : ∀ {l : List D}, (∀ d ∈ l, D.flat n d = true) → D.flats n l = true
  | [], _ => rfl
  | e :: l, h => by
    rw [flats_c, h e (by simp), flats_of fun d hd => h d (List.mem_cons_of_mem _ hd)]; rfl
theorem flats_app {n : Nat} {l m : List D} (h1 : D.flats n l = true) (h2 : D.flats n m = true) : D.flats n (l ++ m) = true := flats_of fun d hd => by
  rcases List.mem_append.mp hd with hd | hd
  · exact flats_mem h1 d hd
  · exact flats_mem h2 d hd
mutual
theorem flat_mono : ∀ (d : D) (n : Nat), D.flat n d = true → D.flat (n + 1) d = true
  | .tup l, 0, h => by simp [D.flat] at h
  | .tup l, n + 1, h => by rw [flat_t] at h ⊢; exact flats_mono l n h
  | .lst l, 0, h => by simp [D.flat] at h
  | .lst l, n + 1, h => by rw [flat_l] at h ⊢; exact flats_mono l n h
  | .dct l, n, h => by cases n <;> simp [D.flat] at h
  | .fn l, n, h => by cases n <;> simp [D.flat] at h
  | .scr l, n, h => by cases n <;> simp [D.flat] at h
  | .non, n, h => flat_n
  | .bl _, n, h => flat_b
  | .int _, n, h => flat_i
  | .str _, n, h => flat_s
theorem flats_mono : ∀ (l : List D) (n : Nat), D.flats n l = true → D.flats (n + 1) l = true
  | [], _, _ => rfl
  | d :: l, n, h => by
    rw [flats_c, Bool.and_eq_true] at h
    rw [flats_c, flat_mono d n h.1, flats_mono l n h.2]; rfl
end
end Ev
open Ev
namespace Ev
theorem ss_nx {cl : CL} {s : S} {l : Ss} {r r' : Env} (h : evS cl s r = .ok .nx r') : evSs cl (.cons s l) r = evSs cl l r' := by rw [evSs, h]; rfl
theorem ss_ret {cl : CL} {s : S} {l : Ss} {r r' : Env} {o : OV} (h : evS cl s r = .ok (.ret o) r') : evSs cl (.cons s l) r = .ok (.ret o) r' := by rw [evSs, h]; rfl
theorem ss_end {cl : CL} {r : Env} : evSs cl .nil r = .ok .nx r := by rw [evSs]
theorem s_if {cl : CL} {t : E} {a b : Ss} {r r' : Env} {k : Bool} (h : evT cl t r = .ok k r') : evS cl (.ifs t a b) r = if k then evSs cl a r' else evSs cl b r' := by rw [evS, h]; rfl
theorem s_ift {cl : CL} {t : E} {a b : Ss} {r r' : Env} (h : evT cl t r = .ok true r') : evS cl (.ifs t a b) r = evSs cl a r' := by rw [s_if h]; rfl
theorem s_iff {cl : CL} {t : E} {a b : Ss} {r r' : Env} (h : evT cl t r = .ok false r') : evS cl (.ifs t a b) r = evSs cl b r' := by rw [s_if h]; rfl
theorem s_ex {cl : CL} {e : E} {r r' : Env} {o : OV} (h : evE cl e r = .ok o r') : evS cl (.ex e) r = .ok .nx r' := by rw [evS, h]; rfl
theorem t_or {cl : CL} {a b : E} {r r' : Env} {k : Bool} (h : evT cl a r = .ok k r') : evT cl (.or a b) r = if k then .ok true r' else evT cl b r' := by rw [evT, h]; rfl
theorem t_and {cl : CL} {a b : E} {r r' : Env} {k : Bool} (h : evT cl a r = .ok k r') : evT cl (.and a b) r = if k then evT cl b r' else .ok false r' := by rw [evT, h]; rfl
theorem t_orf {cl : CL} {a b : E} {r r' : Env} (h : evT cl a r = .ok false r') : evT cl (.or a b) r = evT cl b r' := by rw [t_or h]; rfl
theorem t_ort {cl : CL} {a b : E} {r r' : Env} (h : evT cl a r = .ok true r') : evT cl (.or a b) r = .ok true r' := by rw [t_or h]; rfl
theorem t_andt {cl : CL} {a b : E} {r r' : Env} (h : evT cl a r = .ok true r') : evT cl (.and a b) r = evT cl b r' := by rw [t_and h]; rfl
theorem t_andf {cl : CL} {a b : E} {r r' : Env} (h : evT cl a r = .ok false r') : evT cl (.and a b) r = .ok false r' := by rw [t_and h]; rfl
theorem t_not {cl : CL} {a : E} {r r' : Env} {k : Bool} (h : evT cl a r = .ok k r') : evT cl (.not a) r = .ok (!k) r' := by rw [evT, h]; rfl
end Ev
namespace K16
abbrev sameT : E := .cmp .ne (.var 2) (.lst .nil)
theorem same_test {cl : CL} {l : List D} {x : D} {x0 x1 x3 x4 x5 x6 : Option OV} (h : D.flats 29 (l ++ [x]) = true) : evT cl sameT [x0, x1, some (.lst (l ++ [x])), x3, x4, x5, x6] = .ok true [x0, x1, some (.lst (l ++ [x])), x3, x4, x5, x6] := by
  obtain ⟨d, r, e⟩ : ∃ d r, l ++ [x] = d :: r := by cases l <;> exact ⟨_, _, rfl⟩
  rw [e] at h ⊢
  rw [flats_c, Bool.and_eq_true] at h
  dsimp! [sameT, h.1, h.2]
theorem same_test0 {cl : CL} {x0 x1 x3 x4 x5 x6 : Option OV} : evT cl sameT [x0, x1, some (.lst []), x3, x4, x5, x6] = .ok false [x0, x1, some (.lst []), x3, x4, x5, x6] := by
  dsimp! [sameT]
theorem same_b {cl : CL} {b : Bool} {l : List D} {x0 x1 x3 x4 x5 x6 : Option OV} : evSs cl sameB [x0, x1, some (.lst (l ++ [pr (.bl b)])), x3, x4, x5, x6] = .ok .nx [x0, x1, some (.lst l), some (.fz (.bl b)), some (.fz (.bl b)), x5, x6] := by
  rw [sameB, evSs, same_pop, bd_ok]
  dsimp! []
theorem same_n {cl : CL} {l : List D} {x0 x1 x3 x4 x5 x6 : Option OV} : evSs cl sameB [x0, x1, some (.lst (l ++ [pr .non])), x3, x4, x5, x6] = .ok .nx [x0, x1, some (.lst l), some (.fz .non), some (.fz .non), x5, x6] := by
  rw [sameB, evSs, same_pop, bd_ok]
  dsimp! []
theorem mu_ext' {l m : List D} (h : l.length + m.length ≤ 16777216) : mut1 .extend l (.lst m) = some (l ++ m) := by rw [mu_ext]; exact if_pos h

theorem sm1 {cl : CL} {ds : List D} {l : List D} {x0 x1 x5 : Option OV} : evT cl (.isi (.var 4) [.dict]) [x0, x1, some (.lst l), some (.fz (.tup ds)), some (.fz (.tup ds)), x5, none] = .ok false [x0, x1, some (.lst l), some (.fz (.tup ds)), some (.fz (.tup ds)), x5, none] := by dsimp! []
theorem sm2 {cl : CL} {ds : List D} {l : List D} {x0 x1 x5 : Option OV} : evT cl (.isi (.var 4) [.tuple]) [x0, x1, some (.lst l), some (.fz (.tup ds)), some (.fz (.tup ds)), x5, none] = .ok true [x0, x1, some (.lst l), some (.fz (.tup ds)), some (.fz (.tup ds)), x5, none] := by dsimp! []
theorem sm3a {cl : CL} {ds : List D} {l : List D} {x0 x1 x5 : Option OV} : evT cl (.not (.isi (.var 3) [.tuple])) [x0, x1, some (.lst l), some (.fz (.tup ds)), some (.fz (.tup ds)), x5, none] = .ok false [x0, x1, some (.lst l), some (.fz (.tup ds)), some (.fz (.tup ds)), x5, none] := by dsimp! []
theorem sm3 {cl : CL} {ds : List D} {l : List D} {x0 x1 x5 : Option OV} : evT cl (.cmp .ne (.bi .len (.var 3)) (.bi .len (.var 4))) [x0, x1, some (.lst l), some (.fz (.tup ds)), some (.fz (.tup ds)), x5, none] = .ok false [x0, x1, some (.lst l), some (.fz (.tup ds)), some (.fz (.tup ds)), x5, none] := by dsimp! []
theorem same_t {cl : CL} {ds : List D} {l : List D} {x0 x1 x3 x4 x5 : Option OV} (hn : l.length + ds.length ≤ 900000) (hf : D.flats 29 ds = true) : evSs cl sameB [x0, x1, some (.lst (l ++ [pr (.tup ds)])), x3, x4, x5, none] = .ok .nx [x0, x1, some (.lst (l ++ ds.map pr)), some (.fz (.tup ds)), some (.fz (.tup ds)), x5, none] := by
  rw [sameB, evSs, same_pop, bd_ok]
  have e := same_prs (cl := cl) (x0 := x0) (x1 := x1) (x2 := some (.lst l)) (x5 := x5) (ds := ds) (by omega) hf
  have hl := mu_ext' (l := l) (m := ds.map pr) (by simp; omega)
  generalize ds.map pr = m at e hl
  generalize l ++ m = z at hl
  have e2 : evE cl (.mu1 .extend 2 c_law_same_3) [x0, x1, some (.lst l), some (.fz (.tup ds)), some (.fz (.tup ds)), x5, none] = .ok (.fz .non) [x0, x1, some (.lst z), some (.fz (.tup ds)), some (.fz (.tup ds)), x5, none] := by
    rw [evE, Ev.at_succ, Ev.at_succ, Ev.at_zero]
    simp only [e, bd_ok, Ev.at_succ, Ev.at_zero, od_l, hl, put_succ, put_zero]
  show evSs cl (.cons _ .nil) _ = _
  refine (ss_nx (r' := [x0, x1, some (.lst z), some (.fz (.tup ds)), some (.fz (.tup ds)), x5, none]) ?_).trans ss_end
  rw [s_iff sm1]
  refine (ss_nx (r' := [x0, x1, some (.lst z), some (.fz (.tup ds)), some (.fz (.tup ds)), x5, none]) ?_).trans ss_end
  rw [s_ift sm2]
  refine (ss_nx ?_).trans ((ss_nx (s_ex e2)).trans ss_end)
  rw [s_iff ((t_orf sm3a).trans sm3), ss_end]
end K16
end
section
set_option linter.all false
set_option autoImplicit false
set_option maxRecDepth 100000
set_option maxHeartbeats 2000000
open Ev
namespace K16
abbrev sameGo (cl : CL) (n : Nat) (r : Env) := whlGo (evT cl sameT) (evSs cl sameB) n r
theorem go_step {cl : CL} {n : Nat} {r r' : Env} (h1 : evT cl sameT r = .ok true r) (h2 : evSs cl sameB r = .ok .nx r') : sameGo cl (n + 1) r = sameGo cl n r' := by
  show whlGo _ _ (n + 1) r = _
  rw [whlGo, h1, bd_ok, if_pos rfl, h2, bd_ok]
theorem nod_pos (d : D) : 1 ≤ d.nod := by cases d <;> simp [D.nod]
theorem len_le_nods : ∀ ds : List D, ds.length ≤ D.nods ds
  | [] => by simp
  | d :: ds => by have := nod_pos d; have := len_le_nods ds; simp [D.nods]; omega
theorem pr_flat {x : D} (h : D.flat 27 x = true) : D.flat 29 (pr x) = true := by
  have := flat_mono x 27 h
  rw [pr, flat_t, flats_c, flats_c, flats_n, this]; rfl
theorem snoc_ind {α : Type} {P : List α → Prop} (h0 : P []) (h1 : ∀ l a, P l → P (l ++ [a])) (l : List α) : P l := by
  have : ∀ m : List α, P m.reverse := by
    intro m
    induction m with
    | nil => exact h0
    | cons a m ih => rw [List.reverse_cons]; exact h1 _ _ ih
  have := this l.reverse
  rwa [List.reverse_reverse] at this
theorem same_main {cl : CL} {x0 x1 : Option OV} : ∀ (m : Nat) (x : D), x.nod ≤ m → x.pl = true → D.flat 27 x = true → ∀ (l : List D) (F : Nat) (x3 x4 : Option OV), l.length + x.nod ≤ 900000 → D.flats 29 l = true →
    ∃ y3 y4, sameGo cl (F + x.nod) [x0, x1, some (.lst (l ++ [pr x])), x3, x4, none, none] = sameGo cl F [x0, x1, some (.lst l), y3, y4, none, none]
  | 0, x, hm, _, _, l, F, x3, x4, _, _ => by have := nod_pos x; omega
  | m + 1, x, hm, hp, hx, l, F, x3, x4, hl, hf => by
    have hff : D.flats 29 (l ++ [pr x]) = true := flats_app hf (by rw [flats_c, pr_flat hx]; rfl)
    have ht := same_test (cl := cl) (x0 := x0) (x1 := x1) (x3 := x3) (x4 := x4) (x5 := none) (x6 := none) hff
    cases x with
    | str t => exact ⟨_, _, go_step ht same_s⟩
    | int t => exact ⟨_, _, go_step ht same_i⟩
    | bl t => exact ⟨_, _, go_step ht same_b⟩
    | non => exact ⟨_, _, go_step ht same_n⟩
    | lst _ => cases hp
    | dct _ => cases hp
    | fn _ => cases hp
    | scr _ => cases hp
    | tup ds =>
      have hn : D.nods ds + 1 ≤ m + 1 := hm
      have hl' : l.length + (D.nods ds + 1) ≤ 900000 := hl
      have hxs : D.flats 26 ds = true := by rw [flat_t] at hx; exact hx
      have hlen := len_le_nods ds
      have h29 : D.flats 29 ds = true := flats_mono _ _ (flats_mono _ _ (flats_mono _ _ hxs))
      have e := go_step (n := F + D.nods ds) ht (same_t (x0 := x0) (x1 := x1) (x3 := x3) (x4 := x4) (x5 := none) (ds := ds) (l := l) (by omega) h29)
      have main : ∀ (es : List D), D.nods es ≤ m → (∀ d ∈ es, D.pl d = true ∧ D.flat 27 d = true) → ∀ (F : Nat) (x3 x4 : Option OV), l.length + D.nods es ≤ 900000 →
          ∃ y3 y4, sameGo cl (F + D.nods es) [x0, x1, some (.lst (l ++ es.map pr)), x3, x4, none, none] = sameGo cl F [x0, x1, some (.lst l), y3, y4, none, none] := by
        intro es
        induction es using snoc_ind with
        | h0 => intro _ _ F x3 x4 _; exact ⟨x3, x4, by simp [D.nods]⟩
        | h1 es d ih =>
          intro hm' hd F x3 x4 hl2
          rw [nods_app] at hm' hl2
          simp only [D.nods, Nat.add_zero] at hm' hl2
          obtain ⟨d1, d2⟩ := hd d (by simp)
          have hlene := len_le_nods es
          obtain ⟨y3, y4, e1⟩ := same_main (cl := cl) (x0 := x0) (x1 := x1) m d (by omega) d1 d2 (l ++ es.map pr) (F + D.nods es) x3 x4 (by simp; omega) (flats_app hf (flats_of fun z hz => by
            obtain ⟨u, hu, rfl⟩ := List.mem_map.mp hz
            exact pr_flat (hd u (by simp [hu])).2))
          obtain ⟨z3, z4, e2⟩ := ih (by omega) (fun u hu => hd u (by simp [hu])) F y3 y4 (by omega)
          refine ⟨z3, z4, ?_⟩
          rw [← e2, ← e1, nods_app]
          simp only [D.nods, Nat.add_zero, List.map_append, List.map_cons, List.map_nil, List.append_assoc, Nat.add_assoc]
      obtain ⟨y3, y4, e2⟩ := main ds (by omega) (fun d hd => ⟨pls_mem hp d hd, flat_mono _ _ (flats_mem hxs d hd)⟩) F (some (.fz (.tup ds))) (some (.fz (.tup ds))) (by omega)
      exact ⟨y3, y4, by rw [← e2, ← e]; rfl⟩
theorem same_ok {N : Nat} (hN : 1 ≤ N) {x : D} (hp : x.pl = true) (hx : D.flat 27 x = true) (hn : x.nod ≤ 900000) : callD P N k_law_same [.fz x, .fz x] = .ok (.fz (.bl true)) [some (.fz x), some (.fz x)] := by
  obtain ⟨n, rfl⟩ : ∃ n, N = n + 1 := ⟨N - 1, by omega⟩
  rw [call_eq (d := d_law_same) rfl rfl]
  obtain ⟨y3, y4, e⟩ := same_main (cl := callD P n) (x0 := some (.fz x)) (x1 := some (.fz x)) x.nod x (Nat.le_refl _) hp hx [] (mostTurns - x.nod) none none (by simpa using hn) rfl
  rw [Nat.sub_add_cancel (by simp only [mostTurns]; omega)] at e
  have hk : ∃ k, mostTurns - x.nod = k + 1 := ⟨mostTurns - x.nod - 1, by simp only [mostTurns]; omega⟩
  obtain ⟨k, hk⟩ := hk
  rw [hk] at e
  have e2 : sameGo (callD P n) (k + 1) [some (.fz x), some (.fz x), some (.lst []), y3, y4, none, none] = .ok .nx [some (.fz x), some (.fz x), some (.lst []), y3, y4, none, none] := by
    show whlGo _ _ (k + 1) _ = _
    rw [whlGo, same_test0, bd_ok, if_neg (by decide)]
  have hE : evS (callD P n) l_law_same_4 [some (.fz x), some (.fz x), some (.lst [pr x]), none, none, none, none] = .ok .nx [some (.fz x), some (.fz x), some (.lst []), y3, y4, none, none] := by
    rw [l_law_same_4, evS]
    exact e.trans e2
  have h1 : evS (callD P n) (.set (.nm 2) (.lst (.cons (.tup (.cons (.var 0) (.cons (.var 1) .nil))) .nil))) [some (.fz x), some (.fz x), none, none, none, none, none] = .ok .nx [some (.fz x), some (.fz x), some (.lst [pr x]), none, none, none, none] := by
    clear e e2 hE
    dsimp! [pr]
  show Df.end _ (evSs _ (.cons _ (.cons _ (.cons _ .nil))) [some (.fz x), some (.fz x), none, none, none, none, none]) = _
  rw [ss_nx h1, ss_nx hE, ss_ret (o := .fz (.bl true)) (r' := [some (.fz x), some (.fz x), some (.lst []), y3, y4, none, none]) (by rw [evS, evE]; rfl)]
  rfl
end K16
end
section
set_option linter.all false
set_option autoImplicit false
set_option maxRecDepth 100000
set_option maxHeartbeats 2000000
open Ev
namespace K16
theorem app' {l : List D} {x : D} (h : l.length < 16777216) : mut1 .append l x = some (l ++ [x]) := by rw [mu_app]; exact if_pos h
abbrev dE (S M : Option OV) (ds : List Int) (x3 x4 x5 x6 x7 : Option OV) : Env := [S, M, some (.lst (ds.map .int)), x3, x4, x5, x6, x7]
theorem dr2_turn {cl : CL} {S M x3 x4 x5 x7 : Option OV} {ds : List Int} {r : Int} {d : D} (hl : ds.length < 100000) : ∃ (ds' : List Int) (r' : Int), ds'.length ≤ ds.length + 1 ∧
    lpF cl l_law_draws_2 d (dE S M ds x3 x4 x5 (some (.fz (.int r))) x7) = .ok .nx (dE S M ds' x3 x4 x5 (some (.fz (.int r'))) (some (.fz d))) := by
  have ha : (ds.map D.int).length < 16777216 := by simp; omega
  by_cases h : 0 < r
  · refine ⟨ds ++ [r.fmod 997], r.fdiv 997, by simp, ?_⟩
    rw [show (dE S M (ds ++ [r.fmod 997]) x3 x4 x5 (some (.fz (.int (r.fdiv 997)))) (some (.fz d))) = [S, M, some (.lst (ds.map .int ++ [.int (r.fmod 997)])), x3, x4, x5, some (.fz (.int (r.fdiv 997))), some (.fz d)] by simp [dE]]
    unfold dE
    generalize ds.map D.int = L at ha ⊢
    dsimp! [lpF, l_law_draws_2, h, ha]
  · refine ⟨ds, r, by omega, ?_⟩
    unfold dE
    generalize ds.map D.int = L at ha ⊢
    dsimp! [lpF, l_law_draws_2, h]
theorem rng_lit {cl : CL} {n : Nat} (h : n ≤ 100000) {r : Env} {b : Ss} {g : Tg} : forI cl (.fors g (.rng1 (.cst (.int n))) b) r = .ok (rngOf 0 n) r := by
  show evIt cl _ r = _
  have e : evE cl (.cst (.int n)) r = .ok (.fz (.int n)) r := by rw [evE]
  exact it_r1 (fun _ _ => rfl) e (by omega)
theorem dr2 {cl : CL} {S M x3 x4 x5 x7 : Option OV} {ds : List Int} {r : Int} (hl : ds.length < 50000) : ∃ (ds' : List Int) (r' : Int) (y7 : Option OV), ds'.length ≤ ds.length + 60 ∧
    evS cl l_law_draws_2 (dE S M ds x3 x4 x5 (some (.fz (.int r))) x7) = .ok .nx (dE S M ds' x3 x4 x5 (some (.fz (.int r'))) y7) := by
  obtain ⟨ρ', e, ds', r', y7, hl', rfl⟩ := for_inv (cl := cl) (s := l_law_draws_2) (xs := rngOf 0 60) (e := id) (ρ := dE S M ds x3 x4 x5 (some (.fz (.int r))) x7) (ρ1 := dE S M ds x3 x4 x5 (some (.fz (.int r))) x7)
    (fun pre ρ => ∃ (ds' : List Int) (r' : Int) (y7 : Option OV), ds'.length ≤ ds.length + pre.length ∧ ρ = dE S M ds' x3 x4 x5 (some (.fz (.int r'))) y7) rfl (by rw [List.map_id]; exact rng_lit (n := 60) (by omega)) ⟨ds, r, x7, by simp, rfl⟩
    (fun pre x post ρ hx hI => by
      obtain ⟨ds', r', y7, h1, rfl⟩ := hI
      have hp : pre.length < 60 := by have := congrArg List.length hx; rw [rngOf_length] at this; simp at this; omega
      obtain ⟨ds2, r2, h2, e⟩ := dr2_turn (cl := cl) (S := S) (M := M) (x3 := x3) (x4 := x4) (x5 := x5) (x7 := y7) (ds := ds') (r := r') (d := x) (by omega)
      exact ⟨_, e, ds2, r2, some (.fz x), by simp; omega, rfl⟩)
  rw [rngOf_length] at hl'
  exact ⟨ds', r', y7, hl', e⟩
theorem fm0 {a b : Int} (h : 0 < b) : 0 ≤ a.fmod b := Int.fmod_nonneg_of_pos _ h
theorem fm1 {a b : Int} (h : 0 < b) : a.fmod b < b := Int.fmod_lt_of_pos _ h
theorem mul_ok {a b : Int} (h : b.natAbs < 2 ^ 64) : bin2 .mul (.int a) (.int b) = some (.fz (.int (a * b))) := by rw [b_mul]; exact if_pos (.inr h)
theorem pow18 : bin2 .pow (.int 10) (.int 18) = some (.fz (.int 1000000000000000000)) := by rfl
theorem dr3_turn {cl : CL} {M x4 x5 x6 x7 : Option OV} {ns ds : List Int} {mx : Int} {k : Nat} (hk : k < ns.length) (hl : ds.length < 40000) : ∃ (ds' : List Int) (mx' : Int) (y5 y6 y7 : Option OV), ds'.length ≤ ds.length + 62 ∧
    lpF cl l_law_draws_3 (.int k) (dE (some (.fz (.scr ns))) M ds (some (.fz (.int mx))) x4 x5 x6 x7) = .ok .nx (dE (some (.fz (.scr ns))) M ds' (some (.fz (.int mx'))) (some (.fz (.int k))) y5 y6 y7) := by
  have hk' : (k : Int) < ns.length := by omega
  have m1 := mul_ok (a := mx) (b := 48271) (by decide)
  generalize hc : (if ns[k] < 0 then -ns[k] else ns[k]) = c
  generalize hmx : (mx * 48271 + c.fmod 1000003 + (k : Int)).fmod 65537 = mx2
  have m2 := mul_ok (a := mx2) (b := 69621) (by decide)
  by_cases h : (1000000000000000000 : Int) ≤ c
  · obtain ⟨ds', r', y7, h1, e⟩ := dr2 (cl := cl) (S := some (.fz (.scr ns))) (M := M) (x3 := some (.fz (.int mx2))) (x4 := some (.fz (.int k))) (x5 := some (.fz (.int c))) (x7 := x7) (ds := ds) (r := c) (by omega)
    refine ⟨ds', mx2, some (.fz (.int c)), some (.fz (.int r')), y7, by omega, ?_⟩
    unfold dE at e ⊢
    generalize ds.map D.int = L at e ⊢
    generalize ds'.map D.int = L' at e ⊢
    have h' : ¬ c < 1000000000000000000 := by omega
    dsimp! [lpF, l_law_draws_3, hk, hk', ↓pow18, ↓m1, hc, hmx, h, h', e]
  · have ha : (ds.map D.int).length < 16777216 := by simp; omega
    have ha2 : (ds.map D.int).length + 1 < 16777216 := by simp; omega
    obtain ⟨ds', r', y7, h1, e⟩ := dr2 (cl := cl) (S := some (.fz (.scr ns))) (M := M) (x3 := some (.fz (.int mx2))) (x4 := some (.fz (.int k))) (x5 := some (.fz (.int c))) (x7 := x7) (ds := ds ++ [c.fmod 997] ++ [((mx2 * 69621 + 5).fmod 65521).fmod 997]) (r := 0) (by simp; omega)
    refine ⟨ds', mx2, some (.fz (.int c)), some (.fz (.int r')), y7, by simp at h1; omega, ?_⟩
    unfold dE at e ⊢
    rw [List.map_append, List.map_append] at e
    simp only [List.map_cons, List.map_nil] at e
    generalize ds.map D.int = L at e ha ha2 ⊢
    generalize ds'.map D.int = L' at e ⊢
    have h' : c < 1000000000000000000 := by omega
    rw [List.append_assoc, List.singleton_append] at e
    dsimp! [lpF, l_law_draws_3, hk, hk', ↓pow18, ↓m1, ↓m2, hc, hmx, h, h', e, ha, ha2]
theorem dr3 {cl : CL} {M x4 x5 x6 x7 : Option OV} {ns : List Int} {mx : Int} (hn : ns.length ≤ 63) : ∃ (ds : List Int) (mx' : Int) (y4 y5 y6 y7 : Option OV), ds.length ≤ 4000 ∧
    evS cl l_law_draws_3 (dE (some (.fz (.scr ns))) M [] (some (.fz (.int mx))) x4 x5 x6 x7) = .ok .nx (dE (some (.fz (.scr ns))) M ds (some (.fz (.int mx'))) y4 y5 y6 y7) := by
  have hi : forI cl l_law_draws_3 (dE (some (.fz (.scr ns))) M [] (some (.fz (.int mx))) x4 x5 x6 x7) = .ok ((List.range ns.length).map fun (k : Nat) => D.int (k : Int)) (dE (some (.fz (.scr ns))) M [] (some (.fz (.int mx))) x4 x5 x6 x7) := by
    rw [l_law_draws_3, forI_eq]
    have e : evE cl (.bi .len (.var 0)) (dE (some (.fz (.scr ns))) M [] (some (.fz (.int mx))) x4 x5 x6 x7) = .ok (.fz (.int ns.length)) (dE (some (.fz (.scr ns))) M [] (some (.fz (.int mx))) x4 x5 x6 x7) := by
      unfold dE; dsimp! []
    exact (it_r1 (fun _ _ => rfl) e (by omega)).trans (by rw [rngOf_map])
  obtain ⟨ρ', e, ds', mx', y4, y5, y6, y7, hl', rfl⟩ := for_inv (cl := cl) (s := l_law_draws_3) (xs := List.range ns.length) (e := fun (k : Nat) => D.int (k : Int)) (ρ := dE (some (.fz (.scr ns))) M [] (some (.fz (.int mx))) x4 x5 x6 x7) (ρ1 := dE (some (.fz (.scr ns))) M [] (some (.fz (.int mx))) x4 x5 x6 x7)
    (fun pre ρ => ∃ (ds' : List Int) (mx' : Int) (y4 y5 y6 y7 : Option OV), ds'.length ≤ 62 * pre.length ∧ ρ = dE (some (.fz (.scr ns))) M ds' (some (.fz (.int mx'))) y4 y5 y6 y7) rfl hi ⟨[], mx, x4, x5, x6, x7, by simp, rfl⟩
    (fun pre x post ρ hx hI => by
      obtain ⟨ds', mx', y4, y5, y6, y7, h1, rfl⟩ := hI
      have hk : x < ns.length := List.mem_range.mp (by rw [hx]; simp)
      have hp : pre.length < ns.length := by have := congrArg List.length hx; rw [List.length_range] at this; simp at this; omega
      obtain ⟨ds2, mx2, z5, z6, z7, h2, e⟩ := dr3_turn (cl := cl) (M := M) (x4 := y4) (x5 := y5) (x6 := y6) (x7 := y7) (ds := ds') (mx := mx') hk (by omega)
      exact ⟨_, e, ds2, mx2, some (.fz (.int x)), z5, z6, z7, by simp; omega, rfl⟩)
  rw [List.length_range] at hl'
  exact ⟨ds', mx', y4, y5, y6, y7, by omega, e⟩
theorem dr1_turn {cl : CL} {S M x4 x5 x6 x7 : Option OV} {ds : List Int} {mx : Int} {k : Int} (hl : ds.length < 40000) : ∃ (ds' : List Int) (mx' : Int), ds'.length ≤ ds.length + 1 ∧
    lpF cl l_law_draws_1 (.int k) (dE S M ds (some (.fz (.int mx))) x4 x5 x6 x7) = .ok .nx (dE S M ds' (some (.fz (.int mx'))) (some (.fz (.int k))) x5 x6 x7) := by
  have m1 := mul_ok (a := mx) (b := 16807) (by decide)
  generalize hmx : (mx * 16807 + k + 1).fmod 65537 = mx2
  have ha : (ds.map D.int).length < 16777216 := by simp; omega
  refine ⟨ds ++ [mx2.fmod 997], mx2, by simp, ?_⟩
  rw [show (dE S M (ds ++ [mx2.fmod 997]) (some (.fz (.int mx2))) (some (.fz (.int k))) x5 x6 x7) = [S, M, some (.lst (ds.map .int ++ [.int (mx2.fmod 997)])), some (.fz (.int mx2)), some (.fz (.int k)), x5, x6, x7] by simp [dE]]
  unfold dE
  generalize ds.map D.int = L at ha ⊢
  dsimp! [lpF, l_law_draws_1, ↓m1, hmx, ha]
theorem dr1 {cl : CL} {S x4 x5 x6 x7 : Option OV} {ds : List Int} {mx : Int} (hl : ds.length ≤ 4000) : ∃ (ds' : List Int) (y3 y4 : Option OV), ds'.length ≤ 10000 ∧
    evS cl l_law_draws_1 (dE S (some (.fz (.int 3000))) ds (some (.fz (.int mx))) x4 x5 x6 x7) = .ok .nx (dE S (some (.fz (.int 3000))) ds' y3 y4 x5 x6 x7) := by
  have hi : forI cl l_law_draws_1 (dE S (some (.fz (.int 3000))) ds (some (.fz (.int mx))) x4 x5 x6 x7) = .ok ((List.range 3000).map fun (k : Nat) => D.int (k : Int)) (dE S (some (.fz (.int 3000))) ds (some (.fz (.int mx))) x4 x5 x6 x7) := by
    rw [l_law_draws_1, forI_eq]
    exact (it_rv (n := 3000) rfl (by omega)).trans (by rw [rngOf_map])
  obtain ⟨ρ', e, ds', mx', y4, hl', rfl⟩ := for_inv (cl := cl) (s := l_law_draws_1) (xs := List.range 3000) (e := fun (k : Nat) => D.int (k : Int)) (ρ := dE S (some (.fz (.int 3000))) ds (some (.fz (.int mx))) x4 x5 x6 x7) (ρ1 := dE S (some (.fz (.int 3000))) ds (some (.fz (.int mx))) x4 x5 x6 x7)
    (fun pre ρ => ∃ (ds' : List Int) (mx' : Int) (y4 : Option OV), ds'.length ≤ ds.length + pre.length ∧ ρ = dE S (some (.fz (.int 3000))) ds' (some (.fz (.int mx'))) y4 x5 x6 x7) rfl hi ⟨ds, mx, x4, by simp, rfl⟩
    (fun pre x post ρ hx hI => by
      obtain ⟨ds', mx', y4, h1, rfl⟩ := hI
      have hp : pre.length < 3000 := by have := congrArg List.length hx; rw [List.length_range] at this; simp at this; omega
      obtain ⟨ds2, mx2, h2, e⟩ := dr1_turn (cl := cl) (S := S) (M := some (.fz (.int 3000))) (x4 := y4) (x5 := x5) (x6 := x6) (x7 := x7) (ds := ds') (mx := mx') (k := (x : Int)) (by omega)
      exact ⟨_, e, ds2, mx2, some (.fz (.int (x : Int))), by simp; omega, rfl⟩)
  rw [List.length_range] at hl'
  exact ⟨ds', some (.fz (.int mx')), y4, by omega, e⟩
theorem draws_ok {N : Nat} (hN : 1 ≤ N) {ns : List Int} (hn : ns.length ≤ 63) : ∃ ds : List Int, callD P N k_law_draws [.fz (.scr ns), .fz (.int 3000)] = .ok (.lst (ds.map .int)) [some (.fz (.scr ns)), some (.fz (.int 3000))] := by
  obtain ⟨n, rfl⟩ : ∃ n, N = n + 1 := ⟨N - 1, by omega⟩
  rw [call_eq (d := d_law_draws) rfl rfl]
  obtain ⟨ds, mx, y4, y5, y6, y7, hl, e1⟩ := dr3 (cl := callD P n) (M := some (.fz (.int 3000))) (x4 := none) (x5 := none) (x6 := none) (x7 := none) (mx := 7) hn
  obtain ⟨ds2, z3, z4, hl2, e2⟩ := dr1 (cl := callD P n) (S := some (.fz (.scr ns))) (x4 := y4) (x5 := y5) (x6 := y6) (x7 := y7) (ds := ds) (mx := mx) hl
  refine ⟨cut ds2 none (some 3000), ?_⟩
  have h3 : evS (callD P n) (.ret (.slc (.var 2) (.cst .non) (.var 1))) (dE (some (.fz (.scr ns))) (some (.fz (.int 3000))) ds2 z3 z4 y5 y6 y7) = .ok (.ret (.lst ((cut ds2 none (some 3000)).map .int))) (dE (some (.fz (.scr ns))) (some (.fz (.int 3000))) ds2 z3 z4 y5 y6 y7) := by
    have hc : (cut ds2 none (some 3000)).map D.int = cut (ds2.map D.int) none (some 3000) := by
      simp only [cut, slIx, List.map_take, List.map_drop, List.length_map]
    rw [hc]
    unfold dE
    generalize ds2.map D.int = L2
    generalize (3000 : Int) = m
    dsimp! [endOf]
  have h0 : evS (callD P n) (.set (.nm 2) (.lst .nil)) [some (.fz (.scr ns)), some (.fz (.int 3000)), none, none, none, none, none, none] = .ok .nx [some (.fz (.scr ns)), some (.fz (.int 3000)), some (.lst []), none, none, none, none, none] := rfl
  have h1 : evS (callD P n) (.set (.nm 3) (.cst (.int 7))) [some (.fz (.scr ns)), some (.fz (.int 3000)), some (.lst []), none, none, none, none, none] = .ok .nx [some (.fz (.scr ns)), some (.fz (.int 3000)), some (.lst []), some (.fz (.int 7)), none, none, none, none] := rfl
  show Df.end _ (evSs _ (.cons _ (.cons _ (.cons _ (.cons _ (.cons _ .nil))))) [some (.fz (.scr ns)), some (.fz (.int 3000)), none, none, none, none, none, none]) = _
  rw [ss_nx h0, ss_nx h1]
  refine (congrArg _ ((ss_nx e1).trans ((ss_nx e2).trans (ss_ret h3)))).trans ?_
  rfl
end K16
end
section
set_option linter.all false
set_option autoImplicit false
set_option maxRecDepth 100000
set_option maxHeartbeats 2000000
open Ev
namespace K16
structure Cls where
  name : Tx
  kind : Tx
  slots : List Tx
def Cls.d (c : Cls) : D := .tup [.str c.name, .str c.kind, .tup (c.slots.map .str)]
abbrev Mk := List (Tx × Tx)
def prD (p : Tx × Tx) : D := .tup [.str p.1, .str p.2]
def mkD (m : Mk) : D := .tup (m.map prD)
structure Rul where
  own : Tx
  conds : Mk
  chain : List Stp
def Rul.d (r : Rul) : D := .tup [.str r.own, mkD r.conds, .tup (chD r.chain)]
structure Wd where
  key : Tx
  root : Tx
  cls : Tx
def Wd.d (x : Wd) : D := .tup [.str x.key, .str x.root, .str x.cls]
structure Stk where
  cs : List Cls
  rs : List Rul
  ws : List Wd
def Stk.d (s : Stk) : D := .tup [.tup (s.cs.map Cls.d), .tup (s.rs.map Rul.d), .tup (s.ws.map Wd.d)]
/-! flat data -/
theorem flats_map {α : Type} {f : α → D} {n : Nat} (h : ∀ x, D.flat n (f x) = true) (l : List α) : D.flats n (l.map f) = true := flats_of fun d hd => by
  obtain ⟨x, _, rfl⟩ := List.mem_map.mp hd
  exact h x
theorem prD_flat (p : Tx × Tx) (n : Nat) : D.flat (n + 1) (prD p) = true := by simp [prD, flat_t, flats_c, flats_n, flat_s]
theorem mk_flat (m : Mk) (n : Nat) : D.flat (n + 2) (mkD m) = true := by rw [mkD, flat_t]; exact flats_map (fun p => prD_flat p n) m
theorem eq_pr (p q : Tx × Tx) : D.eq (prD p) (prD q) = decide (p = q) := by
  obtain ⟨a, b⟩ := p
  obtain ⟨c, d⟩ := q
  simp only [prD, eq_tt, eqs_cc, eqs_nn, eq_ss, Bool.and_true]
  by_cases h1 : a = c <;> by_cases h2 : b = d <;> simp [h1, h2]
theorem eqs_prs : ∀ m n : Mk, D.eqs (m.map prD) (n.map prD) = decide (m = n)
  | [], [] => rfl
  | [], _ :: _ => rfl
  | _ :: _, [] => rfl
  | p :: m, q :: n => by
    rw [List.map_cons, List.map_cons, eqs_cc, eq_pr, eqs_prs m n]
    by_cases h1 : p = q <;> by_cases h2 : m = n <;> simp [h1, h2]
theorem eqs_strs : ∀ m n : List Tx, D.eqs (m.map .str) (n.map .str) = decide (m = n)
  | [], [] => rfl
  | [], _ :: _ => rfl
  | _ :: _, [] => rfl
  | p :: m, q :: n => by
    rw [List.map_cons, List.map_cons, eqs_cc, eq_ss, eqs_strs m n]
    by_cases h1 : p = q <;> by_cases h2 : m = n <;> simp [h1, h2]
theorem isIn_prs (p : Tx × Tx) (m : Mk) : isIn (prD p) (mkD m) = some (decide (p ∈ m)) := by
  rw [mkD, isIn_t, if_pos (by rw [D.ok, prD_flat, flats_map (fun p => prD_flat p 28)]; rfl), List.any_map]
  congr 1
  rw [Bool.eq_iff_iff, List.any_eq_true, decide_eq_true_eq]
  constructor
  · rintro ⟨q, hq, h⟩
    have h : D.eq (prD q) (prD p) = true := h
    rw [eq_pr, decide_eq_true_eq] at h
    rw [← h]; exact hq
  · exact fun h => ⟨p, h, by show D.eq (prD p) (prD p) = true; rw [eq_pr]; simp⟩
theorem isIn_strs (x : Tx) (m : List Tx) : isIn (.str x) (.tup (m.map .str)) = some (decide (x ∈ m)) := by
  rw [isIn_t, if_pos (by rw [D.ok, flat_s, flats_strs]; rfl), List.any_map]
  congr 1
  rw [Bool.eq_iff_iff, List.any_eq_true, decide_eq_true_eq]
  constructor
  · rintro ⟨q, hq, h⟩
    have h : D.eq (.str q) (.str x) = true := h
    rw [eq_ss, decide_eq_true_eq] at h
    rw [← h]; exact hq
  · exact fun h => ⟨x, h, by show D.eq (.str x) (.str x) = true; rw [eq_ss]; simp⟩
/-! looking up rows -/
def opD {α : Type} (f : α → D) : Option α → D
  | some x => f x
  | none => .non
def clsOf (cs : List Cls) (n : Tx) : Option Cls := (cs.filter fun c => decide (c.name = n)).head?
def wdOf (ws : List Wd) (k : Tx) : Option Wd := (ws.filter fun x => decide (x.key = k)).head?
theorem cls_flat (c : Cls) (n : Nat) : D.flat (n + 2) c.d = true := by
  simp only [Cls.d, flat_t, flats_c, flats_n, flat_s, flats_strs, Bool.and_true]
theorem wd_flat (c : Wd) (n : Nat) : D.flat (n + 1) c.d = true := by
  simp only [Wd.d, flat_t, flats_c, flats_n, flat_s, Bool.and_true]
theorem class_row_ok {N : Nat} (hN : 1 ≤ N) {cs : List Cls} {n : Tx} (hl : cs.length ≤ 1000) : callD P N k_class_row [.fz (.tup (cs.map Cls.d)), .fz (.str n)] = .ok (.fz (opD Cls.d (clsOf cs n))) [some (.fz (.tup (cs.map Cls.d))), some (.fz (.str n))] := by
  obtain ⟨M, rfl⟩ : ∃ M, N = M + 1 := ⟨N - 1, by omega⟩
  rw [call_eq (d := d_class_row) rfl rfl]
  have hE : evE (callD P M) c_class_row_1 [some (.fz (.tup (cs.map Cls.d))), some (.fz (.str n)), none, none] = .ok (.lst ((cs.filter fun c => decide (c.name = n)).map Cls.d)) [some (.fz (.tup (cs.map Cls.d))), some (.fz (.str n)), none, none] := by
    refine lc_if (xs := cs) (e := Cls.d) rfl (by rw [c_class_row_1, lcI_eq]; exact it_ev rfl rfl) (by simp only [mostLen]; omega) fun c hc => ?_
    generalize cs.map Cls.d = C
    by_cases h : c.name = n <;> dsimp! [cmpF, c_class_row_1, Cls.d, h]
  have hf := flats_map (n := 29) (fun c => cls_flat c 27) (cs.filter fun c => decide (c.name = n))
  rw [clsOf]
  generalize (cs.filter fun c => decide (c.name = n)) = fs at hE hf ⊢
  generalize cs.map Cls.d = C at *
  cases fs with
  | nil => simp_all! [b_class_row, hE, opD] <;> rfl
  | cons c fs =>
    rw [List.map_cons] at hE hf
    rw [flats_c, Bool.and_eq_true] at hf
    generalize fs.map Cls.d = Z at *
    generalize hz : c.d = z at *
    have k : (0 : Int) < (Z.length : Int) + 1 := by omega
    rw [show opD Cls.d (c :: fs).head? = z from hz]
    simp_all! [b_class_row, hE, hf.1, hf.2, k] <;> rfl
theorem entry_of_ok {N : Nat} (hN : 1 ≤ N) {s : Stk} {n : Tx} (hl : s.ws.length ≤ 1000) : callD P N k_entry_of [.fz s.d, .fz (.str n)] = .ok (.fz (opD Wd.d (wdOf s.ws n))) [some (.fz s.d), some (.fz (.str n))] := by
  obtain ⟨M, rfl⟩ : ∃ M, N = M + 1 := ⟨N - 1, by omega⟩
  rw [call_eq (d := d_entry_of) rfl rfl]
  obtain ⟨cs, rs, ws⟩ := s
  show _ = CRes.ok (.fz (opD Wd.d (wdOf ws n))) _
  have hl : ws.length ≤ 1000 := hl
  rw [Stk.d]
  simp only
  generalize cs.map Cls.d = C at *
  generalize rs.map Rul.d = Rr at *
  have hE : evE (callD P M) c_entry_of_1 [some (.fz (.tup [.tup C, .tup Rr, .tup (ws.map Wd.d)])), some (.fz (.str n)), none, none] = .ok (.lst ((ws.filter fun c => decide (c.key = n)).map Wd.d)) [some (.fz (.tup [.tup C, .tup Rr, .tup (ws.map Wd.d)])), some (.fz (.str n)), none, none] := by
    refine lc_if (xs := ws) (e := Wd.d) rfl ?_ (by simp only [mostLen]; omega) fun c hc => ?_
    · rw [c_entry_of_1, lcI_eq]
      generalize ws.map Wd.d = W
      dsimp! []
    · generalize ws.map Wd.d = W
      by_cases h : c.key = n <;> dsimp! [cmpF, c_entry_of_1, Wd.d, h]
  have hf := flats_map (n := 29) (fun c => wd_flat c 28) (ws.filter fun c => decide (c.key = n))
  rw [wdOf]
  generalize (ws.filter fun c => decide (c.key = n)) = fs at hE hf ⊢
  generalize ws.map Wd.d = W at *
  cases fs with
  | nil => simp_all! [b_entry_of, hE, opD] <;> rfl
  | cons c fs =>
    rw [List.map_cons] at hE hf
    rw [flats_c, Bool.and_eq_true] at hf
    generalize fs.map Wd.d = Z at *
    generalize hz : c.d = z at *
    have k : (0 : Int) < (Z.length : Int) + 1 := by omega
    rw [show opD Wd.d (c :: fs).head? = z from hz]
    simp_all! [b_entry_of, hE, hf.1, hf.2, k] <;> rfl
end K16
end
section
set_option linter.all false
set_option autoImplicit false
set_option maxRecDepth 100000
set_option maxHeartbeats 2000000
open Ev
namespace K16
theorem class_of_ok {N : Nat} (hN : 2 ≤ N) {s : Stk} {n : Tx} (hl : s.ws.length ≤ 1000) : callD P N k_class_of [.fz s.d, .fz (.str n)] = .ok (.fz (opD (fun x => .str x.cls) (wdOf s.ws n))) [some (.fz s.d), some (.fz (.str n))] := by
  obtain ⟨M, rfl⟩ : ∃ M, N = M + 1 := ⟨N - 1, by omega⟩
  rw [call_eq (d := d_class_of) rfl rfl]
  have e := entry_of_ok (N := M) (by omega) (s := s) (n := n) hl
  generalize s.d = S at *
  cases hw : wdOf s.ws n with
  | none => rw [hw] at e; simp_all! [b_class_of, e, opD] <;> rfl
  | some x => rw [hw] at e; simp_all! [b_class_of, e, opD, Wd.d, isNon] <;> rfl
theorem stk0 (s : Stk) : idx2 s.d (.int 0) = some (.tup (s.cs.map Cls.d)) := rfl
theorem stk1 (s : Stk) : idx2 s.d (.int 1) = some (.tup (s.rs.map Rul.d)) := rfl
theorem stk2 (s : Stk) : idx2 s.d (.int 2) = some (.tup (s.ws.map Wd.d)) := rfl
theorem slots_of_ok {N : Nat} (hN : 2 ≤ N) {s : Stk} {n : Tx} (hl : s.cs.length ≤ 1000) : callD P N k_slots_of [.fz s.d, .fz (.str n)] = .ok (.fz (opD (fun x => .tup (x.slots.map .str)) (clsOf s.cs n))) [some (.fz s.d), some (.fz (.str n))] := by
  obtain ⟨M, rfl⟩ : ∃ M, N = M + 1 := ⟨N - 1, by omega⟩
  rw [call_eq (d := d_slots_of) rfl rfl]
  have e := class_row_ok (N := M) (by omega) (cs := s.cs) (n := n) hl
  have e0 := stk0 s
  generalize s.d = S at *
  generalize s.cs.map Cls.d = C at *
  cases hw : clsOf s.cs n with
  | none => rw [hw] at e; simp_all! [b_slots_of, e0, e, opD] <;> rfl
  | some x =>
    rw [hw] at e
    generalize hz : x.slots.map D.str = Z at *
    simp_all! [b_slots_of, e0, e, opD, Cls.d, isNon, hz] <;> rfl
/-! values -/
def fixV : List (Tx × List Tx) := [(s_number, [s_one, s_many]), (s_fixed, [s_this, s_some, s_each, s_no]), (s_case, [s_WHO, s_WHAT, s_WHOM]), (s_time, [s_past, s_now, s_later]), (s_truth, [s_yes, s_no]), (s_mood, [s_tell, s_ask, s_bid, s_more]), (s_who, [s_one, s_many])]
def allSlots : List Tx := [s_number, s_fixed, s_case, s_time, s_truth, s_mood, s_who, s_kind]
def things (cs : List Cls) : List Tx := (cs.filter fun c => decide (c.kind = s_thing)).map Cls.name
def vals (cs : List Cls) (slot : Tx) : List Tx := if slot = s_kind then things cs else ((fixV.find? fun p => decide (p.1 = slot)).map (·.2)).getD []
theorem things_ev {N : Nat} {cs : List Cls} {x1 : Option OV} (hl : cs.length ≤ 1000) : evE (callD P N) c_values_in_1 [some (.fz (.tup (cs.map Cls.d))), x1, none, none, none] = .ok (.lst ((things cs).map .str)) [some (.fz (.tup (cs.map Cls.d))), x1, none, none, none] := by
  rw [things, List.map_map]
  refine lc_if (xs := cs) (e := Cls.d) rfl (by rw [c_values_in_1, lcI_eq]; exact it_ev rfl rfl) (by simp only [mostLen]; omega) fun c hc => ?_
  generalize cs.map Cls.d = C
  by_cases h : c.kind = s_thing <;> dsimp! [cmpF, c_values_in_1, Cls.d, h]
theorem lthings_ev {N : Nat} {cs : List Cls} {x1 : Option OV} (hl : cs.length ≤ 1000) : evE (callD P N) c_law_slot_values_1 [some (.fz (.tup (cs.map Cls.d))), x1, none] = .ok (.lst ((things cs).map .str)) [some (.fz (.tup (cs.map Cls.d))), x1, none] := by
  rw [things, List.map_map]
  refine lc_if (xs := cs) (e := Cls.d) rfl (by rw [c_law_slot_values_1, lcI_eq]; exact it_ev rfl rfl) (by simp only [mostLen]; omega) fun c hc => ?_
  generalize cs.map Cls.d = C
  by_cases h : c.kind = s_thing <;> dsimp! [cmpF, c_law_slot_values_1, Cls.d, h]
theorem values_in_ok {N : Nat} (hN : 1 ≤ N) {cs : List Cls} {slot : Tx} (hs : slot ∈ allSlots) (hl : cs.length ≤ 1000) : callD P N k_values_in [.fz (.tup (cs.map Cls.d)), .fz (.str slot)] = .ok (.fz (.tup ((vals cs slot).map .str))) [some (.fz (.tup (cs.map Cls.d))), some (.fz (.str slot))] := by
  obtain ⟨M, rfl⟩ : ∃ M, N = M + 1 := ⟨N - 1, by omega⟩
  rw [call_eq (d := d_values_in) rfl rfl]
  simp only [allSlots, List.mem_cons, List.not_mem_nil, or_false] at hs
  rcases hs with rfl | rfl | rfl | rfl | rfl | rfl | rfl | rfl
  · generalize cs.map Cls.d = C; rfl
  · generalize cs.map Cls.d = C; rfl
  · generalize cs.map Cls.d = C; rfl
  · generalize cs.map Cls.d = C; rfl
  · generalize cs.map Cls.d = C; rfl
  · generalize cs.map Cls.d = C; rfl
  · generalize cs.map Cls.d = C; rfl
  · have e := things_ev (N := M) (cs := cs) (x1 := some (.fz (.str s_kind))) hl
    rw [vals, if_pos rfl]
    generalize cs.map Cls.d = C at *
    generalize (things cs).map D.str = Z at *
    simp_all! [b_values_in, e] <;> rfl
theorem values_of_ok {N : Nat} (hN : 2 ≤ N) {s : Stk} {slot : Tx} (hs : slot ∈ allSlots) (hl : s.cs.length ≤ 1000) : callD P N k_values_of [.fz s.d, .fz (.str slot)] = .ok (.fz (.tup ((vals s.cs slot).map .str))) [some (.fz s.d), some (.fz (.str slot))] := by
  obtain ⟨M, rfl⟩ : ∃ M, N = M + 1 := ⟨N - 1, by omega⟩
  rw [call_eq (d := d_values_of) rfl rfl]
  have e := values_in_ok (N := M) (by omega) (cs := s.cs) hs hl
  have e0 := stk0 s
  generalize s.d = S at *
  generalize s.cs.map Cls.d = C at *
  generalize (vals s.cs slot).map D.str = Z at *
  simp_all! [b_values_of, e0, e] <;> rfl
theorem words_of_ok {N : Nat} (hN : 1 ≤ N) {cs : List Cls} {slot : Tx} (hs : slot ∈ allSlots) (hk : slot ≠ s_kind) : callD P N k_law_words_of [.fz (.str slot)] = .ok (.fz (.tup ((vals cs slot).map .str))) [some (.fz (.str slot))] := by
  obtain ⟨M, rfl⟩ : ∃ M, N = M + 1 := ⟨N - 1, by omega⟩
  simp only [allSlots, List.mem_cons, List.not_mem_nil, or_false] at hs
  rcases hs with rfl | rfl | rfl | rfl | rfl | rfl | rfl | rfl
  · rfl
  · rfl
  · rfl
  · rfl
  · rfl
  · rfl
  · rfl
  · exact absurd rfl hk
theorem slot_values_ok {N : Nat} (hN : 2 ≤ N) {cs : List Cls} {slot : Tx} (hs : slot ∈ allSlots) (hl : cs.length ≤ 1000) : callD P N k_law_slot_values [.fz (.tup (cs.map Cls.d)), .fz (.str slot)] = .ok (.fz (.tup ((vals cs slot).map .str))) [some (.fz (.tup (cs.map Cls.d))), some (.fz (.str slot))] := by
  obtain ⟨M, rfl⟩ : ∃ M, N = M + 1 := ⟨N - 1, by omega⟩
  rw [call_eq (d := d_law_slot_values) rfl rfl]
  by_cases hk : slot = s_kind
  · subst hk
    have e := lthings_ev (N := M) (cs := cs) (x1 := some (.fz (.str s_kind))) hl
    rw [vals, if_pos rfl]
    generalize cs.map Cls.d = C at *
    generalize (things cs).map D.str = Z at *
    simp_all! [b_law_slot_values, e] <;> rfl
  · have e := words_of_ok (N := M) (by omega) (cs := cs) hs hk
    generalize cs.map Cls.d = C at *
    generalize (vals cs slot).map D.str = Z at *
    simp_all! [b_law_slot_values, e, hk] <;> rfl
theorem law_class_ok {N : Nat} (hN : 1 ≤ N) {s : Stk} {n : Tx} (hl : s.cs.length ≤ 1000) : callD P N k_law_class [.fz s.d, .fz (.str n)] = .ok (.fz (opD Cls.d (clsOf s.cs n))) [some (.fz s.d), some (.fz (.str n))] := by
  obtain ⟨M, rfl⟩ : ∃ M, N = M + 1 := ⟨N - 1, by omega⟩
  rw [call_eq (d := d_law_class) rfl rfl]
  have e0 := stk0 s
  generalize s.d = S at *
  have hE : evE (callD P M) c_law_class_1 [some (.fz S), some (.fz (.str n)), none, none] = .ok (.lst ((s.cs.filter fun c => decide (c.name = n)).map Cls.d)) [some (.fz S), some (.fz (.str n)), none, none] := by
    refine lc_if (xs := s.cs) (e := Cls.d) rfl ?_ (by simp only [mostLen]; omega) fun c hc => ?_
    · rw [c_law_class_1, lcI_eq]
      generalize s.cs.map Cls.d = C at *
      dsimp! [e0]
    · by_cases h : c.name = n <;> dsimp! [cmpF, c_law_class_1, Cls.d, h]
  have hf := flats_map (n := 29) (fun c => cls_flat c 27) (s.cs.filter fun c => decide (c.name = n))
  rw [clsOf]
  generalize (s.cs.filter fun c => decide (c.name = n)) = fs at hE hf ⊢
  cases fs with
  | nil => simp_all! [b_law_class, hE, opD] <;> rfl
  | cons c fs =>
    rw [List.map_cons] at hE hf
    rw [flats_c, Bool.and_eq_true] at hf
    generalize fs.map Cls.d = Z at *
    generalize hz : c.d = z at *
    have k : (0 : Int) < (Z.length : Int) + 1 := by omega
    rw [show opD Cls.d (c :: fs).head? = z from hz]
    simp_all! [b_law_class, hE, hf.1, hf.2, k] <;> rfl
end K16
end
section
set_option linter.all false
set_option autoImplicit false
set_option maxRecDepth 100000
set_option maxHeartbeats 2000000
open Ev
namespace K16
def stepM (cs : List Cls) (found : List Mk) (slot : Tx) : List Mk := found.flatMap fun row => (vals cs slot).map fun v => row ++ [(slot, v)]
def marksF (cs : List Cls) (slots : List Tx) : List Mk := slots.foldl (stepM cs) [[]]
theorem things_len (cs : List Cls) : (things cs).length ≤ cs.length := by
  rw [things, List.length_map]; exact List.length_filter_le _ _
theorem fixV_len (slot : Tx) : (((fixV.find? fun p => decide (p.1 = slot)).map (·.2)).getD []).length ≤ 4 := by
  cases h : fixV.find? fun p => decide (p.1 = slot) with
  | none => simp
  | some p =>
    have := List.mem_of_find?_eq_some h
    simp only [fixV, List.mem_cons, List.not_mem_nil, or_false] at this
    rcases this with rfl | rfl | rfl | rfl | rfl | rfl | rfl <;> decide
theorem vals_len {cs : List Cls} (h : cs.length ≤ 4) (slot : Tx) : (vals cs slot).length ≤ 4 := by
  unfold vals
  split
  · exact Nat.le_trans (things_len cs) h
  · exact fixV_len slot
theorem stepM_len {cs : List Cls} (found : List Mk) (slot : Tx) : (stepM cs found slot).length = found.length * (vals cs slot).length := by
  unfold stepM
  induction found with
  | nil => simp
  | cons r f ih => rw [List.flatMap_cons, List.length_append, ih, List.length_map, List.length_cons, Nat.succ_mul, Nat.add_comm]
theorem marksF_snoc (cs : List Cls) (l : List Tx) (x : Tx) : marksF cs (l ++ [x]) = stepM cs (marksF cs l) x := by
  unfold marksF; rw [List.foldl_append]; rfl
theorem marks_len {cs : List Cls} (h : cs.length ≤ 4) (slots : List Tx) : (marksF cs slots).length ≤ 4 ^ slots.length := by
  induction slots using snoc_ind with
  | h0 => simp [marksF]
  | h1 l a ih =>
    rw [marksF_snoc, stepM_len, List.length_append, List.length_singleton, Nat.pow_succ]
    exact Nat.mul_le_mul ih (vals_len h a)
theorem marks_1024 {cs : List Cls} (h : cs.length ≤ 4) {slots : List Tx} (hs : slots.length ≤ 5) : (marksF cs slots).length ≤ 1024 :=
  Nat.le_trans (marks_len h slots) (Nat.le_trans (Nat.pow_le_pow_right (by omega) hs) (by decide))
theorem stepM_mem {cs : List Cls} {found : List Mk} {slot : Tx} {m : Mk} : m ∈ stepM cs found slot ↔ ∃ row ∈ found, ∃ v ∈ vals cs slot, m = row ++ [(slot, v)] := by
  unfold stepM
  rw [List.mem_flatMap]
  constructor
  · rintro ⟨row, h, h2⟩
    obtain ⟨v, hv, e⟩ := List.mem_map.mp h2
    exact ⟨row, h, v, hv, e.symm⟩
  · rintro ⟨row, h, v, hv, e⟩
    exact ⟨row, h, List.mem_map.mpr ⟨v, hv, e.symm⟩⟩
theorem marks_mem {cs : List Cls} : ∀ (slots : List Tx) (m : Mk), m ∈ marksF cs slots ↔ m.map (·.1) = slots ∧ ∀ p ∈ m, p.2 ∈ vals cs p.1 := by
  intro slots
  induction slots using snoc_ind with
  | h0 =>
    intro m
    show m ∈ [[]] ↔ _
    rw [List.mem_singleton, List.map_eq_nil_iff]
    constructor
    · rintro rfl; exact ⟨rfl, fun p hp => absurd hp List.not_mem_nil⟩
    · exact fun h => h.1
  | h1 l a ih =>
    intro m
    rw [marksF_snoc, stepM_mem]
    constructor
    · rintro ⟨row, h, v, hv, rfl⟩
      obtain ⟨h1, h2⟩ := (ih row).mp h
      refine ⟨by rw [List.map_append, h1]; rfl, fun p hp => ?_⟩
      rcases List.mem_append.mp hp with hp | hp
      · exact h2 p hp
      · rw [List.mem_singleton.mp hp]; exact hv
    · rintro ⟨h1, h2⟩
      have hne : m ≠ [] := by rintro rfl; simp at h1
      obtain ⟨row, ⟨x, v⟩, rfl⟩ : ∃ row p, m = row ++ [p] := ⟨m.dropLast, m.getLast hne, (List.dropLast_concat_getLast hne).symm⟩
      rw [List.map_append] at h1
      obtain ⟨h3, h4⟩ := List.append_inj' h1 rfl
      obtain rfl : x = a := by simpa using h4
      exact ⟨row, (ih row).mpr ⟨h3, fun p hp => h2 p (List.mem_append_left _ hp)⟩, v, h2 _ (List.mem_append_right _ (List.mem_singleton.mpr rfl)), rfl⟩
theorem marks_row {cs : List Cls} {slots : List Tx} {m : Mk} (h : m ∈ marksF cs slots) : m.length = slots.length := by
  rw [← ((marks_mem slots m).mp h).1, List.length_map]
theorem mks_flat (l : List Mk) (n : Nat) : D.flats (n + 2) (l.map mkD) = true := flats_map (fun m => mk_flat m n) l
theorem mkD_snoc (row : Mk) (x v : Tx) : mkD (row ++ [(x, v)]) = .tup (row.map prD ++ [.tup [.str x, .str v]]) := by rw [mkD, List.map_append]; rfl
/-- one turn of marks_of -/
theorem marks_ev {N : Nat} (hN : 2 ≤ N) {s : Stk} {found : List Mk} {slot : Tx} {x1 : Option OV} (hs : slot ∈ allSlots) (hl : s.cs.length ≤ 4) (hf : found.length ≤ 1024) (hr : ∀ m ∈ found, m.length ≤ 100) :
    evE (callD P N) c_marks_of_1 [some (.fz s.d), x1, some (.fz (.lst (found.map mkD))), some (.fz (.str slot)), none, none] = .ok (.lst ((stepM s.cs found slot).map mkD)) [some (.fz s.d), x1, some (.fz (.lst (found.map mkD))), some (.fz (.str slot)), none, none] := by
  have e1 := values_of_ok (N := N) hN (s := s) hs (by omega)
  have hv := vals_len hl slot
  have hL : (stepM s.cs found slot).length ≤ 5000 := by rw [stepM_len]; exact Nat.le_trans (Nat.mul_le_mul hf hv) (by decide)
  have hm : (stepM s.cs found slot).map mkD = found.flatMap fun row => (vals s.cs slot).map fun v => mkD (row ++ [(slot, v)]) := by
    rw [stepM, List.map_flatMap]; congr 1; funext row; rw [List.map_map]; rfl
  rw [← List.length_map (f := mkD), hm] at hL
  rw [hm]
  generalize s.d = S at *
  generalize hV : vals s.cs slot = V at *
  refine lc2_typ (xs := found) (e := mkD) (f := fun row => V.map fun v => mkD (row ++ [(slot, v)])) rfl ?_ (Nat.le_trans hL (by simp only [mostLen]; omega)) fun row hrow acc hacc => ?_
  · generalize found.map mkD = F
    rfl
  · have hr := hr row hrow
    have hi := lcGo_typ (f := lcFn (callD P N) (.bin .add (.var 4) (.tup (.cons (.tup (.cons (.var 3) (.cons (.var 5) .nil))) .nil))) (.nm 5) .nil [5]) (ρ := [some (.fz S), x1, some (.fz (.lst (found.map mkD))), some (.fz (.str slot)), some (.fz (mkD row)), none]) (e := D.str) (p := fun _ => true) (r := fun v => mkD (row ++ [(slot, v)])) (xs := V) (acc := acc) ?_ ?_
    · rw [List.filter_eq_self.mpr fun _ _ => rfl] at hi
      generalize found.map mkD = F at *
      generalize hW : V.map D.str = W at *
      generalize (V.map fun v => mkD (row ++ [(slot, v)])) = Y at *
      generalize mkD row = Rw at *
      rw [c_marks_of_1]
      dsimp! [lc2O, e1, hi] <;> rfl
    · intro v hv
      generalize found.map mkD = F at *
      rw [mkD_snoc, mkD]
      have hh : (row.map prD).length ≤ 100 := by rw [List.length_map]; exact hr
      generalize row.map prD = Rw at *
      have k : Rw.length + 1 ≤ 16777216 := by omega
      dsimp! [k] <;> rfl
    · rw [List.length_map] at hacc; exact hacc
theorem marks_of_ok {N : Nat} (hN : 3 ≤ N) {s : Stk} {n : Tx} {c : Cls} (hc : clsOf s.cs n = some c) (h5 : c.slots.length ≤ 5) (hs : ∀ x ∈ c.slots, x ∈ allSlots) (hl : s.cs.length ≤ 4) :
    callD P N k_marks_of [.fz s.d, .fz (.str n)] = .ok (.fz (.tup ((marksF s.cs c.slots).map mkD))) [some (.fz s.d), some (.fz (.str n))] := by
  obtain ⟨M, rfl⟩ : ∃ M, N = M + 1 := ⟨N - 1, by omega⟩
  rw [call_eq (d := d_marks_of) rfl rfl]
  have e0 := slots_of_ok (N := M) (by omega) (s := s) (n := n) (by omega)
  rw [hc] at e0
  obtain ⟨ρ, e, x3, rfl⟩ := for_inv (cl := callD P M) (s := l_marks_of_2) (ρ := [some (.fz s.d), some (.fz (.str n)), some (.fz (.lst [.tup []])), none, none, none]) (xs := c.slots) (e := D.str)
    (I := fun pre ρ => ∃ x3, ρ = [some (.fz s.d), some (.fz (.str n)), some (.fz (.lst ((marksF s.cs pre).map mkD))), x3, none, none])
    rfl (by generalize hz : c.slots.map D.str = Z at *; generalize s.d = S at *; rw [l_marks_of_2, forI_eq]; dsimp! [e0, opD, hz] <;> rfl) ⟨none, rfl⟩ (fun pre x post ρ hx hI => by
      obtain ⟨x3, rfl⟩ := hI
      have hp : pre.length ≤ 5 := by rw [hx, List.length_append] at h5; omega
      have e := marks_ev (N := M) (by omega) (s := s) (found := marksF s.cs pre) (slot := x) (x1 := some (.fz (.str n))) (hs x (by rw [hx]; simp)) hl (marks_1024 hl hp) (fun m hm => by rw [marks_row hm]; omega)
      rw [← marksF_snoc] at e
      refine ⟨_, ?_, some (.fz (.str x)), rfl⟩
      generalize (marksF s.cs pre).map mkD = F at *
      generalize (marksF s.cs (pre ++ [x])).map mkD = F2 at *
      generalize s.d = S at *
      dsimp! [lpF, l_marks_of_2, e] <;> rfl)
  generalize (marksF s.cs c.slots).map mkD = F at *
  generalize s.d = S at *
  simp_all! [b_marks_of, e] <;> rfl
end K16
end
section
set_option linter.all false
set_option autoImplicit false
set_option maxRecDepth 100000
set_option maxHeartbeats 2000000
open Ev
namespace K16
theorem addl' {l m : List D} (h : l.length + m.length ≤ 16777216) : bin2 .add (.lst l) (.lst m) = some (.lst (l ++ m)) := by rw [b_addl]; exact if_pos h
theorem addt' {l m : List D} (h : l.length + m.length ≤ 16777216) : bin2 .add (.tup l) (.tup m) = some (.fz (.tup (l ++ m))) := by rw [b_addt]; exact if_pos h
theorem lmarks_in {N : Nat} (hN : 2 ≤ N) {s : Stk} {row : Mk} {slot : Tx} {x1 x2 x4 : Option OV} (hs : slot ∈ allSlots) (hl : s.cs.length ≤ 4) (hr : row.length ≤ 100) :
    evE (callD P N) c_law_marks_1 [some (.fz s.d), x1, x2, some (.fz (.str slot)), x4, some (.fz (mkD row)), none] = .ok (.lst ((vals s.cs slot).map fun v => mkD (row ++ [(slot, v)]))) [some (.fz s.d), x1, x2, some (.fz (.str slot)), x4, some (.fz (mkD row)), none] := by
  have e1 := slot_values_ok (N := N) hN (cs := s.cs) hs (by omega)
  have e0 := stk0 s
  have hv := vals_len hl slot
  generalize s.d = S at *
  generalize s.cs.map Cls.d = C at *
  refine lc_map (xs := vals s.cs slot) (e := D.str) rfl ?_ (by simp only [mostLen]; omega) fun v hv => ?_
  · generalize (vals s.cs slot).map D.str = V at *
    rw [c_law_marks_1, lcI_eq]
    dsimp! [e0, e1] <;> rfl
  · rw [mkD_snoc, mkD]
    have hh : (row.map prD).length ≤ 100 := by rw [List.length_map]; exact hr
    generalize row.map prD = Rw at *
    have k : Rw.length + 1 ≤ 16777216 := by omega
    dsimp! [cmpF, c_law_marks_1, k] <;> rfl
theorem lmarks_turn {N : Nat} (hN : 2 ≤ N) {s : Stk} {found : List Mk} {slot : Tx} {x1 x5 : Option OV} (hs : slot ∈ allSlots) (hl : s.cs.length ≤ 4) (hf : found.length ≤ 1024) (hr : ∀ m ∈ found, m.length ≤ 100) :
    ∃ y5, evS (callD P N) l_law_marks_2 [some (.fz s.d), x1, some (.fz (.lst (found.map mkD))), some (.fz (.str slot)), some (.fz (.lst [])), x5, none] = .ok .nx [some (.fz s.d), x1, some (.fz (.lst (found.map mkD))), some (.fz (.str slot)), some (.fz (.lst ((stepM s.cs found slot).map mkD))), y5, none] := by
  obtain ⟨ρ, e, y5, rfl⟩ := for_inv (cl := callD P N) (s := l_law_marks_2) (ρ := [some (.fz s.d), x1, some (.fz (.lst (found.map mkD))), some (.fz (.str slot)), some (.fz (.lst [])), x5, none]) (xs := found) (e := mkD)
    (I := fun pre ρ => ∃ y5, ρ = [some (.fz s.d), x1, some (.fz (.lst (found.map mkD))), some (.fz (.str slot)), some (.fz (.lst ((stepM s.cs pre slot).map mkD))), y5, none])
    rfl (by generalize found.map mkD = F; generalize s.d = S; rfl) ⟨x5, rfl⟩ (fun pre row post ρ hx hI => by
      obtain ⟨y5, rfl⟩ := hI
      have hrow : row ∈ found := by rw [hx]; simp
      have hp : pre.length < found.length := by rw [hx]; simp
      have e := lmarks_in (N := N) hN (s := s) (row := row) (slot := slot) (x1 := x1) (x2 := some (.fz (.lst (found.map mkD)))) (x4 := some (.fz (.lst ((stepM s.cs pre slot).map mkD)))) hs hl (hr row hrow)
      have e2 : stepM s.cs (pre ++ [row]) slot = stepM s.cs pre slot ++ (vals s.cs slot).map fun v => row ++ [(slot, v)] := by unfold stepM; rw [List.flatMap_append]; simp
      have hm : ((vals s.cs slot).map fun v => row ++ [(slot, v)]).map mkD = (vals s.cs slot).map fun v => mkD (row ++ [(slot, v)]) := by rw [List.map_map]; rfl
      have hL : ((stepM s.cs pre slot).map mkD).length + ((vals s.cs slot).map fun v => mkD (row ++ [(slot, v)])).length ≤ 16777216 := by
        rw [List.length_map, List.length_map, stepM_len]
        have h1 := vals_len hl slot
        have h2 := Nat.mul_le_mul (Nat.le_trans (Nat.le_of_lt hp) hf) h1
        omega
      refine ⟨_, ?_, some (.fz (mkD row)), rfl⟩
      have hA := addl' hL
      rw [e2, List.map_append, hm]
      generalize found.map mkD = F at *
      generalize ((vals s.cs slot).map fun v => mkD (row ++ [(slot, v)])) = F1 at *
      generalize (stepM s.cs pre slot).map mkD = F2 at *
      generalize s.d = S at *
      generalize mkD row = Rw at *
      dsimp! [↓hA, lpF, l_law_marks_2, e] <;> rfl)
  exact ⟨y5, e⟩
theorem law_marks_ok {N : Nat} (hN : 3 ≤ N) {s : Stk} {n : Tx} {c : Cls} (hc : clsOf s.cs n = some c) (h5 : c.slots.length ≤ 5) (hs : ∀ x ∈ c.slots, x ∈ allSlots) (hl : s.cs.length ≤ 4) :
    callD P N k_law_marks [.fz s.d, .fz (.str n)] = .ok (.fz (.lst ((marksF s.cs c.slots).map mkD))) [some (.fz s.d), some (.fz (.str n))] := by
  obtain ⟨M, rfl⟩ : ∃ M, N = M + 1 := ⟨N - 1, by omega⟩
  rw [call_eq (d := d_law_marks) rfl rfl]
  have e0 := law_class_ok (N := M) (by omega) (s := s) (n := n) (by omega)
  rw [hc] at e0
  obtain ⟨ρ, e, x3, x4, x5, rfl⟩ := for_inv (cl := callD P M) (s := l_law_marks_3) (ρ := [some (.fz s.d), some (.fz (.str n)), some (.fz (.lst [.tup []])), none, none, none, none]) (xs := c.slots) (e := D.str)
    (I := fun pre ρ => ∃ x3 x4 x5, ρ = [some (.fz s.d), some (.fz (.str n)), some (.fz (.lst ((marksF s.cs pre).map mkD))), x3, x4, x5, none])
    rfl (by generalize hz : c.slots.map D.str = Z at *; generalize s.d = S at *; rw [l_law_marks_3, forI_eq]; dsimp! [e0, opD, Cls.d, hz] <;> rfl) ⟨none, none, none, rfl⟩ (fun pre x post ρ hx hI => by
      obtain ⟨x3, x4, x5, rfl⟩ := hI
      have hp : pre.length ≤ 5 := by rw [hx, List.length_append] at h5; omega
      obtain ⟨y5, e⟩ := lmarks_turn (N := M) (by omega) (s := s) (found := marksF s.cs pre) (slot := x) (x1 := some (.fz (.str n))) (x5 := x5) (hs x (by rw [hx]; simp)) hl (marks_1024 hl hp) (fun m hm => by rw [marks_row hm]; omega)
      rw [← marksF_snoc] at e
      refine ⟨_, ?_, some (.fz (.str x)), some (.fz (.lst ((marksF s.cs (pre ++ [x])).map mkD))), y5, rfl⟩
      generalize (marksF s.cs pre).map mkD = F at *
      generalize (marksF s.cs (pre ++ [x])).map mkD = F2 at *
      generalize s.d = S at *
      dsimp! [lpF, l_law_marks_3, e] <;> rfl)
  generalize (marksF s.cs c.slots).map mkD = F at *
  generalize s.d = S at *
  simp_all! [b_law_marks, e] <;> rfl
theorem allB_bl (l : List Bool) : allB (l.map .bl) = some l := by
  induction l with
  | nil => rfl
  | cons b l ih => rw [List.map_cons]; show (allB (l.map .bl)).map (b :: ·) = _; rw [ih]; rfl
end K16
end
section
set_option linter.all false
set_option autoImplicit false
set_option maxRecDepth 100000
set_option maxHeartbeats 2000000
open Ev
namespace K16
theorem prm {N : Nat} {m : Mk} {x0 x1 x3 : Option OV} (hm : m.length ≤ 1000) : evE (callD P N) c_are_marks_2 [x0, x1, some (.fz (mkD m)), x3, none, none, none] = .ok (.lst ((m.map (·.1)).map .str)) [x0, x1, some (.fz (mkD m)), x3, none, none, none] := by
  rw [List.map_map]
  refine lc_map (xs := m) (e := prD) rfl ?_ (by simp only [mostLen]; omega) fun p hp => ?_
  · rw [mkD]; generalize m.map prD = M; rfl
  · generalize mkD m = M
    rw [prD]
    dsimp! [cmpF, c_are_marks_2] <;> rfl
theorem are_in {N : Nat} (hN : 2 ≤ N) {s : Stk} {m : Mk} {x1 x3 : Option OV} (hm : m.length ≤ 1000) (hl : s.cs.length ≤ 4) (hs : ∀ p ∈ m, p.1 ∈ allSlots) :
    evE (callD P N) c_are_marks_1 [some (.fz s.d), x1, some (.fz (mkD m)), x3, none, none, none] = .ok (.lst ((m.map fun p => decide (p.2 ∈ vals s.cs p.1)).map .bl)) [some (.fz s.d), x1, some (.fz (mkD m)), x3, none, none, none] := by
  rw [List.map_map]
  refine lc_map (xs := m) (e := prD) rfl ?_ (by simp only [mostLen]; omega) fun p hp => ?_
  · rw [mkD]; generalize m.map prD = M; rfl
  · have e1 := values_of_ok (N := N) hN (s := s) (hs p hp) (by omega)
    have e2 := isIn_strs p.2 (vals s.cs p.1)
    have hf : D.flats 29 ((vals s.cs p.1).map D.str) = true := flats_strs
    generalize (vals s.cs p.1).map D.str = V at *
    rw [isIn_t, if_pos (by rw [hf, D.ok, flat_s]; rfl), Option.some.injEq] at e2
    have e2 : (V.any fun y => y.eq (.str p.2)) = decide (p.2 ∈ vals s.cs p.1) := e2
    generalize mkD m = M
    generalize s.d = S at *
    rw [prD]
    dsimp! [cmpF, c_are_marks_1, e1, hf, e2]
theorem are_marks_ok {N : Nat} (hN : 3 ≤ N) {s : Stk} {n : Tx} {c : Cls} {m : Mk} (hc : clsOf s.cs n = some c) (hm : m.length ≤ 1000) (hs : ∀ x ∈ c.slots, x ∈ allSlots) (hl : s.cs.length ≤ 4) :
    callD P N k_are_marks [.fz s.d, .fz (.str n), .fz (mkD m)] = .ok (.fz (.bl (decide (m ∈ marksF s.cs c.slots)))) [some (.fz s.d), some (.fz (.str n)), some (.fz (mkD m))] := by
  obtain ⟨M, rfl⟩ : ∃ M, N = M + 1 := ⟨N - 1, by omega⟩
  rw [call_eq (d := d_are_marks) rfl rfl]
  have e0 := slots_of_ok (N := M) (by omega) (s := s) (n := n) (by omega)
  rw [hc] at e0
  simp only [opD] at e0
  have e1 := prm (N := M) (m := m) (x0 := some (.fz s.d)) (x1 := some (.fz (.str n))) (x3 := some (.fz (.tup (c.slots.map .str)))) hm
  have hne := eqs_strs (m.map (·.1)) c.slots
  have hfA : D.flats 29 ((m.map (·.1)).map D.str) = true := flats_strs
  have hfC : D.flats 29 (c.slots.map D.str) = true := flats_strs
  by_cases h : m.map (·.1) = c.slots
  · have hs' : ∀ p ∈ m, p.1 ∈ allSlots := fun p hp => hs _ (by rw [← h]; exact List.mem_map_of_mem hp)
    have e2 := are_in (N := M) (by omega) (s := s) (m := m) (x1 := some (.fz (.str n))) (x3 := some (.fz (.tup (c.slots.map .str)))) hm hl hs'
    have e3 : bi1 .all (.lst ((m.map fun p => decide (p.2 ∈ vals s.cs p.1)).map .bl)) = some (.fz (.bl (decide (m ∈ marksF s.cs c.slots)))) := by
      rw [i_all, allB_bl, Option.map_some]
      congr 3
      rw [Bool.eq_iff_iff, List.all_eq_true, decide_eq_true_eq, marks_mem]
      constructor
      · intro hh
        refine ⟨h, fun p hp => ?_⟩
        simpa using hh _ (List.mem_map_of_mem hp)
      · rintro ⟨_, hh⟩ b hb
        obtain ⟨p, hp, rfl⟩ := List.mem_map.mp hb
        simpa using hh p hp
    rw [decide_eq_true h] at hne
    generalize decide (m ∈ marksF s.cs c.slots) = R at *
    generalize ((m.map fun p => decide (p.2 ∈ vals s.cs p.1)).map D.bl) = B at *
    generalize (m.map (·.1)).map D.str = A at *
    generalize c.slots.map D.str = C at *
    generalize mkD m = Mm at *
    generalize s.d = S at *
    rw [i_all] at e3
    simp_all! [hne, hfA, hfC, b_are_marks, e0, e1, e2, e3] <;> rfl
  · have hR : decide (m ∈ marksF s.cs c.slots) = false := decide_eq_false fun hh => h ((marks_mem _ _).mp hh).1
    rw [hR]
    rw [decide_eq_false h] at hne
    generalize (m.map (·.1)).map D.str = A at *
    generalize c.slots.map D.str = C at *
    generalize mkD m = Mm at *
    generalize s.d = S at *
    simp_all! [hne, hfA, hfC, b_are_marks, e0, e1] <;> rfl
/-! chains -/
def chainF (rs : List Rul) (n : Tx) (m : Mk) : List Stp := rs.flatMap fun r => if r.own = n ∧ ∀ p ∈ r.conds, p ∈ m then r.chain else []
theorem all_in {N : Nat} {r : Rul} {m : Mk} {x0 x1 x3 x4 x6 : Option OV} (hm : m.length ≤ 1000) (hr : r.conds.length ≤ 1000) :
    evE (callD P N) c_chain_of_1 [x0, x1, some (.fz (mkD m)), x3, x4, some (.fz (mkD r.conds)), x6, none] = .ok (.lst ((r.conds.map fun p => decide (p ∈ m)).map .bl)) [x0, x1, some (.fz (mkD m)), x3, x4, some (.fz (mkD r.conds)), x6, none] := by
  rw [List.map_map]
  refine lc_map (xs := r.conds) (e := prD) rfl ?_ (by simp only [mostLen]; omega) fun p hp => ?_
  · rw [mkD, mkD]; generalize r.conds.map prD = M; generalize m.map prD = M2; rfl
  · have e3 := isIn_prs p m
    generalize mkD m = M at *
    generalize mkD r.conds = M2 at *
    generalize hq : prD p = q at *
    dsimp! [e3, cmpF, c_chain_of_1] <;> rfl
theorem none_out {N : Nat} {r : Rul} {m : Mk} {x0 x1 x3 x4 x6 : Option OV} (hm : m.length ≤ 1000) (hr : r.conds.length ≤ 1000) :
    evE (callD P N) c_law_chain_of_1 [x0, x1, some (.fz (mkD m)), x3, x4, some (.fz (mkD r.conds)), x6, none] = .ok (.lst ((r.conds.filter fun p => !decide (p ∈ m)).map prD)) [x0, x1, some (.fz (mkD m)), x3, x4, some (.fz (mkD r.conds)), x6, none] := by
  refine lc_if (xs := r.conds) (e := prD) rfl ?_ (by simp only [mostLen]; omega) fun p hp => ?_
  · rw [mkD, mkD]; generalize r.conds.map prD = M; generalize m.map prD = M2; rfl
  · have e3 := isIn_prs p m
    generalize mkD m = M at *
    generalize mkD r.conds = M2 at *
    generalize hq : prD p = q at *
    by_cases h : p ∈ m <;> dsimp! [e3, cmpF, c_law_chain_of_1, h] <;> rfl
theorem chD_app (a b : List Stp) : chD (a ++ b) = chD a ++ chD b := by rw [chD, List.map_append]; rfl
theorem chainF_snoc (pre : List Rul) (r : Rul) (n : Tx) (m : Mk) : chainF (pre ++ [r]) n m = chainF pre n m ++ if r.own = n ∧ ∀ p ∈ r.conds, p ∈ m then r.chain else [] := by
  unfold chainF; rw [List.flatMap_append]; simp
theorem chainF_len {rs : List Rul} (n : Tx) (m : Mk) (h : ∀ r ∈ rs, r.chain.length ≤ 2) : (chainF rs n m).length ≤ 2 * rs.length := by
  induction rs using snoc_ind with
  | h0 => simp [chainF]
  | h1 l a ih =>
    rw [chainF_snoc, List.length_append, List.length_append, List.length_singleton]
    have := ih fun r hr => h r (List.mem_append_left _ hr)
    have h2 := h a (by simp)
    split
    · omega
    · simp; omega
structure RulOk (r : Rul) : Prop where
  conds : r.conds.length ≤ 100
  chain : r.chain.length ≤ 2
  good : ∀ s ∈ r.chain, s.Good
theorem ch_turn {N : Nat} {r : Rul} {n : Tx} {m : Mk} {acc : List D} {x0 x4 x5 x6 : Option OV} (hm : m.length ≤ 1000) (hr : RulOk r) (ha : acc.length ≤ 1000) :
    lpF (callD P N) l_chain_of_2 r.d [x0, some (.fz (.str n)), some (.fz (mkD m)), some (.fz (.tup acc)), x4, x5, x6, none] = .ok .nx [x0, some (.fz (.str n)), some (.fz (mkD m)), some (.fz (.tup (acc ++ chD (if r.own = n ∧ ∀ p ∈ r.conds, p ∈ m then r.chain else [])))), some (.fz (.str r.own)), some (.fz (mkD r.conds)), some (.fz (.tup (chD r.chain))), none] := by
  have e := all_in (N := N) (r := r) (m := m) (x0 := x0) (x1 := some (.fz (.str n))) (x3 := some (.fz (.tup acc))) (x4 := some (.fz (.str r.own))) (x6 := some (.fz (.tup (chD r.chain)))) hm (by have := hr.conds; omega)
  have e3 : bi1 .all (.lst ((r.conds.map fun p => decide (p ∈ m)).map .bl)) = some (.fz (.bl (decide (∀ p ∈ r.conds, p ∈ m)))) := by
    rw [i_all, allB_bl, Option.map_some]
    congr 3
    rw [Bool.eq_iff_iff, List.all_eq_true, decide_eq_true_eq]
    constructor
    · intro hh p hp
      simpa using hh _ (List.mem_map_of_mem hp)
    · rintro hh b hb
      obtain ⟨p, hp, rfl⟩ := List.mem_map.mp hb
      simpa using hh p hp
  have hk : (chD r.chain).length ≤ 2 := by rw [chD, List.length_map]; exact hr.chain
  have hA : bin2 .add (.tup acc) (.tup (chD r.chain)) = some (.fz (.tup (acc ++ chD r.chain))) := addt' (by omega)
  have hd : r.d = .tup [.str r.own, mkD r.conds, .tup (chD r.chain)] := rfl
  rw [hd]
  have hnil : chD [] = [] := rfl
  generalize ((r.conds.map fun p => decide (p ∈ m)).map D.bl) = B at *
  generalize mkD m = Mm at *
  generalize mkD r.conds = Cc at *
  by_cases h1 : r.own = n
  · by_cases h2 : ∀ p ∈ r.conds, p ∈ m
    · rw [if_pos ⟨h1, h2⟩]
      rw [decide_eq_true h2] at e3
      generalize chD r.chain = Ch at *
      rw [i_all] at e3
      rw [h1] at e ⊢
      dsimp! [↓hA, lpF, l_chain_of_2, e, e3] <;> rfl
    · rw [if_neg (fun hh => h2 hh.2), hnil, List.append_nil]
      rw [decide_eq_false h2] at e3
      generalize chD r.chain = Ch at *
      rw [i_all] at e3
      rw [h1] at e ⊢
      dsimp! [↓hA, lpF, l_chain_of_2, e, e3] <;> rfl
  · rw [if_neg (fun hh => h1 hh.1), hnil, List.append_nil]
    generalize chD r.chain = Ch at *
    dsimp! [↓hA, lpF, l_chain_of_2, h1] <;> rfl
end K16
end
section
set_option linter.all false
set_option autoImplicit false
set_option maxRecDepth 100000
set_option maxHeartbeats 2000000
open Ev
namespace K16
theorem prs_flat (m : Mk) (n : Nat) : D.flats (n + 1) (m.map prD) = true := flats_map (fun p => prD_flat p n) m
theorem lch_turn {N : Nat} {r : Rul} {n : Tx} {m : Mk} {acc : List D} {x0 x4 x5 x6 : Option OV} (hm : m.length ≤ 1000) (hr : RulOk r) (ha : acc.length ≤ 1000) :
    lpF (callD P N) l_law_chain_of_2 r.d [x0, some (.fz (.str n)), some (.fz (mkD m)), some (.fz (.tup acc)), x4, x5, x6, none] = .ok .nx [x0, some (.fz (.str n)), some (.fz (mkD m)), some (.fz (.tup (acc ++ chD (if r.own = n ∧ ∀ p ∈ r.conds, p ∈ m then r.chain else [])))), some (.fz (.str r.own)), some (.fz (mkD r.conds)), some (.fz (.tup (chD r.chain))), none] := by
  have e := none_out (N := N) (r := r) (m := m) (x0 := x0) (x1 := some (.fz (.str n))) (x3 := some (.fz (.tup acc))) (x4 := some (.fz (.str r.own))) (x6 := some (.fz (.tup (chD r.chain)))) hm (by have := hr.conds; omega)
  have hf := prs_flat (r.conds.filter fun p => !decide (p ∈ m)) 28
  have hk : (chD r.chain).length ≤ 2 := by rw [chD, List.length_map]; exact hr.chain
  have hA : bin2 .add (.tup acc) (.tup (chD r.chain)) = some (.fz (.tup (acc ++ chD r.chain))) := addt' (by omega)
  have hd : r.d = .tup [.str r.own, mkD r.conds, .tup (chD r.chain)] := rfl
  rw [hd]
  have hnil : chD [] = [] := rfl
  by_cases h1 : r.own = n
  · by_cases h2 : ∀ p ∈ r.conds, p ∈ m
    · rw [if_pos ⟨h1, h2⟩]
      rw [show (r.conds.filter fun p => !decide (p ∈ m)) = [] from List.filter_eq_nil_iff.mpr fun p hp => by simp [h2 p hp]] at e
      generalize mkD m = Mm at *
      generalize mkD r.conds = Cc at *
      generalize chD r.chain = Ch at *
      rw [h1] at e ⊢
      dsimp! [↓hA, lpF, l_law_chain_of_2, e] <;> rfl
    · rw [if_neg (fun hh => h2 hh.2), hnil, List.append_nil]
      obtain ⟨q, qs, hq⟩ : ∃ q qs, (r.conds.filter fun p => !decide (p ∈ m)) = q :: qs := by
        cases hh : (r.conds.filter fun p => !decide (p ∈ m)) with
        | nil => exact absurd (fun p hp => by simpa using List.filter_eq_nil_iff.mp hh p hp) h2
        | cons q qs => exact ⟨q, qs, rfl⟩
      rw [hq, List.map_cons] at e hf
      rw [flats_c, Bool.and_eq_true] at hf
      generalize mkD m = Mm at *
      generalize mkD r.conds = Cc at *
      generalize chD r.chain = Ch at *
      generalize prD q = Q at *
      generalize qs.map prD = Qs at *
      rw [h1] at e ⊢
      dsimp! [lpF, l_law_chain_of_2, e, hf.1, hf.2] <;> rfl
  · rw [if_neg (fun hh => h1 hh.1), hnil, List.append_nil]
    generalize mkD m = Mm at *
    generalize mkD r.conds = Cc at *
    generalize chD r.chain = Ch at *
    dsimp! [lpF, l_law_chain_of_2, h1] <;> rfl
theorem chD_len (l : List Stp) : (chD l).length = l.length := by rw [chD, List.length_map]
theorem chain_of_ok {N : Nat} (hN : 1 ≤ N) {s : Stk} {n : Tx} {m : Mk} (hm : m.length ≤ 1000) (hr : ∀ r ∈ s.rs, RulOk r) (hl : s.rs.length ≤ 100) :
    callD P N k_chain_of [.fz s.d, .fz (.str n), .fz (mkD m)] = .ok (.fz (.tup (chD (chainF s.rs n m)))) [some (.fz s.d), some (.fz (.str n)), some (.fz (mkD m))] := by
  obtain ⟨M, rfl⟩ : ∃ M, N = M + 1 := ⟨N - 1, by omega⟩
  rw [call_eq (d := d_chain_of) rfl rfl]
  have e0 := stk1 s
  generalize s.d = S at *
  obtain ⟨ρ, e, x4, x5, x6, rfl⟩ := for_inv (cl := callD P M) (s := l_chain_of_2) (ρ := [some (.fz S), some (.fz (.str n)), some (.fz (mkD m)), some (.fz (.tup [])), none, none, none, none]) (xs := s.rs) (e := Rul.d)
    (I := fun pre ρ => ∃ x4 x5 x6, ρ = [some (.fz S), some (.fz (.str n)), some (.fz (mkD m)), some (.fz (.tup (chD (chainF pre n m)))), x4, x5, x6, none])
    rfl (by generalize s.rs.map Rul.d = R at *; generalize mkD m = Mm at *; rw [l_chain_of_2, forI_eq]; dsimp! [e0] <;> rfl) ⟨none, none, none, rfl⟩ (fun pre r post ρ hx hI => by
      obtain ⟨x4, x5, x6, rfl⟩ := hI
      have hp : pre.length ≤ 100 := by rw [hx, List.length_append] at hl; omega
      have hc := chainF_len (rs := pre) n m fun r hr' => (hr r (by rw [hx]; exact List.mem_append_left _ hr')).chain
      refine ⟨_, ch_turn hm (hr r (by rw [hx]; simp)) (by rw [chD_len]; omega), some (.fz (.str r.own)), some (.fz (mkD r.conds)), some (.fz (.tup (chD r.chain))), ?_⟩
      rw [chainF_snoc, chD_app])
  generalize chD (chainF s.rs n m) = F at *
  generalize mkD m = Mm at *
  simp_all! [b_chain_of, e] <;> rfl
theorem law_chain_of_ok {N : Nat} (hN : 1 ≤ N) {s : Stk} {n : Tx} {m : Mk} (hm : m.length ≤ 1000) (hr : ∀ r ∈ s.rs, RulOk r) (hl : s.rs.length ≤ 100) :
    callD P N k_law_chain_of [.fz s.d, .fz (.str n), .fz (mkD m)] = .ok (.fz (.tup (chD (chainF s.rs n m)))) [some (.fz s.d), some (.fz (.str n)), some (.fz (mkD m))] := by
  obtain ⟨M, rfl⟩ : ∃ M, N = M + 1 := ⟨N - 1, by omega⟩
  rw [call_eq (d := d_law_chain_of) rfl rfl]
  have e0 := stk1 s
  generalize s.d = S at *
  obtain ⟨ρ, e, x4, x5, x6, rfl⟩ := for_inv (cl := callD P M) (s := l_law_chain_of_2) (ρ := [some (.fz S), some (.fz (.str n)), some (.fz (mkD m)), some (.fz (.tup [])), none, none, none, none]) (xs := s.rs) (e := Rul.d)
    (I := fun pre ρ => ∃ x4 x5 x6, ρ = [some (.fz S), some (.fz (.str n)), some (.fz (mkD m)), some (.fz (.tup (chD (chainF pre n m)))), x4, x5, x6, none])
    rfl (by generalize s.rs.map Rul.d = R at *; generalize mkD m = Mm at *; rw [l_law_chain_of_2, forI_eq]; dsimp! [e0] <;> rfl) ⟨none, none, none, rfl⟩ (fun pre r post ρ hx hI => by
      obtain ⟨x4, x5, x6, rfl⟩ := hI
      have hp : pre.length ≤ 100 := by rw [hx, List.length_append] at hl; omega
      have hc := chainF_len (rs := pre) n m fun r hr' => (hr r (by rw [hx]; exact List.mem_append_left _ hr')).chain
      refine ⟨_, lch_turn hm (hr r (by rw [hx]; simp)) (by rw [chD_len]; omega), some (.fz (.str r.own)), some (.fz (mkD r.conds)), some (.fz (.tup (chD r.chain))), ?_⟩
      rw [chainF_snoc, chD_app])
  generalize chD (chainF s.rs n m) = F at *
  generalize mkD m = Mm at *
  simp_all! [b_law_chain_of, e] <;> rfl
/-! words -/
theorem app_let {s : Stp} (hs : s.Good) {t : Tx} (ht : ∀ k ∈ t, Let k) : ∀ k ∈ s.app t, Let k := by
  cases s with
  | end_ p => intro k hk; rcases List.mem_append.mp hk with h | h; exact ht k h; exact hs.2.2 k h
  | front p => intro k hk; rcases List.mem_append.mp hk with h | h; exact hs.2.2 k h; exact ht k h
  | cut p =>
    intro k hk
    simp only [Stp.app] at hk
    split at hk
    · exact ht k (List.mem_of_mem_take hk)
    · exact ht k hk
  | dbl n => intro k hk; rcases List.mem_append.mp hk with h | h; exact ht k (List.mem_of_mem_take h); exact ht k h
  | swap a b =>
    intro k hk
    obtain ⟨c, hc, rfl⟩ := List.mem_map.mp hk
    obtain ⟨h1, h2, h3⟩ := hs
    split
    · exact h2
    · split
      · exact h1
      · exact ht c hc
  | near w a b x =>
    intro k hk
    obtain ⟨i, hi, rfl⟩ := List.mem_map.mp hk
    have hi := List.mem_range.mp hi
    have hc : Let (t.getD i 0) := by rw [List.getD_eq_getElem?_getD, List.getElem?_eq_getElem hi]; exact ht _ (List.getElem_mem hi)
    obtain ⟨_, _, h3, _⟩ := hs
    unfold nearC
    split
    · split
      · split
        · exact h3
        · exact hc
      · exact hc
    · exact hc
theorem endf_let : ∀ {ss : List Stp} {t : Tx}, (∀ s ∈ ss, s.Good) → (∀ k ∈ t, Let k) → ∀ k ∈ endf ss t, Let k
  | [], _, _, ht => ht
  | s :: ss, t, hs, ht => endf_let (ss := ss) (t := s.app t) (fun x hx => hs x (List.mem_cons_of_mem _ hx)) (app_let (hs s (by simp)) ht)
theorem endf_len : ∀ {ss : List Stp} {t : Tx}, (∀ s ∈ ss, s.Good) → (endf ss t).length ≤ t.length + 6 * ss.length
  | [], t, _ => by simp [endf]
  | s :: ss, t, hs => by
    have h1 := endf_len (ss := ss) (t := s.app t) fun x hx => hs x (List.mem_cons_of_mem _ hx)
    have h2 := app_len (hs s (by simp)) t
    rw [List.length_cons]
    show (endf ss (s.app t)).length ≤ _
    omega
def fitW (w : Tx) : Option Tx := if 1 ≤ w.length ∧ w.length ≤ 30 then some w else none
theorem let_in {k : Nat} (h : Let k) : (decide (k ∈ s_abcdefghijklmnopqrstuvwx)) = true := by
  obtain ⟨h1, h2⟩ := h
  rw [decide_eq_true_eq]
  simp only [s_abcdefghijklmnopqrstuvwx, List.mem_cons, List.not_mem_nil, or_false]
  omega
theorem is_word_ok {N : Nat} (hN : 1 ≤ N) {t : Tx} (ht : ∀ k ∈ t, Let k) (hl : t.length ≤ 1000000) : callD P N k_is_word [.fz (.str t)] = .ok (.fz (.bl (decide (1 ≤ t.length ∧ t.length ≤ 30)))) [some (.fz (.str t))] := by
  obtain ⟨M, rfl⟩ : ∃ M, N = M + 1 := ⟨N - 1, by omega⟩
  rw [call_eq (d := d_is_word) rfl rfl]
  have k1 : t.length ≤ 16777216 := by omega
  have e : evE (callD P M) c_is_word_1 [some (.fz (.str t)), none] = .ok (.lst ((t.map fun _ => true).map .bl)) [some (.fz (.str t)), none] := by
    rw [List.map_map]
    refine lc_map (xs := t) (e := fun c => D.str [c]) rfl (by rw [c_is_word_1, lcI_eq]; dsimp! [] <;> rfl) (by simp only [mostLen]; omega) fun c hc => ?_
    have e3 : isIn (.str [c]) (.str s_abcdefghijklmnopqrstuvwx) = some true := by rw [isIn_s, let_in (ht c hc)]
    dsimp! [↓e3, cmpF, c_is_word_1] <;> rfl
  have e2 : allB ((t.map fun _ => true).map .bl) = some (t.map fun _ => true) := allB_bl _
  have e3 : (t.map fun _ => true).all id = true := by rw [List.all_eq_true]; intro b hb; obtain ⟨_, _, rfl⟩ := List.mem_map.mp hb; rfl
  generalize (t.map fun _ => true) = B at *
  generalize B.map D.bl = Bd at *
  by_cases h1 : 1 ≤ t.length
  · by_cases h2 : t.length ≤ 30
    · have a1 : ¬ ((t.length : Int) < 1) := by omega
      have a2 : ¬ ((30 : Int) < (t.length : Int)) := by omega
      rw [decide_eq_true ⟨h1, h2⟩]
      simp_all! [b_is_word, k1, a1, a2, e, e2, e3] <;> rfl
    · have a1 : ¬ ((t.length : Int) < 1) := by omega
      have a2 : ((30 : Int) < (t.length : Int)) := by omega
      rw [decide_eq_false fun h => h2 h.2]
      simp_all! [b_is_word, k1, a1, a2] <;> rfl
  · have a1 : ((t.length : Int) < 1) := by omega
    rw [decide_eq_false fun h => h1 h.1]
    simp_all! [b_is_word, k1, a1] <;> rfl
end K16
end
section
set_option linter.all false
set_option autoImplicit false
set_option maxRecDepth 100000
set_option maxHeartbeats 2000000
open Ev
namespace K16
/-- what is known of a stock -/
structure SOk (s : Stk) : Prop where
  cs : s.cs.length ≤ 4
  rs : s.rs.length ≤ 100
  ws : s.ws.length ≤ 9
  rok : ∀ r ∈ s.rs, RulOk r
  cok : ∀ c ∈ s.cs, c.slots.length ≤ 5 ∧ ∀ x ∈ c.slots, x ∈ allSlots
  wok : ∀ x ∈ s.ws, (∃ c, clsOf s.cs x.cls = some c) ∧ x.root.length ≤ 10 ∧ (∀ k ∈ x.root, Let k)
  own : ∀ x ∈ s.ws, wdOf s.ws x.key = some x
theorem clsOf_mem {cs : List Cls} {n : Tx} {c : Cls} (h : clsOf cs n = some c) : c ∈ cs ∧ c.name = n := by
  have := List.mem_filter.mp (List.mem_of_head? h)
  exact ⟨this.1, of_decide_eq_true this.2⟩
theorem wdOf_mem {ws : List Wd} {n : Tx} {c : Wd} (h : wdOf ws n = some c) : c ∈ ws ∧ c.key = n := by
  have := List.mem_filter.mp (List.mem_of_head? h)
  exact ⟨this.1, of_decide_eq_true this.2⟩
def slotsF (s : Stk) (n : Tx) : List Tx := ((clsOf s.cs n).map Cls.slots).getD []
def formF (s : Stk) (x : Wd) (m : Mk) : Tx := endf (chainF s.rs x.cls m) x.root
def wordF (s : Stk) (x : Wd) (m : Mk) : Option Tx := if m ∈ marksF s.cs (slotsF s x.cls) then fitW (formF s x m) else none
theorem chainF_good {rs : List Rul} (h : ∀ r ∈ rs, RulOk r) (n : Tx) (m : Mk) : ∀ t ∈ chainF rs n m, t.Good := by
  intro t ht
  obtain ⟨r, hr, h2⟩ := List.mem_flatMap.mp ht
  split at h2
  · exact (h r hr).good t h2
  · cases h2
theorem chainF_200 {s : Stk} (h : SOk s) (n : Tx) (m : Mk) : (chainF s.rs n m).length ≤ 200 := by
  have := chainF_len n m fun r hr => (h.rok r hr).chain
  have := h.rs
  omega
theorem form_ok {N : Nat} (hN : 5 ≤ N) {s : Stk} (h : SOk s) {x : Wd} (hx : x ∈ s.ws) (m : Mk) : callD P N k_formed [.fz (.tup (chD (chainF s.rs x.cls m))), .fz (.str x.root)] = .ok (.fz (.str (formF s x m))) [some (.fz (.tup (chD (chainF s.rs x.cls m)))), some (.fz (.str x.root))] := by
  have h1 := chainF_200 h x.cls m
  have h2 := (h.wok x hx).2.1
  exact formed_ok hN (chainF_good h.rok x.cls m) (t := x.root) (by omega)
theorem lform_ok {N : Nat} (hN : 2 ≤ N) {s : Stk} (h : SOk s) {x : Wd} (hx : x ∈ s.ws) (m : Mk) : callD P N k_law_formed [.fz (.tup (chD (chainF s.rs x.cls m))), .fz (.str x.root)] = .ok (.fz (.str (formF s x m))) [some (.fz (.tup (chD (chainF s.rs x.cls m)))), none] := by
  have h1 := chainF_200 h x.cls m
  have h2 := (h.wok x hx).2.1
  exact lformed_ok hN (chainF_good h.rok x.cls m) (t := x.root) (by omega)
theorem formF_let {s : Stk} (h : SOk s) {x : Wd} (hx : x ∈ s.ws) (m : Mk) : (∀ k ∈ formF s x m, Let k) ∧ (formF s x m).length ≤ 2000 := by
  have h1 := chainF_200 h x.cls m
  have h2 := (h.wok x hx).2.1
  have h3 := endf_len (t := x.root) (chainF_good h.rok x.cls m)
  exact ⟨endf_let (chainF_good h.rok x.cls m) (h.wok x hx).2.2, by rw [formF]; omega⟩
theorem word_of_ok {N : Nat} (hN : 6 ≤ N) {s : Stk} (h : SOk s) {x : Wd} (hx : x ∈ s.ws) {m : Mk} (hm : m.length ≤ 1000) :
    callD P N k_word_of [.fz s.d, .fz (.str x.key), .fz (mkD m)] = .ok (.fz (opD .str (wordF s x m))) [some (.fz s.d), some (.fz (.str x.key)), some (.fz (mkD m))] := by
  obtain ⟨M, rfl⟩ : ∃ M, N = M + 1 := ⟨N - 1, by omega⟩
  rw [call_eq (d := d_word_of) rfl rfl]
  obtain ⟨c, hc⟩ := (h.wok x hx).1
  have hck := h.cok c (clsOf_mem hc).1
  have hcs := h.cs
  have e1 := entry_of_ok (N := M) (by omega) (s := s) (n := x.key) (by have := h.ws; omega)
  rw [h.own x hx] at e1
  simp only [opD, Wd.d] at e1
  have e2 := are_marks_ok (N := M) (by omega) hc hm hck.2 hcs
  have e3 := chain_of_ok (N := M) (by omega) (s := s) (n := x.cls) (m := m) hm h.rok h.rs
  have e4 := form_ok (N := M) (by omega) h hx m
  have e5 := is_word_ok (N := M) (by omega) (formF_let h hx m).1 (by have := (formF_let h hx m).2; omega)
  have hsl : slotsF s x.cls = c.slots := by rw [slotsF, hc]; rfl
  rw [wordF, hsl]
  generalize formF s x m = W at *
  generalize chD (chainF s.rs x.cls m) = Ch at *
  generalize s.d = S at *
  generalize mkD m = Mm at *
  by_cases h1 : m ∈ marksF s.cs c.slots
  · rw [if_pos h1]
    rw [decide_eq_true h1] at e2
    by_cases h2 : 1 ≤ W.length ∧ W.length ≤ 30
    · rw [fitW, if_pos h2]
      rw [decide_eq_true h2] at e5
      simp_all! [b_word_of, e1, isNon, e2, e3, e4, e5, opD] <;> rfl
    · rw [fitW, if_neg h2]
      rw [decide_eq_false h2] at e5
      simp_all! [b_word_of, e1, isNon, e2, e3, e4, e5, opD] <;> rfl
  · rw [if_neg h1]
    rw [decide_eq_false h1] at e2
    simp_all! [b_word_of, e1, isNon, e2, opD] <;> rfl
theorem word_of_none {N : Nat} (hN : 2 ≤ N) {s : Stk} (h : SOk s) {k : Tx} (hk : wdOf s.ws k = none) {m : Mk} :
    callD P N k_word_of [.fz s.d, .fz (.str k), .fz (mkD m)] = .ok (.fz .non) [some (.fz s.d), some (.fz (.str k)), some (.fz (mkD m))] := by
  obtain ⟨M, rfl⟩ : ∃ M, N = M + 1 := ⟨N - 1, by omega⟩
  rw [call_eq (d := d_word_of) rfl rfl]
  have e1 := entry_of_ok (N := M) (by omega) (s := s) (n := k) (by have := h.ws; omega)
  rw [hk] at e1
  simp only [opD] at e1
  generalize s.d = S at *
  generalize mkD m = Mm at *
  simp_all! [b_word_of, e1, isNon] <;> rfl
/-! tables -/
abbrev marksX (s : Stk) (x : Wd) : List Mk := marksF s.cs (slotsF s x.cls)
def rowD (p : Mk × Option Tx) : D := .tup [mkD p.1, opD .str p.2]
def tabF (s : Stk) (x : Wd) : List (Mk × Option Tx) := (marksX s x).map fun m => (m, fitW (formF s x m))
theorem marksX_len {s : Stk} (h : SOk s) {x : Wd} (hx : x ∈ s.ws) : (marksX s x).length ≤ 1024 ∧ ∀ m ∈ marksX s x, m.length ≤ 5 := by
  obtain ⟨c, hc⟩ := (h.wok x hx).1
  have hck := h.cok c (clsOf_mem hc).1
  have hsl : slotsF s x.cls = c.slots := by rw [slotsF, hc]; rfl
  rw [marksX, hsl]
  exact ⟨marks_1024 h.cs hck.1, fun m hm => by rw [marks_row hm]; exact hck.1⟩
theorem wordF_mem {s : Stk} {x : Wd} {m : Mk} (hm : m ∈ marksX s x) : wordF s x m = fitW (formF s x m) := if_pos hm
theorem table_of_ok {N : Nat} (hN : 7 ≤ N) {s : Stk} (h : SOk s) {x : Wd} (hx : x ∈ s.ws) :
    callD P N k_table_of [.fz s.d, .fz (.str x.key)] = .ok (.fz (.tup ((tabF s x).map rowD))) [some (.fz s.d), some (.fz (.str x.key))] := by
  obtain ⟨M, rfl⟩ : ∃ M, N = M + 1 := ⟨N - 1, by omega⟩
  rw [call_eq (d := d_table_of) rfl rfl]
  obtain ⟨c, hc⟩ := (h.wok x hx).1
  have hck := h.cok c (clsOf_mem hc).1
  have hsl : slotsF s x.cls = c.slots := by rw [slotsF, hc]; rfl
  have e1 := class_of_ok (N := M) (by omega) (s := s) (n := x.key) (by have := h.ws; omega)
  rw [h.own x hx] at e1
  simp only [opD] at e1
  have e2 := marks_of_ok (N := M) (by omega) hc hck.1 hck.2 h.cs
  rw [← hsl] at e2
  have hL := marksX_len h hx
  have e : evE (callD P M) c_table_of_1 [some (.fz s.d), some (.fz (.str x.key)), none] = .ok (.lst ((tabF s x).map rowD)) [some (.fz s.d), some (.fz (.str x.key)), none] := by
    rw [tabF, List.map_map]
    refine lc_map (xs := marksX s x) (e := mkD) rfl ?_ (by have := hL.1; simp only [mostLen]; omega) fun m hm => ?_
    · generalize (marksF s.cs (slotsF s x.cls)).map mkD = F at *
      generalize s.d = S at *
      rw [c_table_of_1, lcI_eq]
      dsimp! [e1, e2] <;> rfl
    · have e3 := word_of_ok (N := M) (by omega) h hx (m := m) (by have := hL.2 m hm; omega)
      rw [wordF_mem hm] at e3
      show _ = Res.ok (some (D.tup [mkD m, opD D.str (fitW (formF s x m))])) _
      generalize opD D.str (fitW (formF s x m)) = W at *
      generalize mkD m = Mm at *
      generalize s.d = S at *
      dsimp! [cmpF, c_table_of_1, e3] <;> rfl
  generalize (tabF s x).map rowD = R at *
  generalize s.d = S at *
  simp_all! [b_table_of, e] <;> rfl
theorem law_table_ok {N : Nat} (hN : 4 ≤ N) {s : Stk} (h : SOk s) {x : Wd} (hx : x ∈ s.ws) :
    callD P N k_law_table [.fz s.d, .fz (.str x.key)] = .ok (.fz (.tup ((tabF s x).map rowD))) [some (.fz s.d), some (.fz (.str x.key))] := by
  obtain ⟨M, rfl⟩ : ∃ M, N = M + 1 := ⟨N - 1, by omega⟩
  rw [call_eq (d := d_law_table) rfl rfl]
  obtain ⟨c, hc⟩ := (h.wok x hx).1
  have hck := h.cok c (clsOf_mem hc).1
  have hsl : slotsF s x.cls = c.slots := by rw [slotsF, hc]; rfl
  have e2 := law_marks_ok (N := M) (by omega) hc hck.1 hck.2 h.cs
  rw [← hsl] at e2
  have hL := marksX_len h hx
  have e0 := stk2 s
  have hE : evE (callD P M) c_law_table_2 [some (.fz s.d), some (.fz (.str x.key)), none, none, none, none, none, none] = .ok (.lst ((s.ws.filter fun c => decide (c.key = x.key)).map fun c => D.tup [.str c.root, .str c.cls])) [some (.fz s.d), some (.fz (.str x.key)), none, none, none, none, none, none] := by
    refine lc_if (xs := s.ws) (e := Wd.d) (r := fun c => D.tup [.str c.root, .str c.cls]) rfl ?_ (by have := h.ws; simp only [mostLen]; omega) fun c hc => ?_
    · generalize s.d = S at *
      rw [c_law_table_2, lcI_eq]
      generalize s.ws.map Wd.d = W at *
      dsimp! [e0]
    · generalize s.d = S at *
      by_cases h : c.key = x.key <;> dsimp! [cmpF, c_law_table_2, Wd.d, h] <;> rfl
  obtain ⟨fs, hfs⟩ : ∃ fs, (s.ws.filter fun c => decide (c.key = x.key)) = x :: fs := by
    have := h.own x hx
    rw [wdOf] at this
    cases hh : (s.ws.filter fun c => decide (c.key = x.key)) with
    | nil => rw [hh] at this; cases this
    | cons a fs => rw [hh] at this; cases this; exact ⟨fs, rfl⟩
  rw [hfs, List.map_cons] at hE
  have k0 : (0 : Int) < ((fs.map fun c => D.tup [.str c.root, .str c.cls]).length : Int) + 1 := by omega
  generalize (fs.map fun c => D.tup [.str c.root, .str c.cls]) = Z at *
  obtain ⟨ρ, e, x6, x7, rfl⟩ := for_inv (cl := callD P M) (s := l_law_table_1) (ρ := [some (.fz s.d), some (.fz (.str x.key)), some (.fz (.str x.root)), some (.fz (.str x.cls)), none, some (.lst []), none, none]) (xs := marksX s x) (e := mkD)
    (I := fun pre ρ => ∃ x6 x7, ρ = [some (.fz s.d), some (.fz (.str x.key)), some (.fz (.str x.root)), some (.fz (.str x.cls)), none, some (.lst ((pre.map fun m => (m, fitW (formF s x m))).map rowD)), x6, x7])
    rfl (by generalize (marksF s.cs (slotsF s x.cls)).map mkD = F at *; generalize s.d = S at *; rw [l_law_table_1, forI_eq]; dsimp! [e2] <;> rfl) ⟨none, none, rfl⟩ (fun pre m post ρ hp hI => by
      obtain ⟨x6, x7, rfl⟩ := hI
      have hm : m ∈ marksX s x := by rw [hp]; simp
      have hl : pre.length < 1024 := by have := hL.1; rw [hp, List.length_append, List.length_cons] at this; omega
      have h5 := hL.2 m hm
      have e3 := law_chain_of_ok (N := M) (by omega) (s := s) (n := x.cls) (m := m) (by omega) h.rok h.rs
      have e4 := lform_ok (N := M) (by omega) h hx m
      have hw := (formF_let h hx m).2
      refine ⟨_, ?_, some (.fz (mkD m)), some (.fz (.str (formF s x m))), rfl⟩
      rw [List.map_append, List.map_append]
      have hA : ((pre.map fun m => (m, fitW (formF s x m))).map rowD).length < 16777216 := by rw [List.length_map, List.length_map]; omega
      rw [show ([m].map fun m => (m, fitW (formF s x m))).map rowD = [rowD (m, fitW (formF s x m))] from rfl]
      rw [show rowD (m, fitW (formF s x m)) = .tup [mkD m, opD .str (fitW (formF s x m))] from rfl] at *
      generalize (pre.map fun m => (m, fitW (formF s x m))).map rowD = A at *
      generalize formF s x m = W at *
      generalize chD (chainF s.rs x.cls m) = Ch at *
      generalize mkD m = Mm at *
      generalize s.d = S at *
      have k1 : W.length ≤ 16777216 := by omega
      by_cases h1 : 1 ≤ W.length
      · have a1 : ¬ ((W.length : Int) < 1) := by omega
        by_cases h2 : W.length ≤ 30
        · have a2 : ¬ ((30 : Int) < (W.length : Int)) := by omega
          rw [fitW, if_pos ⟨h1, h2⟩] 
          simp only [opD]
          dsimp! [hA, lpF, l_law_table_1, e3, e4, k1, a1, a2] <;> rfl
        · have a2 : ((30 : Int) < (W.length : Int)) := by omega
          rw [fitW, if_neg (fun h => h2 h.2)] 
          simp only [opD]
          dsimp! [hA, lpF, l_law_table_1, e3, e4, k1, a1, a2] <;> rfl
      · have a1 : ((W.length : Int) < 1) := by omega
        rw [fitW, if_neg (fun h => h1 h.1)] 
        simp only [opD]
        dsimp! [hA, lpF, l_law_table_1, e3, e4, k1, a1] <;> rfl)
  rw [tabF]
  generalize ((marksX s x).map fun m => (m, fitW (formF s x m))).map rowD = R at *
  generalize s.d = S at *
  have eI : evE (callD P M) (.idx c_law_table_2 (.cst (.int 0))) [some (.fz S), some (.fz (.str x.key)), none, none, none, none, none, none] = .ok (.fz (.tup [.str x.root, .str x.cls])) [some (.fz S), some (.fz (.str x.key)), none, none, none, none, none, none] := by
    dsimp! [hE, k0]
  have eS : evS (callD P M) (.set (.tp (.cons (.nm 2) (.cons (.nm 3) .nil))) (.idx c_law_table_2 (.cst (.int 0)))) [some (.fz S), some (.fz (.str x.key)), none, none, none, none, none, none] = .ok .nx [some (.fz S), some (.fz (.str x.key)), some (.fz (.str x.root)), some (.fz (.str x.cls)), none, none, none, none] := by
    rw [evS, eI]; rfl
  show d_law_table.end (evSs _ b_law_table [some (.fz S), some (.fz (.str x.key)), none, none, none, none, none, none]) = _
  rw [b_law_table, ss_nx eS]
  simp_all! [e] <;> rfl
end K16
end
section
set_option linter.all false
set_option autoImplicit false
set_option maxRecDepth 100000
set_option maxHeartbeats 2000000
open Ev
namespace K16
abbrev Ent := Tx × Mk
abbrev Rw := Tx × Ent
def eD (e : Ent) : D := .tup [.str e.1, mkD e.2]
def rD (r : Rw) : D := .tup [.str r.1, .str r.2.1, mkD r.2.2]
def rowsX (s : Stk) (x : Wd) : List Rw := (tabF s x).filterMap fun p => p.2.map fun w => (w, x.key, p.1)
def rowsF (s : Stk) (ws : List Wd) : List Rw := ws.flatMap (rowsX s)
theorem rows_fm (key : Tx) : ∀ l : List (Mk × Option Tx), (l.filter fun p => p.2.isSome).map (fun p => D.tup [opD .str p.2, .str key, mkD p.1]) = (l.filterMap fun p => p.2.map fun w => (w, key, p.1)).map rD
  | [] => rfl
  | (m, none) :: l => rows_fm key l
  | (m, some w) :: l => by
    show D.tup [.str w, .str key, mkD m] :: (l.filter fun p => p.2.isSome).map (fun p => D.tup [opD .str p.2, .str key, mkD p.1]) = _
    rw [rows_fm key l]; rfl
theorem tabF_len {s : Stk} (h : SOk s) {x : Wd} (hx : x ∈ s.ws) : (tabF s x).length ≤ 1024 := by
  rw [tabF, List.length_map]; exact (marksX_len h hx).1
theorem rowsX_len {s : Stk} (h : SOk s) {x : Wd} (hx : x ∈ s.ws) : (rowsX s x).length ≤ 1024 := Nat.le_trans (List.length_filterMap_le _ _) (tabF_len h hx)
theorem rowsF_snoc (s : Stk) (l : List Wd) (x : Wd) : rowsF s (l ++ [x]) = rowsF s l ++ rowsX s x := by unfold rowsF; rw [List.flatMap_append]; simp
theorem rowsF_len {s : Stk} (h : SOk s) : ∀ (l : List Wd), (∀ x ∈ l, x ∈ s.ws) → (rowsF s l).length ≤ 1024 * l.length := by
  intro l
  induction l using snoc_ind with
  | h0 => intro _; simp [rowsF]
  | h1 l a ih =>
    intro hl
    rw [rowsF_snoc, List.length_append, List.length_append, List.length_singleton]
    have h1 := ih fun x hx => hl x (List.mem_append_left _ hx)
    have h2 := rowsX_len h (hl a (by simp))
    omega
theorem all_in1 {N : Nat} (hN : 7 ≤ N) {s : Stk} (h : SOk s) {x : Wd} (hx : x ∈ s.ws) {x1 x3 : Option OV} :
    evE (callD P N) c_all_rows_1 [some (.fz s.d), x1, some (.fz (.str x.key)), x3, none, none] = .ok (.lst ((rowsX s x).map rD)) [some (.fz s.d), x1, some (.fz (.str x.key)), x3, none, none] := by
  rw [rowsX, ← rows_fm]
  have e := table_of_ok hN h hx
  refine lc_if (xs := tabF s x) (e := rowD) (r := fun p => D.tup [opD .str p.2, .str x.key, mkD p.1]) rfl ?_ (by have := tabF_len h hx; simp only [mostLen]; omega) fun p hp => ?_
  · generalize (tabF s x).map rowD = T at *
    generalize s.d = S at *
    rw [c_all_rows_1, lcI_eq]
    dsimp! [e] <;> rfl
  · obtain ⟨m, o⟩ := p
    rw [rowD]
    generalize mkD m = Mm
    generalize s.d = S at *
    cases o with
    | none => dsimp! [cmpF, c_all_rows_1, opD, isNon] <;> rfl
    | some w => dsimp! [cmpF, c_all_rows_1, opD, isNon] <;> rfl
theorem all_rows_ok {N : Nat} (hN : 8 ≤ N) {s : Stk} (h : SOk s) : callD P N k_all_rows [.fz s.d] = .ok (.lst ((rowsF s s.ws).map rD)) [some (.fz s.d)] := by
  obtain ⟨M, rfl⟩ : ∃ M, N = M + 1 := ⟨N - 1, by omega⟩
  rw [call_eq (d := d_all_rows) rfl rfl]
  have e0 := stk2 s
  obtain ⟨ρ, e, x2, x3, rfl⟩ := for_inv (cl := callD P M) (s := l_all_rows_2) (ρ := [some (.fz s.d), some (.lst []), none, none, none, none]) (xs := s.ws) (e := Wd.d)
    (I := fun pre ρ => ∃ x2 x3, ρ = [some (.fz s.d), some (.lst ((rowsF s pre).map rD)), x2, x3, none, none])
    rfl (by generalize s.ws.map Wd.d = W at *; generalize s.d = S at *; rw [l_all_rows_2, forI_eq]; dsimp! [e0] <;> rfl) ⟨none, none, rfl⟩ (fun pre x post ρ hp hI => by
      obtain ⟨x2, x3, rfl⟩ := hI
      have hx : x ∈ s.ws := by rw [hp]; simp
      have hpre : ∀ y ∈ pre, y ∈ s.ws := fun y hy => by rw [hp]; exact List.mem_append_left _ hy
      have hl : pre.length ≤ 9 := by have := h.ws; rw [hp, List.length_append] at this; omega
      have h1 := rowsF_len h pre hpre
      have h2 := rowsX_len h hx
      have e1 := all_in1 (N := M) (by omega) h hx (x1 := some (.lst ((rowsF s pre).map rD))) (x3 := some (.fz (.str x.cls)))
      have hA : ((rowsF s pre).map rD).length + ((rowsX s x).map rD).length ≤ 16777216 := by rw [List.length_map, List.length_map]; omega
      refine ⟨_, ?_, some (.fz (.str x.key)), some (.fz (.str x.cls)), rfl⟩
      rw [rowsF_snoc, List.map_append]
      generalize (rowsF s pre).map rD = A at *
      generalize (rowsX s x).map rD = B at *
      generalize s.d = S at *
      dsimp! [lpF, l_all_rows_2, Wd.d, e1, hA] <;> rfl)
  generalize (rowsF s s.ws).map rD = R at *
  generalize s.d = S at *
  simp_all! [b_all_rows, e] <;> first | rfl | decide
theorem lall_in {N : Nat} (hN : 4 ≤ N) {s : Stk} (h : SOk s) {x : Wd} (hx : x ∈ s.ws) {x1 : Option OV} :
    evE (callD P N) c_law_all_1 [some (.fz s.d), x1, some (.fz x.d), none, none] = .ok (.lst ((rowsX s x).map rD)) [some (.fz s.d), x1, some (.fz x.d), none, none] := by
  rw [rowsX, ← rows_fm]
  have e := law_table_ok hN h hx
  refine lc_if (xs := tabF s x) (e := rowD) (r := fun p => D.tup [opD .str p.2, .str x.key, mkD p.1]) rfl ?_ (by have := tabF_len h hx; simp only [mostLen]; omega) fun p hp => ?_
  · generalize (tabF s x).map rowD = T at *
    generalize s.d = S at *
    rw [c_law_all_1, lcI_eq]
    dsimp! [e, Wd.d] <;> rfl
  · obtain ⟨m, o⟩ := p
    rw [rowD]
    generalize mkD m = Mm
    generalize s.d = S at *
    cases o with
    | none => dsimp! [cmpF, c_law_all_1, opD, isNon, Wd.d] <;> rfl
    | some w => dsimp! [cmpF, c_law_all_1, opD, isNon, Wd.d] <;> rfl
theorem law_all_ok {N : Nat} (hN : 5 ≤ N) {s : Stk} (h : SOk s) : callD P N k_law_all [.fz s.d] = .ok (.fz (.lst ((rowsF s s.ws).map rD))) [some (.fz s.d)] := by
  obtain ⟨M, rfl⟩ : ∃ M, N = M + 1 := ⟨N - 1, by omega⟩
  rw [call_eq (d := d_law_all) rfl rfl]
  have e0 := stk2 s
  obtain ⟨ρ, e, x2, rfl⟩ := for_inv (cl := callD P M) (s := l_law_all_2) (ρ := [some (.fz s.d), some (.fz (.lst [])), none, none, none]) (xs := s.ws) (e := Wd.d)
    (I := fun pre ρ => ∃ x2, ρ = [some (.fz s.d), some (.fz (.lst ((rowsF s pre).map rD))), x2, none, none])
    rfl (by generalize s.ws.map Wd.d = W at *; generalize s.d = S at *; rw [l_law_all_2, forI_eq]; dsimp! [e0] <;> rfl) ⟨none, rfl⟩ (fun pre x post ρ hp hI => by
      obtain ⟨x2, rfl⟩ := hI
      have hx : x ∈ s.ws := by rw [hp]; simp
      have hpre : ∀ y ∈ pre, y ∈ s.ws := fun y hy => by rw [hp]; exact List.mem_append_left _ hy
      have hl : pre.length ≤ 9 := by have := h.ws; rw [hp, List.length_append] at this; omega
      have h1 := rowsF_len h pre hpre
      have h2 := rowsX_len h hx
      have e1 := lall_in (N := M) (by omega) h hx (x1 := some (.fz (.lst ((rowsF s pre).map rD))))
      have hA : ((rowsF s pre).map rD).length + ((rowsX s x).map rD).length ≤ 16777216 := by rw [List.length_map, List.length_map]; omega
      refine ⟨_, ?_, some (.fz x.d), rfl⟩
      rw [rowsF_snoc, List.map_append]
      generalize (rowsF s pre).map rD = A at *
      generalize (rowsX s x).map rD = B at *
      generalize s.d = S at *
      generalize x.d = X at *
      dsimp! [lpF, l_law_all_2, e1, hA] <;> rfl)
  generalize (rowsF s s.ws).map rD = R at *
  generalize s.d = S at *
  simp_all! [b_law_all, e] <;> first | rfl | decide
theorem analyses_ok {N : Nat} (hN : 9 ≤ N) {s : Stk} (h : SOk s) {w : Tx} : callD P N k_analyses [.fz s.d, .fz (.str w)] = .ok (.fz (.tup (((rowsF s s.ws).filter fun r => decide (r.1 = w)).map fun r => eD r.2))) [some (.fz s.d), some (.fz (.str w))] := by
  obtain ⟨M, rfl⟩ : ∃ M, N = M + 1 := ⟨N - 1, by omega⟩
  rw [call_eq (d := d_analyses) rfl rfl]
  have e0 := all_rows_ok (N := M) (by omega) h
  have hl := rowsF_len h s.ws fun _ hx => hx
  have h9 := h.ws
  generalize rowsF s s.ws = R at *
  generalize s.d = S at *
  have e : evE (callD P M) c_analyses_1 [some (.fz S), some (.fz (.str w)), none, none, none] = .ok (.lst ((R.filter fun r => decide (r.1 = w)).map fun r => eD r.2)) [some (.fz S), some (.fz (.str w)), none, none, none] := by
    refine lc_if (xs := R) (e := rD) (r := fun r => eD r.2) rfl ?_ (by simp only [mostLen]; omega) fun r hr => ?_
    · generalize R.map rD = T at *
      rw [c_analyses_1, lcI_eq]
      dsimp! [e0] <;> rfl
    · obtain ⟨u, k, m⟩ := r
      rw [rD, eD]
      generalize mkD m = Mm
      by_cases h : u = w <;> dsimp! [cmpF, c_analyses_1, h] <;> rfl
  generalize (R.filter fun r => decide (r.1 = w)).map (fun r => eD r.2) = Z at *
  simp_all! [b_analyses, e] <;> rfl
/-! all forms -/
def formsX (s : Stk) (x : Wd) : List Tx := (tabF s x).filterMap (·.2)
theorem forms_fm : ∀ l : List (Mk × Option Tx), (l.filter fun p => p.2.isSome).map (fun p => opD .str p.2) = (l.filterMap (·.2)).map .str
  | [] => rfl
  | (m, none) :: l => forms_fm l
  | (m, some w) :: l => by
    show D.str w :: (l.filter fun p => p.2.isSome).map (fun p => opD .str p.2) = _
    rw [forms_fm l]; rfl
theorem allS_map : ∀ l : List Tx, allS (l.map .str) = some l
  | [] => rfl
  | t :: l => by rw [List.map_cons]; show (allS (l.map .str)).map (t :: ·) = _; rw [allS_map l]; rfl
def sortT (l : List Tx) : List Tx := l.mergeSort fun a b => decide (a ≤ b)
theorem sortset_ok {l : List Tx} (hl : l.length ≤ 4000) : ∃ r : List Tx, bi1 .sortset (.lst (l.map .str)) = some (.lst (r.map .str)) ∧ r.length ≤ l.length := by
  rw [i_ss, iv_l, Option.bind_some, if_pos (by rw [List.length_map]; exact hl)]
  cases l with
  | nil => exact ⟨[], by show some (OV.lst (((once ([] : List Int)).mergeSort fun a b => decide (a ≤ b)).map D.int)) = _; simp [once], Nat.le_refl _⟩
  | cons t l =>
    have e : allI ((t :: l).map .str) = none := rfl
    rw [e, allS_map]
    refine ⟨_, rfl, ?_⟩
    rw [List.length_mergeSort]
    have : ∀ l : List Tx, (once l).length ≤ l.length := by
      intro l
      induction l with
      | nil => exact Nat.le_refl _
      | cons a l ih => exact Nat.succ_le_succ (Nat.le_trans (List.length_filter_le _ _) ih)
    exact this _
theorem all_forms_ok {N : Nat} (hN : 8 ≤ N) {s : Stk} (h : SOk s) {x : Wd} (hx : x ∈ s.ws) {r : List Tx} (hr : bi1 .sortset (.lst ((formsX s x).map .str)) = some (.lst (r.map .str))) :
    callD P N k_all_forms [.fz s.d, .fz (.str x.key)] = .ok (.fz (.tup (r.map .str))) [some (.fz s.d), some (.fz (.str x.key))] := by
  obtain ⟨M, rfl⟩ : ∃ M, N = M + 1 := ⟨N - 1, by omega⟩
  rw [call_eq (d := d_all_forms) rfl rfl]
  have e0 := table_of_ok (N := M) (by omega) h hx
  have e : evE (callD P M) c_all_forms_1 [some (.fz s.d), some (.fz (.str x.key)), none, none] = .ok (.lst ((formsX s x).map .str)) [some (.fz s.d), some (.fz (.str x.key)), none, none] := by
    rw [formsX, ← forms_fm]
    refine lc_if (xs := tabF s x) (e := rowD) (r := fun p => opD .str p.2) rfl ?_ (by have := tabF_len h hx; simp only [mostLen]; omega) fun p hp => ?_
    · generalize (tabF s x).map rowD = T at *
      generalize s.d = S at *
      rw [c_all_forms_1, lcI_eq]
      dsimp! [e0] <;> rfl
    · obtain ⟨m, o⟩ := p
      rw [rowD]
      generalize mkD m = Mm
      generalize s.d = S at *
      cases o with
      | none => dsimp! [cmpF, c_all_forms_1, opD, isNon] <;> rfl
      | some w => dsimp! [cmpF, c_all_forms_1, opD, isNon] <;> rfl
  generalize (formsX s x).map D.str = F at *
  generalize r.map D.str = R at *
  generalize s.d = S at *
  have e2 : evE (callD P M) (.bi .sortset c_all_forms_1) [some (.fz S), some (.fz (.str x.key)), none, none] = .ok (.lst R) [some (.fz S), some (.fz (.str x.key)), none, none] := by
    rw [evE, e]
    show (Res.of ((some (D.lst F)).bind fun x => bi1 .sortset x) _) = _
    rw [Option.bind_some, hr]; rfl
  simp_all! [↓e2, b_all_forms] <;> rfl
end K16
end
section
set_option linter.all false
set_option autoImplicit false
set_option maxRecDepth 100000
set_option maxHeartbeats 2000000
open Ev
namespace K16
abbrev Kn := List (Tx × List Ent)
def knD (k : Kn) : List (D × D) := k.map fun p => (.str p.1, .tup (p.2.map eD))
def getK : Kn → Tx → List Ent
  | [], _ => []
  | p :: r, x => if p.1 = x then p.2 else getK r x
def putK (k : Kn) (x : Tx) (l : List Ent) : Kn := if (k.any fun p => decide (p.1 = x)) = true then k.map (fun p => if p.1 = x then (p.1, l) else p) else k ++ [(x, l)]
def addK (k : Kn) (r : Rw) : Kn := putK k r.1 (getK k r.1 ++ [r.2])
def knF (rows : List Rw) : Kn := rows.foldl addK []
theorem knF_snoc (l : List Rw) (r : Rw) : knF (l ++ [r]) = addK (knF l) r := by unfold knF; rw [List.foldl_append]; rfl
theorem get_kn : ∀ (k : Kn) (x : Tx), (dGet (knD k) (.str x)).getD (.tup []) = .tup ((getK k x).map eD)
  | [], x => rfl
  | p :: k, x => by
    show (if D.eq (.str p.1) (.str x) = true then some (D.tup (p.2.map eD)) else dGet (knD k) (.str x)).getD (.tup []) = _
    rw [eq_ss, getK]
    by_cases h : p.1 = x
    · rw [if_pos (decide_eq_true h), if_pos h]; rfl
    · rw [if_neg (by simpa using h), if_neg h]; exact get_kn k x
theorem put_kn (k : Kn) (x : Tx) (l : List Ent) : dPut (knD k) (.str x) (.tup (l.map eD)) = knD (putK k x l) := by
  unfold dPut putK
  have e : ((knD k).any fun p => D.eq p.1 (.str x)) = k.any fun p => decide (p.1 = x) := by rw [knD, List.any_map]; rfl
  rw [e]
  split
  · rw [knD, knD, List.map_map, List.map_map]
    refine List.map_congr_left fun p _ => ?_
    show (if D.eq (.str p.1) (.str x) = true then (D.str p.1, D.tup (l.map eD)) else (D.str p.1, D.tup (p.2.map eD))) = _
    rw [eq_ss]
    by_cases h : p.1 = x
    · rw [if_pos (decide_eq_true h)]; simp [h]
    · rw [if_neg (by simpa using h)]; simp [h]
  · rw [knD, knD, List.map_append]; rfl
theorem get_put : ∀ (k : Kn) (x y : Tx) (l : List Ent), getK (putK k x l) y = if x = y then l else getK k y := by
  intro k x y l
  have h1 : ∀ k : Kn, (k.any fun p => decide (p.1 = x)) = true → getK (k.map fun p => if p.1 = x then (p.1, l) else p) y = if x = y then l else getK k y := by
    intro k
    induction k with
    | nil => intro h; cases h
    | cons p k ih =>
      intro h
      rw [List.map_cons]
      by_cases hp : p.1 = x
      · rw [if_pos hp, getK, getK]
        by_cases hy : x = y
        · rw [if_pos (hp.trans hy), if_pos hy]
        · rw [if_neg (fun e => hy (hp.symm.trans e)), if_neg hy, if_neg (fun e => hy (hp.symm.trans e))]
          clear h ih
          induction k with
          | nil => rfl
          | cons q k ih2 =>
            rw [List.map_cons]
            by_cases hq : q.1 = x
            · rw [if_pos hq, getK, getK, if_neg (fun e => hy (hq.symm.trans e)), if_neg (fun e => hy (hq.symm.trans e))]; exact ih2
            · rw [if_neg hq, getK, getK, ih2]
      · rw [if_neg hp, getK, getK]
        rw [List.any_cons, decide_eq_false hp, Bool.false_or] at h
        rw [ih h]
        by_cases hy : x = y
        · rw [if_neg (fun e => hp (e.trans hy.symm)), if_pos hy, if_pos hy]
        · rw [if_neg hy, if_neg hy]
  have h2 : ∀ k : Kn, ¬ (k.any fun p => decide (p.1 = x)) = true → getK (k ++ [(x, l)]) y = if x = y then l else getK k y := by
    intro k
    induction k with
    | nil => intro _; rfl
    | cons p k ih =>
      intro h
      have hp : p.1 ≠ x := fun e => h (by rw [List.any_cons, decide_eq_true e]; rfl)
      have hk : ¬ (k.any fun p => decide (p.1 = x)) = true := fun e => h (by rw [List.any_cons, e, Bool.or_true])
      rw [List.cons_append, getK, getK, ih hk]
      by_cases hy : x = y
      · rw [if_neg (fun e => hp (e.trans hy.symm)), if_pos hy, if_pos hy]
      · rw [if_neg hy, if_neg hy]
  unfold putK
  split
  · exact h1 k ‹_›
  · exact h2 k ‹_›
theorem get_knF (y : Tx) (rows : List Rw) : getK (knF rows) y = (rows.filter fun r => decide (r.1 = y)).map (·.2) := by
  induction rows using snoc_ind with
  | h0 => rfl
  | h1 l r ih =>
    rw [knF_snoc, addK, get_put, List.filter_append, List.map_append, ← ih]
    by_cases h : r.1 = y
    · rw [if_pos h, h]; simp [h]
    · rw [if_neg h]; simp [h]
def keysK (k : Kn) : List Tx := k.map (·.1)
theorem keys_put (k : Kn) (x : Tx) (l : List Ent) : keysK (putK k x l) = if x ∈ keysK k then keysK k else keysK k ++ [x] := by
  have e : (k.any fun p => decide (p.1 = x)) = true ↔ x ∈ keysK k := by
    rw [List.any_eq_true, keysK, List.mem_map]
    constructor
    · rintro ⟨p, hp, h⟩; exact ⟨p, hp, of_decide_eq_true h⟩
    · rintro ⟨p, hp, h⟩; exact ⟨p, hp, decide_eq_true h⟩
  unfold putK
  by_cases h : x ∈ keysK k
  · rw [if_pos (e.mpr h), if_pos h, keysK, keysK, List.map_map]
    refine List.map_congr_left fun p _ => ?_
    by_cases hp : p.1 = x <;> simp [hp]
  · rw [if_neg (fun hh => h (e.mp hh)), if_neg h, keysK, List.map_append]; rfl
theorem keys_len (rows : List Rw) : (keysK (knF rows)).length ≤ rows.length := by
  induction rows using snoc_ind with
  | h0 => exact Nat.le_refl _
  | h1 l r ih =>
    rw [knF_snoc, addK, keys_put, List.length_append]
    split
    · omega
    · rw [List.length_append]; simp; omega
theorem kn_len (rows : List Rw) : (knD (knF rows)).length ≤ rows.length := by
  have := keys_len rows
  rw [keysK, List.length_map] at this
  rw [knD, List.length_map]; exact this
/-- what the listed words hold, weighed -/
def wt (k : Kn) (ws : List Tx) : Nat := (ws.map fun w => 3 + 18 * (getK k w).length).sum
theorem wt_nd : ∀ (ws : List Tx), ws.Nodup → ∀ (k : Kn) (x : Tx) (l : List Ent), wt (putK k x (getK k x ++ l)) ws ≤ wt k ws + 18 * l.length := by
  intro ws
  induction ws with
  | nil => intro _ k x l; simp [wt]
  | cons w ws ih =>
    intro hn k x l
    rw [List.nodup_cons] at hn
    have key : wt (putK k x (getK k x ++ l)) (w :: ws) = (3 + 18 * (getK (putK k x (getK k x ++ l)) w).length) + wt (putK k x (getK k x ++ l)) ws := by simp [wt]
    have key2 : wt k (w :: ws) = (3 + 18 * (getK k w).length) + wt k ws := by simp [wt]
    rw [key, key2, get_put]
    by_cases h : x = w
    · rw [if_pos h]
      have : wt (putK k x (getK k x ++ l)) ws = wt k ws := by
        unfold wt
        congr 1
        refine List.map_congr_left fun v hv => ?_
        rw [get_put, if_neg (fun e => hn.1 (by rw [← h, e]; exact hv))]
      rw [this, h, List.length_append]; omega
    · rw [if_neg h]
      have := ih hn.2 k x l
      omega
theorem keys_nd (rows : List Rw) : (keysK (knF rows)).Nodup := by
  induction rows using snoc_ind with
  | h0 => exact List.nodup_nil
  | h1 l r ih =>
    rw [knF_snoc, addK, keys_put]
    split
    · exact ih
    · rename_i h
      rw [List.nodup_append]
      exact ⟨ih, by simp, fun a ha b hb e => h (by rw [List.mem_singleton.mp hb] at e; rw [← e]; exact ha)⟩
theorem get_none : ∀ (k : Kn) (x : Tx), x ∉ keysK k → getK k x = []
  | [], _, _ => rfl
  | p :: k, x, h => by
    rw [getK, if_neg (fun e => h (by rw [keysK, List.map_cons, e]; exact List.mem_cons_self))]
    exact get_none k x fun hh => h (List.mem_cons_of_mem _ hh)
theorem wt_le (rows : List Rw) : wt (knF rows) (keysK (knF rows)) ≤ 21 * rows.length := by
  induction rows using snoc_ind with
  | h0 => simp [wt, knF, keysK]
  | h1 l r ih =>
    rw [knF_snoc, addK, keys_put, List.length_append]
    have hn := keys_nd l
    have h1 := wt_nd (keysK (knF l)) hn (knF l) r.1 [r.2]
    simp only [List.length_singleton] at h1 ⊢
    split
    · omega
    · rename_i h
      have e : wt (putK (knF l) r.1 (getK (knF l) r.1 ++ [r.2])) (keysK (knF l) ++ [r.1]) = wt (putK (knF l) r.1 (getK (knF l) r.1 ++ [r.2])) (keysK (knF l)) + (3 + 18 * (getK (putK (knF l) r.1 (getK (knF l) r.1 ++ [r.2])) r.1).length) := by simp [wt]
      have e2 : (getK (putK (knF l) r.1 (getK (knF l) r.1 ++ [r.2])) r.1).length = 1 := by rw [get_put, if_pos rfl, get_none _ _ h]; rfl
      have e3 : wt (putK (knF l) r.1 (getK (knF l) r.1 ++ [r.2])) (keysK (knF l)) = wt (knF l) (keysK (knF l)) := by
        unfold wt
        congr 1
        refine List.map_congr_left fun v hv => ?_
        rw [get_put, if_neg (fun e => h (by rw [e]; exact hv))]
      rw [e, e2, e3]
      omega
theorem sum_perm {a b : List Nat} (h : a.Perm b) : a.sum = b.sum := by
  induction h with
  | nil => rfl
  | cons x _ ih => simp [ih]
  | swap x y l => simp; omega
  | trans _ _ h1 h2 => exact h1.trans h2
theorem sum_filter {α : Type} (f : α → Nat) (p : α → Bool) : ∀ l : List α, ((l.filter p).map f).sum ≤ (l.map f).sum
  | [] => Nat.le_refl _
  | a :: l => by
    have := sum_filter f p l
    rw [List.filter_cons]
    split
    · simp; omega
    · simp; omega
def dblF (k : Kn) : List (Tx × List Ent) := ((sortT (keysK k)).filter fun w => decide (1 < (getK k w).length)).map fun w => (w, getK k w)
def dbD (p : Tx × List Ent) : D := .tup [.str p.1, .tup (p.2.map eD)]
theorem dbl_wt (rows : List Rw) : ((dblF (knF rows)).map fun p => 3 + 18 * p.2.length).sum ≤ 21 * rows.length := by
  rw [dblF, List.map_map]
  refine Nat.le_trans (sum_filter (fun w => 3 + 18 * (getK (knF rows) w).length) _ _) ?_
  refine Nat.le_trans (Nat.le_of_eq ?_) (wt_le rows)
  exact sum_perm (List.Perm.map _ (List.mergeSort_perm _ _))
theorem sortdk_ok (k : Kn) : bi1 .sortdk (.dct (knD k)) = some (.lst ((sortT (keysK k)).map .str)) := by
  show (match allI ((knD k).map fun (p : D × D) => p.1) with
    | some is => some (OV.lst ((is.mergeSort fun a b => decide (a ≤ b)).map D.int))
    | none => (allS ((knD k).map fun (p : D × D) => p.1)).bind fun ts => some (OV.lst ((ts.mergeSort fun a b => decide (a ≤ b)).map D.str))) = _
  cases k with
  | nil => simp [knD, allI, keysK, sortT]
  | cons p k =>
    have e : ((knD (p :: k)).map fun (p : D × D) => p.1) = (keysK (p :: k)).map D.str := by rw [knD, keysK, List.map_map, List.map_map]; rfl
    rw [e, allS_map]
    rfl
theorem mem_keys_get {k : Kn} {w : Tx} : ∀ (k : Kn), w ∈ keysK k → dGet (knD k) (.str w) = some (.tup ((getK k w).map eD))
  | [], h => by cases h
  | p :: k, h => by
    show (if D.eq (.str p.1) (.str w) = true then some (D.tup (p.2.map eD)) else dGet (knD k) (.str w)) = _
    rw [eq_ss, getK]
    by_cases hp : p.1 = w
    · rw [if_pos (decide_eq_true hp), if_pos hp]
    · rw [if_neg (by simpa using hp), if_neg hp]
      rw [keysK, List.map_cons, List.mem_cons] at h
      rcases h with h | h
      · exact absurd h.symm hp
      · exact mem_keys_get (k := k) k h
end K16
end
section
set_option linter.all false
set_option autoImplicit false
set_option maxRecDepth 100000
set_option maxHeartbeats 2000000
open Ev
namespace K16
theorem getK_len (rows : List Rw) (w : Tx) : (getK (knF rows) w).length ≤ rows.length := by
  rw [get_knF, List.length_map]; exact List.length_filter_le _ _
theorem add_kn (k : Kn) (r : Rw) : dPut (knD k) (.str r.1) (.tup ((getK k r.1).map eD ++ [eD r.2])) = knD (addK k r) := by
  rw [addK, ← put_kn, List.map_append]; rfl
theorem dbl_turn {N : Nat} {pre : List Rw} {r : Rw} {x0 x2 x3 x4 : Option OV} (hl : pre.length ≤ 10000) :
    lpF (callD P N) l_doubles_2 (rD r) [x0, some (.dct (knD (knF pre))), x2, x3, x4] = .ok .nx [x0, some (.dct (knD (knF (pre ++ [r])))), some (.fz (.str r.1)), some (.fz (.str r.2.1)), some (.fz (mkD r.2.2))] := by
  have hg := get_kn (knF pre) r.1
  have hp := add_kn (knF pre) r
  rw [← knF_snoc] at hp
  have hk := kn_len pre
  have hgl := getK_len pre r.1
  have hL : ((getK (knF pre) r.1).map eD).length ≤ 10000 := by rw [List.length_map]; omega
  obtain ⟨w, k, m⟩ := r
  rw [rD]
  rw [eD] at hp
  simp only at *
  generalize (getK (knF pre) w).map eD = L at *
  generalize knD (knF (pre ++ [(w, k, m)])) = K2 at *
  generalize knD (knF pre) = K at *
  generalize mkD m = Mm at *
  have k1 : K.length < 16777216 := by omega
  have k2 : L.length + 1 ≤ 16777216 := by omega
  have e1 : evE (callD P N) (.bin .add (.mt2 .get (.var 1) (.var 2) (.tup .nil)) (.tup (.cons (.tup (.cons (.var 3) (.cons (.var 4) .nil))) .nil))) [x0, some (.dct K), some (.fz (.str w)), some (.fz (.str k)), some (.fz Mm)] = .ok (.fz (.tup (L ++ [.tup [.str k, Mm]]))) [x0, some (.dct K), some (.fz (.str w)), some (.fz (.str k)), some (.fz Mm)] := by
    dsimp! [hg, k2]
  have e2 : evS (callD P N) (.sidx 1 (.var 2) (.bin .add (.mt2 .get (.var 1) (.var 2) (.tup .nil)) (.tup (.cons (.tup (.cons (.var 3) (.cons (.var 4) .nil))) .nil)))) [x0, some (.dct K), some (.fz (.str w)), some (.fz (.str k)), some (.fz Mm)] = .ok .nx [x0, some (.dct K2), some (.fz (.str w)), some (.fz (.str k)), some (.fz Mm)] := by
    rw [evS, e1, ← hp]
    show (Res.of (if keyOk (.str w) && decide (K.length < mostLen) then some (OV.dct (dPut K (.str w) (.tup (L ++ [.tup [.str k, Mm]])))) else none) _).bd _ = _
    rw [if_pos (by rw [decide_eq_true (show K.length < mostLen from k1)]; rfl)]
    rfl
  show (evSs (callD P N) (.cons (.sidx 1 (.var 2) (.bin .add (.mt2 .get (.var 1) (.var 2) (.tup .nil)) (.tup (.cons (.tup (.cons (.var 3) (.cons (.var 4) .nil))) .nil)))) .nil) [x0, some (.dct K), some (.fz (.str w)), some (.fz (.str k)), some (.fz Mm)]) = _
  rw [ss_nx e2, ss_end]
theorem dbl_sub (k : Kn) : ∀ w ∈ sortT (keysK k), w ∈ keysK k := fun w hw => (List.mergeSort_perm _ _).mem_iff.mp hw
theorem sortT_len (k : Kn) : (sortT (keysK k)).length = (keysK k).length := List.length_mergeSort _
def Fz (x : Option OV) : Prop := x = none ∨ ∃ d, x = some (.fz d)
theorem Fz.n : Fz none := .inl rfl
theorem Fz.d {d : D} : Fz (some (.fz d)) := .inr ⟨d, rfl⟩
theorem dbl_lc {N : Nat} {rows : List Rw} {x0 x2 x3 x4 : Option OV} (h2 : Fz x2) (hl : rows.length ≤ 10000) :
    evE (callD P N) c_doubles_1 [x0, some (.dct (knD (knF rows))), x2, x3, x4] = .ok (.lst ((dblF (knF rows)).map dbD)) [x0, some (.dct (knD (knF rows))), x2, x3, x4] := by
  rw [dblF, List.map_map]
  have hs := sortdk_ok (knF rows)
  have hk := keys_len rows
  have hn := sortT_len (knF rows)
  refine lc_if (xs := sortT (keysK (knF rows))) (e := D.str) (r := dbD ∘ fun w => (w, getK (knF rows) w)) rfl ?_ (by simp only [mostLen]; omega) fun w hw => ?_
  · rw [c_doubles_1, lcI_eq]
    generalize knD (knF rows) = K at *
    generalize (sortT (keysK (knF rows))).map D.str = Z at *
    rw [evIt, evE]
    show ((Res.of ((some (D.dct K)).bind fun x => bi1 .sortdk x) [x0, some (.dct K), x2, x3, x4]).bd _) = _
    rw [Option.bind_some, hs]; rfl
  · have hg := mem_keys_get (k := knF rows) (knF rows) (dbl_sub _ w hw)
    show _ = Res.ok (if decide (1 < (getK (knF rows) w).length) then some (D.tup [.str w, .tup ((getK (knF rows) w).map eD)]) else none) _
    have hL : ((getK (knF rows) w).map eD).length = (getK (knF rows) w).length := List.length_map _
    rw [← hL]
    generalize (getK (knF rows) w).map eD = L at *
    generalize knD (knF rows) = K at *
    by_cases h : 1 < L.length
    · have a : (1 : Int) < (L.length : Int) := by omega
      rcases h2 with rfl | ⟨d2, rfl⟩ <;> dsimp! [cmpF, c_doubles_1, hg, h, a]
    · have a : ¬ (1 : Int) < (L.length : Int) := by omega
      rcases h2 with rfl | ⟨d2, rfl⟩ <;> dsimp! [cmpF, c_doubles_1, hg, h, a]
theorem doubles_ok {N : Nat} (hN : 9 ≤ N) {s : Stk} (h : SOk s) : callD P N k_doubles [.fz s.d] = .ok (.fz (.tup ((dblF (knF (rowsF s s.ws))).map dbD))) [some (.fz s.d)] := by
  obtain ⟨M, rfl⟩ : ∃ M, N = M + 1 := ⟨N - 1, by omega⟩
  rw [call_eq (d := d_doubles) rfl rfl]
  have e0 := all_rows_ok (N := M) (by omega) h
  have hl := rowsF_len h s.ws fun _ hx => hx
  have h9 := h.ws
  generalize rowsF s s.ws = R at *
  generalize s.d = S at *
  obtain ⟨ρ, e, x2, x3, x4, rfl, hx⟩ := for_inv (cl := callD P M) (s := l_doubles_2) (ρ := [some (.fz S), some (.dct []), none, none, none]) (xs := R) (e := rD)
    (I := fun pre ρ => ∃ x2 x3 x4, ρ = [some (.fz S), some (.dct (knD (knF pre))), x2, x3, x4] ∧ Fz x2)
    rfl (by generalize R.map rD = Z at *; rw [l_doubles_2, forI_eq]; dsimp! [e0] <;> rfl) ⟨none, none, none, rfl, .n⟩ (fun pre r post ρ hp hI => by
      obtain ⟨x2, x3, x4, rfl, _⟩ := hI
      have : pre.length ≤ 10000 := by have := hl; rw [hp, List.length_append] at this; omega
      exact ⟨_, dbl_turn this, _, _, _, rfl, .d⟩)
  have ec := dbl_lc (N := M) (rows := R) (x0 := some (.fz S)) (x2 := x2) (x3 := x3) (x4 := x4) hx (by omega)
  generalize (dblF (knF R)).map dbD = Z at *
  generalize knD (knF R) = K at *
  simp_all! [b_doubles, e, ec] <;> first | rfl | decide
end K16
end
section
set_option linter.all false
set_option autoImplicit false
set_option maxRecDepth 100000
set_option maxHeartbeats 2000000
open Ev
namespace K16
/-- fit for _law_same -/
structure Sam (d : D) (n : Nat) : Prop where
  pl : d.pl = true
  flat : D.flat 20 d = true
  nod : d.nod ≤ n
theorem flat_up {n m : Nat} {d : D} (h : D.flat n d = true) (hm : n ≤ m) : D.flat m d = true := by
  induction hm with
  | refl => exact h
  | step _ ih => exact flat_mono _ _ ih
theorem Sam.same {d : D} {n N : Nat} (h : Sam d n) (hn : n ≤ 900000) (hN : 1 ≤ N) : callD P N k_law_same [.fz d, .fz d] = .ok (.fz (.bl true)) [some (.fz d), some (.fz d)] :=
  same_ok hN h.pl (flat_up h.flat (by decide)) (Nat.le_trans h.nod hn)
theorem pls_of : ∀ {l : List D}, (∀ d ∈ l, d.pl = true) → D.pls l = true
  | [], _ => rfl
  | d :: l, h => by
    show (D.pl d && D.pls l) = true
    rw [h d (by simp), pls_of fun x hx => h x (List.mem_cons_of_mem _ hx)]; rfl
theorem nods_le {c : Nat} : ∀ {l : List D}, (∀ d ∈ l, d.nod ≤ c) → D.nods l ≤ c * l.length
  | [], _ => Nat.zero_le _
  | d :: l, h => by
    have h1 := h d (by simp)
    have h2 := nods_le (c := c) (l := l) fun x hx => h x (List.mem_cons_of_mem _ hx)
    show D.nod d + D.nods l ≤ _
    rw [List.length_cons, Nat.mul_succ]; omega
theorem nod_t (l : List D) : (D.tup l).nod = D.nods l + 1 := rfl
/-- of level: flat n -/
structure Sa (k : Nat) (d : D) (n : Nat) : Prop where
  pl : d.pl = true
  flat : D.flat k d = true
  nod : d.nod ≤ n
theorem Sa.sam {k n : Nat} {d : D} (h : Sa k d n) (hk : k ≤ 20 := by decide) : Sam d n := ⟨h.pl, flat_up h.flat hk, h.nod⟩
theorem Sa.mono {k n m : Nat} {d : D} (h : Sa k d n) (hm : n ≤ m) : Sa k d m := ⟨h.pl, h.flat, Nat.le_trans h.nod hm⟩
theorem Sa.up {k j n : Nat} {d : D} (h : Sa k d n) (hm : k ≤ j) : Sa j d n := ⟨h.pl, flat_up h.flat hm, h.nod⟩
theorem Sa.s {k : Nat} {t : Tx} : Sa k (.str t) 1 := ⟨rfl, flat_s, Nat.le_refl _⟩
theorem Sa.i {k : Nat} {t : Int} : Sa k (.int t) 1 := ⟨rfl, flat_i, Nat.le_refl _⟩
theorem Sa.n {k : Nat} : Sa k .non 1 := ⟨rfl, flat_n, Nat.le_refl _⟩
theorem Sa.o {k : Nat} (o : Option Tx) : Sa k (opD .str o) 1 := by cases o; exact .n; exact .s
theorem Sa.t0 {k : Nat} : Sa (k + 1) (.tup []) 1 := ⟨rfl, rfl, Nat.le_refl _⟩
theorem Sa.tc {k a b : Nat} {d : D} {l : List D} (h : Sa k d a) (h2 : Sa (k + 1) (.tup l) b) : Sa (k + 1) (.tup (d :: l)) (a + b) := by
  refine ⟨?_, ?_, ?_⟩
  · show (D.pl d && D.pls l) = true
    rw [h.pl, show D.pls l = true from h2.pl]; rfl
  · rw [flat_t, flats_c, h.flat, show D.flats k l = true from h2.flat]; rfl
  · have := h.nod; have := h2.nod
    rw [nod_t] at *
    show D.nod d + D.nods l + 1 ≤ _
    omega
theorem Sa.tm {k c n : Nat} {α : Type} {f : α → D} {l : List α} (h : ∀ x ∈ l, Sa k (f x) c) (hn : c * l.length + 1 ≤ n) : Sa (k + 1) (.tup (l.map f)) n := by
  refine ⟨pls_of fun d hd => ?_, (flat_t (l := l.map f)).trans (flats_of fun d hd => ?_), ?_⟩
  · obtain ⟨x, hx, rfl⟩ := List.mem_map.mp hd; exact (h x hx).pl
  · obtain ⟨x, hx, rfl⟩ := List.mem_map.mp hd; exact (h x hx).flat
  · rw [nod_t]
    have := nods_le (c := c) (l := l.map f) fun d hd => by obtain ⟨x, hx, rfl⟩ := List.mem_map.mp hd; exact (h x hx).nod
    rw [List.length_map] at this
    omega
theorem Sa.ts {k n : Nat} {α : Type} {f : α → D} {c : α → Nat} {l : List α} (h : ∀ x ∈ l, Sa k (f x) (c x)) (hn : (l.map c).sum + 1 ≤ n) : Sa (k + 1) (.tup (l.map f)) n := by
  refine ⟨pls_of fun d hd => ?_, (flat_t (l := l.map f)).trans (flats_of fun d hd => ?_), ?_⟩
  · obtain ⟨x, hx, rfl⟩ := List.mem_map.mp hd; exact (h x hx).pl
  · obtain ⟨x, hx, rfl⟩ := List.mem_map.mp hd; exact (h x hx).flat
  · rw [nod_t]
    have : ∀ l : List α, (∀ x ∈ l, Sa k (f x) (c x)) → D.nods (l.map f) ≤ (l.map c).sum := by
      intro l
      induction l with
      | nil => intro _; exact Nat.le_refl _
      | cons a l ih =>
        intro h
        have h1 := (h a (by simp)).nod
        have h2 := ih fun x hx => h x (List.mem_cons_of_mem _ hx)
        show D.nod (f a) + D.nods (l.map f) ≤ _
        simp; omega
    have := this l h
    omega
theorem Sa.pr {k : Nat} (p : Tx × Tx) : Sa (k + 1) (prD p) 3 := (Sa.s.tc (Sa.s.tc .t0)).mono (by omega)
theorem Sa.mks {k : Nat} {m : Mk} (hm : m.length ≤ 5) : Sa (k + 2) (mkD m) 16 := .tm (c := 3) (fun p _ => .pr p) (by omega)
theorem Sa.e {k : Nat} {e : Ent} (hm : e.2.length ≤ 5) : Sa (k + 3) (eD e) 18 := (Sa.s.tc ((Sa.mks hm).tc .t0)).mono (by omega)
theorem Sa.row {k : Nat} {p : Mk × Option Tx} (hm : p.1.length ≤ 5) : Sa (k + 3) (rowD p) 18 := ((Sa.mks hm).tc ((Sa.o _).tc .t0)).mono (by omega)
theorem Sa.stp {k : Nat} (s : Stp) : Sa (k + 1) (.tup s.l) 5 := by
  cases s with
  | end_ p => exact (Sa.s.tc (Sa.s.tc .t0)).mono (by omega)
  | front p => exact (Sa.s.tc (Sa.s.tc .t0)).mono (by omega)
  | cut p => exact (Sa.s.tc (Sa.s.tc .t0)).mono (by omega)
  | dbl n => exact (Sa.s.tc (Sa.i.tc .t0)).mono (by omega)
  | swap a b => exact (Sa.s.tc (Sa.s.tc (Sa.s.tc .t0))).mono (by omega)
  | near w a b x => exact (Sa.s.tc (Sa.s.tc (Sa.s.tc (Sa.s.tc .t0)))).mono (by omega)
theorem sam_chain {c : List Stp} (h : c.length ≤ 200) : Sam (.tup (chD c)) 2000 := (Sa.tm (k := 1) (c := 5) (fun s _ => .stp s) (by omega)).sam
theorem sam_marks {l : List Mk} (h : ∀ m ∈ l, m.length ≤ 5) (hl : l.length ≤ 1024) : Sam (.tup (l.map mkD)) 20000 := (Sa.tm (k := 2) (c := 16) (fun m hm => .mks (h m hm)) (by omega)).sam
theorem tabF_mk {s : Stk} (h : SOk s) {x : Wd} (hx : x ∈ s.ws) {p : Mk × Option Tx} (hp : p ∈ tabF s x) : p.1 ∈ marksX s x ∧ p.2 = wordF s x p.1 ∧ p.1.length ≤ 5 := by
  obtain ⟨m, hm, rfl⟩ := List.mem_map.mp hp
  exact ⟨hm, (wordF_mem hm).symm, (marksX_len h hx).2 m hm⟩
theorem sam_tab {s : Stk} (h : SOk s) {x : Wd} (hx : x ∈ s.ws) : Sam (.tup ((tabF s x).map rowD)) 20000 :=
  (Sa.tm (k := 3) (c := 18) (fun p hp => .row (tabF_mk h hx hp).2.2) (by have := tabF_len h hx; omega)).sam
theorem sam_txs {l : List Tx} (hl : l.length ≤ 4000) : Sam (.tup (l.map .str)) 20000 := (Sa.tm (k := 1) (c := 1) (fun _ _ => .s) (by omega)).sam
theorem rowsF_mk {s : Stk} (h : SOk s) {r : Rw} (hr : r ∈ rowsF s s.ws) : r.2.2.length ≤ 5 := by
  obtain ⟨x, hx, h2⟩ := List.mem_flatMap.mp hr
  obtain ⟨p, hp, h3⟩ := List.mem_filterMap.mp h2
  obtain ⟨w, _, rfl⟩ := Option.map_eq_some_iff.mp h3
  exact (tabF_mk h hx hp).2.2
theorem rows_9216 {s : Stk} (h : SOk s) : (rowsF s s.ws).length ≤ 9216 := by
  have := rowsF_len h s.ws fun _ hx => hx
  have := h.ws
  omega
theorem sam_get {s : Stk} (h : SOk s) (w : Tx) : Sam (.tup ((getK (knF (rowsF s s.ws)) w).map eD)) 200000 := by
  have hl := getK_len (rowsF s s.ws) w
  have h9 := rows_9216 h
  refine (Sa.tm (k := 3) (c := 18) (fun e he => ?_) (by omega)).sam
  rw [get_knF] at he
  obtain ⟨r, hr, rfl⟩ := List.mem_map.mp he
  exact .e (rowsF_mk h (List.mem_filter.mp hr).1)
theorem sam_dbl {s : Stk} (h : SOk s) : Sam (.tup ((dblF (knF (rowsF s s.ws))).map dbD)) 200000 := by
  have h9 := rows_9216 h
  have hw := dbl_wt (rowsF s s.ws)
  refine (Sa.ts (k := 5) (c := fun p => 3 + 18 * p.2.length) (fun p hp => ?_) (by omega)).sam
  obtain ⟨w, _, rfl⟩ := List.mem_map.mp hp
  have : Sa 4 (.tup ((getK (knF (rowsF s s.ws)) w).map eD)) (18 * (getK (knF (rowsF s s.ws)) w).length + 1) := .tm (k := 3) (c := 18) (fun e he => by
    rw [get_knF] at he
    obtain ⟨r, hr, rfl⟩ := List.mem_map.mp he
    exact .e (rowsF_mk h (List.mem_filter.mp hr).1)) (Nat.le_refl _)
  exact (Sa.s.tc (this.tc .t0)).mono (by simp only; omega)
end K16
end
section
set_option linter.all false
set_option autoImplicit false
set_option maxRecDepth 100000
set_option maxHeartbeats 2000000
open Ev
namespace K16
theorem cutL_hi {α : Type} (t : List α) (n : Nat) : cut t none (some (n : Int)) = t.take n := by
  unfold cut slIx
  have e1 : ¬ ((n : Int) < 0) := by omega
  simp only [e1, if_false, Int.toNat_natCast]
  by_cases h : n ≤ t.length
  · rw [Nat.min_eq_left h]; simp
  · rw [Nat.min_eq_right (by omega)]
    simp
    rw [List.take_of_length_le (by omega)]
theorem cutL_lo {α : Type} (t : List α) (n : Nat) : cut t (some (n : Int)) none = t.drop n := by
  unfold cut slIx
  have e1 : ¬ ((n : Int) < 0) := by omega
  simp only [e1, if_false, Int.toNat_natCast]
  by_cases h : n ≤ t.length
  · rw [Nat.min_eq_left h, List.take_of_length_le (by simp)]
  · rw [Nat.min_eq_right (by omega)]
    rw [List.drop_eq_nil_of_le (Nat.le_refl _), List.drop_eq_nil_of_le (by omega)]; simp
theorem cutL_mid {α : Type} (t : List α) {k : Nat} (h : k < t.length) : cut t (some (k : Int)) (some ((k : Int) + 1)) = (t.drop k).take 1 := by
  unfold cut slIx
  have e1 : ¬ ((k : Int) < 0) := by omega
  have e2 : ¬ ((k : Int) + 1 < 0) := by omega
  have e3 : ((k : Int) + 1).toNat = k + 1 := by omega
  simp only [e1, e2, if_false, Int.toNat_natCast, e3]
  rw [Nat.min_eq_left (by omega), Nat.min_eq_left (by omega), show k + 1 - k = 1 by omega]
theorem eqs_mks : ∀ m n : List Mk, D.eqs (m.map mkD) (n.map mkD) = decide (m = n)
  | [], [] => rfl
  | [], _ :: _ => rfl
  | _ :: _, [] => rfl
  | p :: m, q :: n => by
    rw [List.map_cons, List.map_cons, eqs_cc, eqs_mks m n, mkD, mkD, eq_tt, eqs_prs]
    by_cases h1 : p = q <;> by_cases h2 : m = n <;> simp [h1, h2]
theorem isIn_mks (x : Mk) (l : List Mk) : isIn (mkD x) (.lst (l.map mkD)) = some (decide (x ∈ l)) := by
  rw [isIn_l, if_pos (by rw [D.ok, mk_flat x 28, mks_flat l 27]; rfl), List.any_map]
  congr 1
  rw [Bool.eq_iff_iff, List.any_eq_true, decide_eq_true_eq]
  constructor
  · rintro ⟨q, hq, h⟩
    have h : D.eq (mkD q) (mkD x) = true := h
    rw [mkD, mkD, eq_tt, eqs_prs, decide_eq_true_eq] at h
    rw [← h]; exact hq
  · exact fun h => ⟨x, h, by show D.eq (mkD x) (mkD x) = true; rw [mkD, eq_tt, eqs_prs]; simp⟩
def bent0 (m : Mk) : List Mk := [m ++ [(s_number, s_one)], if 1 < m.length then m.reverse else m ++ m, (s_none, s_x) :: m, if m = [] then [(s_time, s_now)] else m.drop 1]
theorem i_revt {l : List D} : bi1 .rev (.tup l) = some (.fz (.tup l.reverse)) := rfl
abbrev bentE : E := .lst (.cons (.bin .add (.var 3) (.tup (.cons (.tup (.cons (.cst (.str s_number)) (.cons (.cst (.str s_one)) .nil))) .nil))) (.cons (.ite (.cmp .gt (.bi .len (.var 3)) (.cst (.int 1))) (.bi .rev (.var 3)) (.bin .add (.var 3) (.var 3))) (.cons (.bin .add (.tup (.cons (.tup (.cons (.cst (.str s_none)) (.cons (.cst (.str s_x)) .nil))) .nil)) (.var 3)) (.cons (.ite (.cmp .ne (.var 3) (.tup .nil)) (.slc (.var 3) (.cst (.int 1)) (.cst .non)) (.tup (.cons (.tup (.cons (.cst (.str s_time)) (.cons (.cst (.str s_now)) .nil))) .nil))) .nil))))
theorem bent_1 {cl : CL} {m : Mk} (hm : m.length ≤ 5) {x0 x1 x2 x4 x5 x6 : Option OV} : evE cl bentE [x0, x1, x2, some (.fz (mkD m)), x4, x5, x6] = .ok (.lst ((bent0 m).map mkD)) [x0, x1, x2, some (.fz (mkD m)), x4, x5, x6] := by
  have hf := prs_flat m 28
  have he := eqs_prs m []
  have hl : (m.map prD).length = m.length := List.length_map _
  have hc := cutL_lo (m.map prD) 1
  have g1 : mkD (m ++ [(s_number, s_one)]) = .tup (m.map prD ++ [.tup [.str s_number, .str s_one]]) := mkD_snoc _ _ _
  have g2 : mkD m.reverse = .tup (m.map prD).reverse := by rw [mkD, List.map_reverse]
  have g3 : mkD (m ++ m) = .tup (m.map prD ++ m.map prD) := by rw [mkD, List.map_append]
  have g4 : mkD ((s_none, s_x) :: m) = .tup (.tup [.str s_none, .str s_x] :: m.map prD) := rfl
  have g5 : mkD (m.drop 1) = .tup ((m.map prD).drop 1) := by rw [mkD, List.map_drop]
  have g6 : mkD [(s_time, s_now)] = .tup [.tup [.str s_time, .str s_now]] := rfl
  have g0 : mkD m = .tup (m.map prD) := rfl
  rw [bent0, List.map_cons, List.map_cons, List.map_cons, List.map_cons, List.map_nil, g1, g4, g0]
  rw [List.map_nil] at he
  have hc : cut (m.map prD) (some 1) none = (m.map prD).drop 1 := hc
  generalize (m.map prD).drop 1 = C at *
  generalize m.map prD = M at *
  have k1 : M.length + 1 ≤ 16777216 := by omega
  have k2 : M.length + M.length ≤ 16777216 := by omega
  by_cases h : m = []
  · have h1 : ¬ 1 < m.length := by rw [h]; decide
    rw [if_neg h1, if_pos h, g3, g6]
    rw [decide_eq_true h] at he
    have a : ¬ (1 : Int) < (M.length : Int) := by omega
    have k3 : 1 + M.length ≤ 16777216 := by omega
    dsimp! [hf, he, k1, k2, a, i_revt, endOf, k3]
  · rw [decide_eq_false h] at he
    rw [if_neg h, g5]
    by_cases h1 : 1 < m.length
    · rw [if_pos h1, g2]
      have a : (1 : Int) < (M.length : Int) := by omega
      have k3 : 1 + M.length ≤ 16777216 := by omega
      dsimp! [hf, he, k1, k2, a, i_revt, endOf, k3, hc]
    · rw [if_neg h1, g3]
      have a : ¬ (1 : Int) < (M.length : Int) := by omega
      have k3 : 1 + M.length ≤ 16777216 := by omega
      dsimp! [hf, he, k1, k2, a, i_revt, endOf, k3, hc]
def bent1 (m : Mk) (k : Nat) (q : Tx × Tx) : List Mk := [m.take k ++ [(q.1, s_none)] ++ m.drop (k + 1), m.take k ++ (m.drop k).take 1 ++ m.drop k]
abbrev bentF : E := .lst (.cons (.bin .add (.bin .add (.slc (.var 3) (.cst .non) (.var 5)) (.tup (.cons (.tup (.cons (.idx (.idx (.var 3) (.var 5)) (.cst (.int 0))) (.cons (.cst (.str s_none)) .nil))) .nil))) (.slc (.var 3) (.bin .add (.var 5) (.cst (.int 1))) (.cst .non))) (.cons (.bin .add (.bin .add (.slc (.var 3) (.cst .non) (.var 5)) (.slc (.var 3) (.var 5) (.bin .add (.var 5) (.cst (.int 1))))) (.slc (.var 3) (.var 5) (.cst .non))) .nil))
theorem bent_2 {cl : CL} {m : Mk} (hm : m.length ≤ 5) {k : Nat} {q : Tx × Tx} (hq : m[k]? = some q) {x0 x1 x2 x4 x6 : Option OV} : evE cl bentF [x0, x1, x2, some (.fz (mkD m)), x4, some (.fz (.int k)), x6] = .ok (.lst ((bent1 m k q).map mkD)) [x0, x1, x2, some (.fz (mkD m)), x4, some (.fz (.int k)), x6] := by
  have hk : k < m.length := (List.getElem?_eq_some_iff.mp hq).1
  have hl : (m.map prD).length = m.length := List.length_map _
  have c1 := cutL_hi (m.map prD) k
  have c2 := cutL_lo (m.map prD) (k + 1)
  have c3 := cutL_mid (m.map prD) (k := k) (by omega)
  have c4 := cutL_lo (m.map prD) k
  have c5 : idx2 (.tup (m.map prD)) (.int k) = some (prD q) := by
    rw [x_t]
    show ((if (0 : Int) ≤ k then (if (k : Int) < (m.map prD).length then some (k : Int).toNat else none) else _).bind fun j => (m.map prD)[j]?) = _
    rw [if_pos (by omega), if_pos (by omega), Option.bind_some, Int.toNat_natCast, List.getElem?_map, hq]; rfl
  have g1 : mkD (m.take k ++ [(q.1, s_none)] ++ m.drop (k + 1)) = .tup ((m.map prD).take k ++ [.tup [.str q.1, .str s_none]] ++ (m.map prD).drop (k + 1)) := by rw [mkD, List.map_append, List.map_append, List.map_take, List.map_drop]; rfl
  have g2 : mkD (m.take k ++ (m.drop k).take 1 ++ m.drop k) = .tup ((m.map prD).take k ++ ((m.map prD).drop k).take 1 ++ (m.map prD).drop k) := by rw [mkD, List.map_append, List.map_append, List.map_take, List.map_take, List.map_drop]
  have g0 : mkD m = .tup (m.map prD) := rfl
  rw [bent1, List.map_cons, List.map_cons, List.map_nil, g1, g2, g0]
  have l1 : ((m.map prD).take k).length ≤ 5 := by rw [List.length_take]; omega
  have l2 : ((m.map prD).drop (k + 1)).length ≤ 5 := by rw [List.length_drop]; omega
  have l3 : (((m.map prD).drop k).take 1).length ≤ 5 := by rw [List.length_take, List.length_drop]; omega
  have l4 : ((m.map prD).drop k).length ≤ 5 := by rw [List.length_drop]; omega
  have c2 : cut (m.map prD) (some ((k : Int) + 1)) none = (m.map prD).drop (k + 1) := c2
  obtain ⟨q1, q2⟩ := q
  rw [prD] at c5
  simp only at *
  generalize ((m.map prD).drop k).take 1 = T3 at *
  generalize (m.map prD).drop (k + 1) = T2 at *
  generalize (m.map prD).drop k = T4 at *
  generalize (m.map prD).take k = T1 at *
  generalize m.map prD = M at *
  rw [x_t] at c5
  have j1 : T1.length + 1 ≤ 16777216 := by omega
  have j2 : T1.length + 1 + T2.length ≤ 16777216 := by omega
  have j3 : T1.length + T3.length ≤ 16777216 := by omega
  have j4 : T1.length + T3.length + T4.length ≤ 16777216 := by omega
  have j5 : T1.length + (T3.length + T4.length) ≤ 16777216 := by omega
  have j6 : T1.length + (T2.length + 1) ≤ 16777216 := by omega
  have c5 : idx2 (.tup M) (.int k) = some (.tup [.str q1, .str q2]) := c5
  have h5 : (if k < M.length then some k else none).bind (fun j => M[j]?) = some (D.tup [.str q1, .str q2]) := by
    rw [if_pos (by omega), Option.bind_some]
    have := c5
    rw [x_t] at this
    have this : ((if (0 : Int) ≤ k then (if (k : Int) < M.length then some (k : Int).toNat else none) else (if -(M.length : Int) ≤ (k : Int) then some ((k : Int) + M.length).toNat else none)).bind fun j => M[j]?) = _ := this
    rwa [if_pos (by omega), if_pos (by omega), Option.bind_some, Int.toNat_natCast] at this
  have hk2 : k < M.length := by omega
  rw [if_pos hk2, Option.bind_some] at h5
  have hk3 : M[k] = D.tup [.str q1, .str q2] := by rw [List.getElem?_eq_getElem hk2] at h5; exact Option.some.inj h5
  dsimp! [endOf, c1, c2, c3, c4, j1, j2, j3, j4, j5, j6, hk2, hk3]
end K16
end
section
set_option linter.all false
set_option autoImplicit false
set_option maxRecDepth 100000
set_option maxHeartbeats 2000000
open Ev
namespace K16
theorem bent0_len {m : Mk} (hm : m.length ≤ 5) : (bent0 m).length = 4 ∧ ∀ x ∈ bent0 m, x.length ≤ 100 := by
  refine ⟨rfl, fun x hx => ?_⟩
  simp only [bent0, List.mem_cons, List.not_mem_nil, or_false] at hx
  rcases hx with rfl | rfl | rfl | rfl
  · simp; omega
  · split
    · simp; omega
    · simp; omega
  · simp; omega
  · split
    · simp
    · simp; omega
theorem bent1_len {m : Mk} (hm : m.length ≤ 5) (k : Nat) (q : Tx × Tx) : ∀ x ∈ bent1 m k q, x.length ≤ 100 := by
  intro x hx
  simp only [bent1, List.mem_cons, List.not_mem_nil, or_false] at hx
  rcases hx with rfl | rfl
  · simp; omega
  · simp; omega
theorem bent_lc {N : Nat} (hN : 3 ≤ N) {s : Stk} {n : Tx} {c : Cls} (hc : clsOf s.cs n = some c) (h5 : c.slots.length ≤ 5) (hs : ∀ x ∈ c.slots, x ∈ allSlots) (hl : s.cs.length ≤ 4) {L : List Mk} (hL : L.length ≤ 10) {x0 x3 x5 : Option OV} :
    evE (callD P N) c_law_bent_marks_1 [x0, some (.fz s.d), some (.fz (.str n)), x3, some (.fz (.lst (L.map mkD))), x5, none] = .ok (.lst ((L.filter fun m => !decide (m ∈ marksF s.cs c.slots)).map mkD)) [x0, some (.fz s.d), some (.fz (.str n)), x3, some (.fz (.lst (L.map mkD))), x5, none] := by
  refine lc_if (xs := L) (e := mkD) rfl ?_ (by simp only [mostLen]; omega) fun m hm => ?_
  · generalize L.map mkD = Z
    generalize s.d = S
    rfl
  · have e := law_marks_ok hN hc h5 hs hl
    have e3 := isIn_mks m (marksF s.cs c.slots)
    generalize L.map mkD = Z at *
    generalize s.d = S at *
    generalize mkD m = Mm at *
    generalize D.lst ((marksF s.cs c.slots).map mkD) = G at *
    by_cases h : m ∈ marksF s.cs c.slots <;> dsimp! [cmpF, c_law_bent_marks_1, e, e3, h]
theorem add_ev {cl : CL} {i : Nat} {e : E} {r : Env} {A B : List D} (hr : r.at i = some (.fz (.lst A))) (ho : ∀ q ρ, opd e q ρ = q.bd fun o ρ => .ok (.tmp o) ρ) (he : evE cl e r = .ok (.lst B) r) (hl : bin2 .add (.lst A) (.lst B) = some (.lst (A ++ B))) : evE cl (.bin .add (.var i) e) r = .ok (.lst (A ++ B)) r := by
  rw [evE, opd_var, hr]
  simp only [bd_ok]
  rw [ho, he]
  simp only [bd_ok]
  rw [ov_s, hr, ov_t]
  show Res.of (bin2 .add (.lst A) (.lst B)) r = _
  rw [hl]; rfl
theorem bent_ok {N : Nat} (hN : 4 ≤ N) (ds : List Int) {a : Int} (ha : 0 ≤ a) {s : Stk} {n : Tx} {c : Cls} {m : Mk} (hc : clsOf s.cs n = some c) (h5 : c.slots.length ≤ 5) (hs : ∀ x ∈ c.slots, x ∈ allSlots) (hl : s.cs.length ≤ 4) (hm : m.length ≤ 5) :
    ∃ (L : List Mk) (a' : Int), 0 ≤ a' ∧ L.length ≤ 10 ∧ (∀ x ∈ L, x ∉ marksF s.cs c.slots ∧ x.length ≤ 100) ∧
      callD P N k_law_bent_marks [.dct (wD ds a), .fz s.d, .fz (.str n), .fz (mkD m)] = .ok (.lst (L.map mkD)) [some (.dct (wD ds a')), some (.fz s.d), some (.fz (.str n)), some (.fz (mkD m))] := by
  obtain ⟨M, rfl⟩ : ∃ M, N = M + 1 := ⟨N - 1, by omega⟩
  have hmem : ∀ (l : List Mk), (∀ x ∈ l, x.length ≤ 100) → ∀ x ∈ l.filter (fun m => !decide (m ∈ marksF s.cs c.slots)), x ∉ marksF s.cs c.slots ∧ x.length ≤ 100 := by
    intro l hl x hx
    obtain ⟨h1, h2⟩ := List.mem_filter.mp hx
    exact ⟨by simpa using h2, hl x h1⟩
  have hb0 := bent0_len hm
  have e1 : ∀ W, evS (callD P M) (.set (.nm 4) (.frz bentE)) [some (.dct W), some (.fz s.d), some (.fz (.str n)), some (.fz (mkD m)), none, none, none] = .ok .nx [some (.dct W), some (.fz s.d), some (.fz (.str n)), some (.fz (mkD m)), some (.fz (.lst ((bent0 m).map mkD))), none, none] := by
    intro W
    rw [evS, evE, bent_1 hm]; rfl
  by_cases h : m = []
  · have ec := bent_lc (N := M) (by omega) hc h5 hs hl (L := bent0 m) (by rw [hb0.1]; decide) (x0 := some (.dct (wD ds a))) (x3 := some (.fz (mkD m))) (x5 := none)
    refine ⟨(bent0 m).filter fun m => !decide (m ∈ marksF s.cs c.slots), a, ha, Nat.le_trans (List.length_filter_le _ _) (by rw [hb0.1]; decide), hmem _ hb0.2, ?_⟩
    rw [call_eq (d := d_law_bent_marks) rfl rfl]
    show d_law_bent_marks.end (evSs _ b_law_bent_marks [some (.dct (wD ds a)), some (.fz s.d), some (.fz (.str n)), some (.fz (mkD m)), none, none, none]) = _
    rw [b_law_bent_marks, ss_nx (e1 _)]
    have hM : mkD m = .tup [] := by rw [h]; rfl
    generalize wD ds a = W at *
    generalize ((bent0 m).filter fun m => !decide (m ∈ marksF s.cs c.slots)).map mkD = Z at *
    generalize (bent0 m).map mkD = Z0 at *
    generalize s.d = S at *
    have s1 : evT (callD P M) (.cmp .ne (.var 3) (.tup .nil)) [some (.dct W), some (.fz S), some (.fz (.str n)), some (.fz (mkD m)), some (.fz (.lst Z0)), none, none] = .ok false [some (.dct W), some (.fz S), some (.fz (.str n)), some (.fz (mkD m)), some (.fz (.lst Z0)), none, none] := by
      rw [hM]
      dsimp! []
    rw [ss_nx (r' := [some (.dct W), some (.fz S), some (.fz (.str n)), some (.fz (mkD m)), some (.fz (.lst Z0)), none, none]) (by rw [s_iff s1, ss_end])]
    clear e1 s1
    rw [ss_ret (by rw [evS, ec]; rfl)]
    rfl
  · have hpos : (0 : Int) < ((m.map prD).length : Int) := by
      rw [List.length_map]
      have := List.length_pos_iff.mpr h
      omega
    obtain ⟨i, i0, i1, en⟩ := next_ok (N := M) (by omega) ds ha hpos
    obtain ⟨k, rfl⟩ : ∃ k : Nat, i = k := ⟨i.toNat, by omega⟩
    rw [List.length_map] at i1
    have hk : k < m.length := by omega
    have hq : m[k]? = some m[k] := List.getElem?_eq_getElem hk
    have e2 := bent_2 (cl := callD P M) hm hq (x0 := some (.dct (wD ds (a+1)))) (x1 := some (.fz s.d)) (x2 := some (.fz (.str n))) (x4 := some (.fz (.lst ((bent0 m).map mkD)))) (x6 := none)
    have hb1 := bent1_len hm k m[k]
    have hlen : (bent0 m ++ bent1 m k m[k]).length = 6 := by rw [List.length_append, hb0.1]; rfl
    have ec := bent_lc (N := M) (by omega) hc h5 hs hl (L := bent0 m ++ bent1 m k m[k]) (by rw [hlen]; decide) (x0 := some (.dct (wD ds (a+1)))) (x3 := some (.fz (mkD m))) (x5 := some (.fz (.int k)))
    refine ⟨(bent0 m ++ bent1 m k m[k]).filter fun m => !decide (m ∈ marksF s.cs c.slots), a + 1, by omega, Nat.le_trans (List.length_filter_le _ _) (by rw [hlen]; decide), hmem _ (fun x hx => (List.mem_append.mp hx).elim (hb0.2 x) (hb1 x)), ?_⟩
    have hne : D.eqs (m.map prD) [] = false := by have := eqs_prs m []; rw [decide_eq_false h] at this; exact this
    have hf := prs_flat m 28
    rw [List.map_append] at ec
    have hA : bin2 .add (.lst ((bent0 m).map mkD)) (.lst ((bent1 m k m[k]).map mkD)) = some (.lst ((bent0 m).map mkD ++ (bent1 m k m[k]).map mkD)) := addl' (by rw [List.length_map, List.length_map, hb0.1]; show 4 + 2 ≤ _; decide)
    rw [call_eq (d := d_law_bent_marks) rfl rfl]
    show d_law_bent_marks.end (evSs _ b_law_bent_marks [some (.dct (wD ds a)), some (.fz s.d), some (.fz (.str n)), some (.fz (mkD m)), none, none, none]) = _
    rw [b_law_bent_marks, ss_nx (e1 _)]
    generalize ((bent0 m ++ bent1 m k m[k]).filter fun m => !decide (m ∈ marksF s.cs c.slots)).map mkD = Z at *
    generalize (bent1 m k m[k]).map mkD = Z1 at *
    generalize (bent0 m).map mkD = Z0 at *
    generalize s.d = S at *
    rw [mkD] at *
    generalize m.map prD = Mm at *
    generalize wD ds a = W at *
    generalize wD ds (a+1) = W1 at *
    have s1 : evT (callD P M) (.cmp .ne (.var 3) (.tup .nil)) [some (.dct W), some (.fz S), some (.fz (.str n)), some (.fz (.tup Mm)), some (.fz (.lst Z0)), none, none] = .ok true [some (.dct W), some (.fz S), some (.fz (.str n)), some (.fz (.tup Mm)), some (.fz (.lst Z0)), none, none] := by
      dsimp! [hf, hne]
    have s2 : evS (callD P M) (.set (.nm 5) (.frz (.df k_law_next (.bor 0 (.val (.bi .len (.var 3)) .nil))))) [some (.dct W), some (.fz S), some (.fz (.str n)), some (.fz (.tup Mm)), some (.fz (.lst Z0)), none, none] = .ok .nx [some (.dct W1), some (.fz S), some (.fz (.str n)), some (.fz (.tup Mm)), some (.fz (.lst Z0)), some (.fz (.int k)), none] := by
      dsimp! [en] <;> rfl
    have s3 : evS (callD P M) (.set (.nm 4) (.frz (.bin .add (.var 4) bentF))) [some (.dct W1), some (.fz S), some (.fz (.str n)), some (.fz (.tup Mm)), some (.fz (.lst Z0)), some (.fz (.int k)), none] = .ok .nx [some (.dct W1), some (.fz S), some (.fz (.str n)), some (.fz (.tup Mm)), some (.fz (.lst (Z0 ++ Z1))), some (.fz (.int k)), none] := by
      rw [evS, evE, add_ev rfl (fun q ρ => rfl) e2 hA]
      rfl
    rw [ss_nx (r' := [some (.dct W1), some (.fz S), some (.fz (.str n)), some (.fz (.tup Mm)), some (.fz (.lst (Z0 ++ Z1))), some (.fz (.int k)), none]) (by rw [s_ift s1, ss_nx s2, ss_nx s3, ss_end])]
    clear e1 e2 s1 s2 s3
    rw [ss_ret (by rw [evS, ec]; rfl)]
    rfl
end K16
end
section
set_option linter.all false
set_option autoImplicit false
set_option maxRecDepth 100000
set_option maxHeartbeats 2000000
open Ev
namespace K16
/-- a comprehension whose turns change what they borrow -/
theorem lc_st {cl : CL} {c : E} {ρ ρ1 : Env} {α β : Type} {xs : List α} {e : α → D} {r : β → D} (I : Env → Prop) (R : α → β → Prop) (hc : isLc c = true) (h1 : lcI cl c ρ = .ok (xs.map e) ρ1) (hI : I ρ1) (hl : xs.length ≤ mostLen)
    (h : ∀ x ∈ xs, ∀ ρ, I ρ → ∃ (o : Option β) (ρ' : Env), cmpF cl c (e x) ρ = .ok (o.map r) ρ' ∧ I ρ' ∧ ∀ y, o = some y → R x y) :
    ∃ (zs : List (α × β)) (ρ' : Env), evE cl c ρ = .ok (.lst (zs.map fun z => r z.2)) ρ' ∧ I ρ' ∧ (zs.map (·.1)).Sublist xs ∧ ∀ z ∈ zs, R z.1 z.2 := by
  have main : ∀ (xs : List α) (acc : List D) (ρ : Env), (∀ x ∈ xs, ∀ ρ, I ρ → ∃ (o : Option β) (ρ' : Env), cmpF cl c (e x) ρ = .ok (o.map r) ρ' ∧ I ρ' ∧ ∀ y, o = some y → R x y) → I ρ → acc.length + xs.length ≤ mostLen →
      ∃ (zs : List (α × β)) (ρ' : Env), lcGo (cmpF cl c) (xs.map e) acc ρ = .ok (acc ++ zs.map fun z => r z.2) ρ' ∧ I ρ' ∧ (zs.map (·.1)).Sublist xs ∧ ∀ z ∈ zs, R z.1 z.2 := by
    intro xs
    induction xs with
    | nil => intro acc ρ _ hI _; exact ⟨[], ρ, by simp [lcGo], hI, .slnil, fun z hz => by cases hz⟩
    | cons x xs ih =>
      intro acc ρ h hI hl
      simp only [List.length_cons] at hl
      obtain ⟨o, ρ', e1, hI', hR⟩ := h x (by simp) ρ hI
      cases o with
      | none =>
        obtain ⟨zs, ρ2, e2, h2, h3, h4⟩ := ih acc ρ' (fun y hy => h y (List.mem_cons_of_mem _ hy)) hI' (by omega)
        refine ⟨zs, ρ2, ?_, h2, .cons _ h3, h4⟩
        rw [List.map_cons, lcGo, e1, bd_ok]
        exact e2
      | some y =>
        obtain ⟨zs, ρ2, e2, h2, h3, h4⟩ := ih (acc ++ [r y]) ρ' (fun y hy => h y (List.mem_cons_of_mem _ hy)) hI' (by rw [List.length_append]; simp; omega)
        refine ⟨(x, y) :: zs, ρ2, ?_, h2, .cons₂ _ h3, fun z hz => ?_⟩
        · rw [List.map_cons, lcGo, e1, bd_ok]
          show (if acc.length < mostLen then lcGo (cmpF cl c) (xs.map e) (acc ++ [r y]) ρ' else .bad) = _
          rw [if_pos (by omega), e2]
          simp
        · rcases List.mem_cons.mp hz with rfl | hz
          · exact hR y rfl
          · exact h4 z hz
  obtain ⟨zs, ρ2, e2, h2, h3, h4⟩ := main xs [] ρ1 h hI (by simpa using hl)
  exact ⟨zs, ρ2, lc2 hc h1 (by rw [e2, List.nil_append]), h2, h3, h4⟩
/-! picking -/
theorem pick_t {N : Nat} (hN : 2 ≤ N) (ds : List Int) {a : Int} (ha : 0 ≤ a) {α : Type} {f : α → D} {rows : List α} (hr : rows ≠ []) : ∃ r, r ∈ rows ∧ callD P N k_law_pick [.dct (wD ds a), .fz (.tup (rows.map f))] = .ok (.fz (f r)) [some (.dct (wD ds (a+1))), some (.fz (.tup (rows.map f)))] := by
  obtain ⟨n, rfl⟩ : ∃ n, N = n + 1 := ⟨N - 1, by omega⟩
  have hl : 0 < ((rows.map f).length : Int) := by
    cases rows with
    | nil => exact absurd rfl hr
    | cons _ _ => simp
  obtain ⟨i, h0, h1, e⟩ := next_ok (N := n) (by omega) ds ha hl
  have h2 : i.toNat < (rows.map f).length := by omega
  have h3 : i.toNat < rows.length := by rw [List.length_map] at h2; exact h2
  refine ⟨rows[i.toNat], List.getElem_mem _, ?_⟩
  have h4 : (rows.map f)[i.toNat] = f rows[i.toNat] := List.getElem_map _
  rw [call_eq (d := d_law_pick) rfl rfl]
  generalize f rows[i.toNat] = Y at *
  generalize rows.map f = F at *
  simp_all! [b_law_pick, e, h0, h1, h2, h4]
  rfl
theorem pick_l {N : Nat} (hN : 2 ≤ N) (ds : List Int) {a : Int} (ha : 0 ≤ a) {α : Type} {f : α → D} {rows : List α} (hr : rows ≠ []) : ∃ r, r ∈ rows ∧ callD P N k_law_pick [.dct (wD ds a), .fz (.lst (rows.map f))] = .ok (.fz (f r)) [some (.dct (wD ds (a+1))), some (.fz (.lst (rows.map f)))] := by
  obtain ⟨n, rfl⟩ : ∃ n, N = n + 1 := ⟨N - 1, by omega⟩
  have hl : 0 < ((rows.map f).length : Int) := by
    cases rows with
    | nil => exact absurd rfl hr
    | cons _ _ => simp
  obtain ⟨i, h0, h1, e⟩ := next_ok (N := n) (by omega) ds ha hl
  have h2 : i.toNat < (rows.map f).length := by omega
  have h3 : i.toNat < rows.length := by rw [List.length_map] at h2; exact h2
  refine ⟨rows[i.toNat], List.getElem_mem _, ?_⟩
  have h4 : (rows.map f)[i.toNat] = f rows[i.toNat] := List.getElem_map _
  rw [call_eq (d := d_law_pick) rfl rfl]
  generalize f rows[i.toNat] = Y at *
  generalize rows.map f = F at *
  simp_all! [b_law_pick, e, h0, h1, h2, h4]
  rfl
/-! chains drawn -/
def Stp.nm : Stp → Tx
  | .end_ _ => s_end
  | .front _ => s_front
  | .cut _ => s_cut
  | .dbl _ => s_double
  | .swap _ _ => s_swap
  | .near w _ _ _ => w
theorem stp_idx (s : Stp) : idx2 (.tup s.l) (.int 0) = some (.str s.nm) := by cases s <;> rfl
theorem isIn_strl (x : Tx) (m : List Tx) : isIn (.str x) (.lst (m.map .str)) = some (decide (x ∈ m)) := by
  have := isIn_strs x m
  rw [isIn_t] at this
  rw [isIn_l]; exact this
theorem chn_names {cl : CL} {ch : List Stp} (hl : ch.length ≤ 100) {x0 x1 x3 x4 : Option OV} : evE cl c_law_chain_1 [x0, x1, some (.lst (chD ch)), x3, x4, none] = .ok (.lst ((ch.map Stp.nm).map .str)) [x0, x1, some (.lst (chD ch)), x3, x4, none] := by
  rw [List.map_map]
  rw [c_law_chain_1]
  refine lcx_map (xs := ch) (e := fun s => D.tup s.l) rfl rfl (by simp only [mostLen]; omega) fun s hs => ?_
  have h := stp_idx s
  show _ = Res.ok (some (D.str s.nm)) _
  generalize D.tup s.l = S at *
  dsimp! [h]
abbrev chT : E := .or (.cmp .ne (.idx (.var 4) (.cst (.int 0))) (.cst (.str s_double))) (.cmp .notin (.cst (.str s_double)) c_law_chain_1)
theorem chn_test {cl : CL} {ch : List Stp} (hl : ch.length ≤ 100) {s : Stp} {x0 x1 x3 : Option OV} : ∃ b, evT cl chT [x0, x1, some (.lst (chD ch)), x3, some (.fz (.tup s.l)), none] = .ok b [x0, x1, some (.lst (chD ch)), x3, some (.fz (.tup s.l)), none] := by
  have h1 := chn_names (cl := cl) hl (x0 := x0) (x1 := x1) (x3 := x3) (x4 := some (.fz (.tup s.l)))
  have h2 := stp_idx s
  have h3 := isIn_strl s_double (ch.map Stp.nm)
  generalize chD ch = Z at *
  generalize D.tup s.l = S at *
  generalize hG : D.lst ((ch.map Stp.nm).map .str) = G at *
  by_cases h : s.nm = s_double
  · refine ⟨!decide (s_double ∈ ch.map Stp.nm), ?_⟩
    generalize decide (s_double ∈ ch.map Stp.nm) = B at *
    rw [h] at h2
    have e1 : evT cl (.cmp .ne (.idx (.var 4) (.cst (.int 0))) (.cst (.str s_double))) [x0, x1, some (.lst Z), x3, some (.fz S), none] = .ok false [x0, x1, some (.lst Z), x3, some (.fz S), none] := by
      dsimp! [h2]
    rw [t_orf e1, evT]
    show ((opd c_law_chain_1 (evE cl c_law_chain_1 [x0, x1, some (.lst Z), x3, some (.fz S), none]) [x0, x1, some (.lst Z), x3, some (.fz S), none]).bd fun y ρ => Res.of ((some (D.str s_double)).bind fun x => (Opd.view ρ y).bind fun y => cmp2 Cp.notin x y) ρ) = _
    rw [h1]
    show Res.of ((some (D.lst ((ch.map Stp.nm).map .str))).bind fun y => cmp2 .notin (.str s_double) y) _ = _
    rw [hG, Option.bind_some, c_nin, h3]; rfl
  · refine ⟨true, ?_⟩
    have e1 : evT cl (.cmp .ne (.idx (.var 4) (.cst (.int 0))) (.cst (.str s_double))) [x0, x1, some (.lst Z), x3, some (.fz S), none] = .ok true [x0, x1, some (.lst Z), x3, some (.fz S), none] := by
      dsimp! [h2, h]
    rw [t_ort e1]
theorem chain_draw {N : Nat} (hN : 5 ≤ N) (ds : List Int) {a : Int} (ha : 0 ≤ a) : ∃ (ch : List Stp) (a' : Int), 0 ≤ a' ∧ (∀ s ∈ ch, s.Good) ∧ ch.length ≤ 2 ∧ callD P N k_law_chain [.dct (wD ds a), .fz (.int 2)] = .ok (.fz (.tup (chD ch))) [some (.dct (wD ds a')), some (.fz (.int 2))] := by
  obtain ⟨M, rfl⟩ : ∃ M, N = M + 1 := ⟨N - 1, by omega⟩
  obtain ⟨i, i0, i1, en⟩ := next_ok (N := M) (by omega) ds ha (m := 3) (by omega)
  obtain ⟨n, rfl⟩ : ∃ k : Nat, i = k := ⟨i.toNat, by omega⟩
  obtain ⟨ρ, e, a', ch, x3, x4, h0, hg, hl, rfl⟩ := for_inv (cl := callD P M) (s := l_law_chain_2) (ρ := [some (.dct (wD ds a)), some (.fz (.int 2)), some (.lst []), none, none, none]) (ρ1 := [some (.dct (wD ds (a+1))), some (.fz (.int 2)), some (.lst []), none, none, none]) (xs := List.range n) (e := fun (k : Nat) => D.int (k : Int))
    (I := fun pre ρ => ∃ a' ch x3 x4, 0 ≤ a' ∧ (∀ s ∈ ch, s.Good) ∧ ch.length ≤ pre.length ∧ ρ = [some (.dct (wD ds a')), some (.fz (.int 2)), some (.lst (chD ch)), x3, x4, none])
    rfl (by
      rw [← rngOf_map, l_law_chain_2, forI_eq]
      generalize wD ds a = W at *
      generalize wD ds (a+1) = W1 at *
      have : evE (callD P M) (.df k_law_next (.bor 0 (.val (.bin .add (.var 1) (.cst (.int 1))) .nil))) [some (.dct W), some (.fz (.int 2)), some (.lst []), none, none, none] = .ok (.fz (.int n)) [some (.dct W1), some (.fz (.int 2)), some (.lst []), none, none, none] := by
        dsimp! [en]
      rw [evIt]
      show ((evE _ _ _).bd fun o ρ => Res.ok (Opd.tmp o) ρ).bd _ = _
      rw [this, bd_ok, bd_ok]
      exact it_rng (okr (by omega))) ⟨a + 1, [], none, none, by omega, fun s hs => absurd hs List.not_mem_nil, Nat.le_refl _, rfl⟩ (fun pre k post ρ hp hI => by
      obtain ⟨a', ch, x3, x4, h0, hg, hl, rfl⟩ := hI
      have hn : pre.length ≤ 2 := by have := congrArg List.length hp; rw [List.length_range, List.length_append, List.length_cons] at this; omega
      obtain ⟨s, a2, h2, hs, es⟩ := step_ok (N := M) (by omega) ds h0
      have s1 : evS (callD P M) (.set (.nm 4) (.frz (.df k_law_step (.bor 0 .nil)))) [some (.dct (wD ds a')), some (.fz (.int 2)), some (.lst (chD ch)), some (.fz (.int k)), x4, none] = .ok .nx [some (.dct (wD ds a2)), some (.fz (.int 2)), some (.lst (chD ch)), some (.fz (.int k)), some (.fz (.tup s.l)), none] := by
        generalize wD ds a' = W at *
        generalize wD ds a2 = W1 at *
        generalize chD ch = Z at *
        generalize D.tup s.l = S at *
        dsimp! [es] <;> rfl
      obtain ⟨b, s2⟩ := chn_test (cl := callD P M) (ch := ch) (by omega) (s := s) (x0 := some (.dct (wD ds a2))) (x1 := some (.fz (.int 2))) (x3 := some (.fz (.int k)))
      have hA : (chD ch).length < 16777216 := by rw [chD_len]; omega
      have hB : chD (ch ++ [s]) = chD ch ++ [.tup s.l] := chD_app _ _
      cases b with
      | false =>
        refine ⟨_, ?_, a2, ch, some (.fz (.int k)), some (.fz (.tup s.l)), h2, hg, by rw [List.length_append]; omega, rfl⟩
        show evSs _ (.cons (.set (.nm 4) (.frz (.df k_law_step (.bor 0 .nil)))) (.cons (.ifs chT _ _) .nil)) [some (.dct (wD ds a')), some (.fz (.int 2)), some (.lst (chD ch)), some (.fz (.int k)), x4, none] = _
        rw [ss_nx s1, ss_nx (by rw [s_iff s2, ss_end]), ss_end]
      | true =>
        refine ⟨_, ?_, a2, ch ++ [s], some (.fz (.int k)), some (.fz (.tup s.l)), h2, fun x hx => (List.mem_append.mp hx).elim (hg x) (fun h => by rw [List.mem_singleton.mp h]; exact hs), by rw [List.length_append, List.length_append]; simp; omega, rfl⟩
        show evSs _ (.cons (.set (.nm 4) (.frz (.df k_law_step (.bor 0 .nil)))) (.cons (.ifs chT (.cons (.ex (.mu1 .append 2 (.var 4))) .nil) .nil) .nil)) [some (.dct (wD ds a')), some (.fz (.int 2)), some (.lst (chD ch)), some (.fz (.int k)), x4, none] = _
        have s3 : evS (callD P M) (.ex (.mu1 .append 2 (.var 4))) [some (.dct (wD ds a2)), some (.fz (.int 2)), some (.lst (chD ch)), some (.fz (.int k)), some (.fz (.tup s.l)), none] = .ok .nx [some (.dct (wD ds a2)), some (.fz (.int 2)), some (.lst (chD ch ++ [.tup s.l])), some (.fz (.int k)), some (.fz (.tup s.l)), none] := by
          generalize wD ds a2 = W1 at *
          generalize chD ch = Z at *
          generalize D.tup s.l = S at *
          dsimp! [hA]
        rw [ss_nx s1, ss_nx (by rw [s_ift s2, ss_nx s3, ss_end]), ss_end, hB])
  refine ⟨ch, a', h0, hg, by rw [List.length_range] at hl; omega, ?_⟩
  rw [call_eq (d := d_law_chain) rfl rfl]
  generalize wD ds a = W at *
  generalize wD ds a' = W1 at *
  generalize chD ch = Z at *
  clear en
  simp_all! [b_law_chain, e] <;> first | rfl | decide
end K16
end
section
set_option linter.all false
set_option autoImplicit false
set_option maxRecDepth 100000
set_option maxHeartbeats 2000000
open Ev
namespace K16
def kslots (kind : Tx) : List Tx := if kind = s_thing then [s_number, s_fixed, s_case] else if kind = s_quality then [s_number, s_fixed, s_case, s_kind] else [s_time, s_truth, s_mood, s_who, s_kind]
def Kind (k : Tx) : Prop := k = s_thing ∨ k = s_quality ∨ k = s_doing
theorem kind_slots_ok {N : Nat} (hN : 1 ≤ N) {k : Tx} (hk : Kind k) : callD P N k_law_kind_slots [.fz (.str k)] = .ok (.fz (.tup ((kslots k).map .str))) [some (.fz (.str k))] := by
  obtain ⟨M, rfl⟩ : ∃ M, N = M + 1 := ⟨N - 1, by omega⟩
  rcases hk with rfl | rfl | rfl <;> rfl
theorem kslots_ok {k : Tx} : (kslots k).length ≤ 5 ∧ ∀ x ∈ kslots k, x ∈ allSlots := by
  unfold kslots
  split
  · decide
  · split <;> decide
theorem some_slots_ok {N : Nat} (hN : 2 ≤ N) (ds : List Int) {a : Int} (ha : 0 ≤ a) {k : Tx} (hk : Kind k) : ∃ (l : List Tx) (a' : Int), 0 ≤ a' ∧ l.length ≤ 5 ∧ (∀ x ∈ l, x ∈ allSlots) ∧ callD P N k_law_some_slots [.dct (wD ds a), .fz (.str k)] = .ok (.fz (.tup (l.map .str))) [some (.dct (wD ds a')), some (.fz (.str k))] := by
  obtain ⟨M, rfl⟩ : ∃ M, N = M + 1 := ⟨N - 1, by omega⟩
  have e0 := kind_slots_ok (N := M) (by omega) hk
  have hks := kslots_ok (k := k)
  obtain ⟨zs, ρ, e, ⟨a', h0, rfl⟩, hsub, hz⟩ := lc_st (cl := callD P M) (c := c_law_some_slots_1) (ρ := [some (.dct (wD ds a)), some (.fz (.str k)), none]) (ρ1 := [some (.dct (wD ds a)), some (.fz (.str k)), none]) (xs := kslots k) (e := D.str) (r := D.str)
    (fun ρ => ∃ a', 0 ≤ a' ∧ ρ = [some (.dct (wD ds a')), some (.fz (.str k)), none]) (fun x y => x = y) rfl (by
      generalize wD ds a = W at *
      generalize (kslots k).map D.str = Z at *
      rw [c_law_some_slots_1, lcI_eq]
      dsimp! [e0] <;> rfl) ⟨a, ha, rfl⟩ (by have := hks.1; simp only [mostLen]; omega) (fun x hx ρ hI => by
      obtain ⟨a', h0, rfl⟩ := hI
      obtain ⟨i, i0, i1, en⟩ := next_ok (N := M) (by omega) ds h0 (m := 5) (by omega)
      generalize wD ds a' = W at *
      by_cases h : i < 2
      · exact ⟨some x, [some (.dct (wD ds (a'+1))), some (.fz (.str k)), none], by dsimp! [cmpF, c_law_some_slots_1, en, h], ⟨a' + 1, by omega, rfl⟩, fun y hy => by cases hy; rfl⟩
      · exact ⟨none, [some (.dct (wD ds (a'+1))), some (.fz (.str k)), none], by dsimp! [cmpF, c_law_some_slots_1, en, h], ⟨a' + 1, by omega, rfl⟩, fun y hy => by cases hy⟩)
  have hmap : (zs.map fun z => D.str z.2) = (zs.map (·.1)).map D.str := by
    rw [List.map_map]
    exact List.map_congr_left fun z hzz => by show D.str z.2 = D.str z.1; rw [hz z hzz]
  rw [hmap] at e
  refine ⟨zs.map (·.1), a', h0, Nat.le_trans hsub.length_le hks.1, fun x hx => hks.2 x (hsub.subset hx), ?_⟩
  rw [call_eq (d := d_law_some_slots) rfl rfl]
  generalize wD ds a = W at *
  generalize wD ds a' = W1 at *
  generalize (zs.map (·.1)).map D.str = Z at *
  simp_all! [b_law_some_slots, e] <;> first | rfl | decide
def kinds : List (Tx × Tx) := [(s_d, s_doing), (s_m, s_thing), (s_n, s_thing), (s_q, s_quality)]
abbrev SE (w : OV) (x1 x2 x3 x4 x5 x6 x7 x8 x9 x10 x11 : Option OV) : Env := [some w, x1, x2, x3, x4, x5, x6, x7, x8, x9, x10, x11]
theorem classes_draw {N : Nat} (hN : 3 ≤ N) (ds : List Int) {a : Int} (ha : 0 ≤ a) : ∃ (cs : List Cls) (a' : Int), 0 ≤ a' ∧ (cs.map Cls.name).Sublist (kinds.map (·.1)) ∧ (∀ c ∈ cs, c.slots.length ≤ 5 ∧ ∀ x ∈ c.slots, x ∈ allSlots) ∧
    evE (callD P N) c_law_stock_5 (SE (.dct (wD ds a)) none none none none none none none none none none none) = .ok (.lst (cs.map Cls.d)) (SE (.dct (wD ds a')) none none none none none none none none none none none) := by
  obtain ⟨zs, ρ, e, ⟨a', h0, rfl⟩, hsub, hz⟩ := lc_st (cl := callD P N) (c := c_law_stock_5) (ρ := SE (.dct (wD ds a)) none none none none none none none none none none none) (ρ1 := SE (.dct (wD ds a)) none none none none none none none none none none none) (xs := kinds) (e := prD) (r := Cls.d)
    (fun ρ => ∃ a', 0 ≤ a' ∧ ρ = SE (.dct (wD ds a')) none none none none none none none none none none none) (fun x y => y.name = x.1 ∧ y.slots.length ≤ 5 ∧ ∀ z ∈ y.slots, z ∈ allSlots) rfl (by
      generalize wD ds a = W at *
      rfl) ⟨a, ha, rfl⟩ (by decide) (fun x hx ρ hI => by
      obtain ⟨a', h0, rfl⟩ := hI
      have hk : Kind x.2 := by
        simp only [kinds, List.mem_cons, List.not_mem_nil, or_false] at hx
        rcases hx with rfl | rfl | rfl | rfl
        · exact .inr (.inr rfl)
        · exact .inl rfl
        · exact .inl rfl
        · exact .inr (.inl rfl)
      obtain ⟨i, i0, i1, en⟩ := next_ok (N := N) (by omega) ds h0 (m := 8) (by omega)
      obtain ⟨l, a2, h2, l5, ls, es⟩ := some_slots_ok (N := N) (by omega) ds (show 0 ≤ a' + 1 by omega) hk
      obtain ⟨n, k⟩ := x
      rw [prD]
      simp only at *
      generalize wD ds a' = W at *
      by_cases h : 0 < i
      · refine ⟨some ⟨n, k, l⟩, SE (.dct (wD ds a2)) none none none none none none none none none none none, ?_, ⟨a2, h2, rfl⟩, fun y hy => by cases hy; exact ⟨rfl, l5, ls⟩⟩
        show _ = Res.ok (some (D.tup [.str n, .str k, .tup (l.map .str)])) _
        generalize wD ds a2 = W2 at *
        generalize l.map D.str = L at *
        dsimp! [cmpF, c_law_stock_5, en, h, es] <;> rfl
      · refine ⟨none, SE (.dct (wD ds (a' + 1))) none none none none none none none none none none none, ?_, ⟨a' + 1, by omega, rfl⟩, fun y hy => by cases hy⟩
        show _ = Res.ok none _
        dsimp! [cmpF, c_law_stock_5, en, h] <;> rfl)
  refine ⟨zs.map (·.2), a', h0, ?_, ?_, ?_⟩
  · have : (zs.map (·.2)).map Cls.name = (zs.map (·.1)).map (·.1) := by
      rw [List.map_map, List.map_map]
      exact List.map_congr_left fun z hzz => (hz z hzz).1
    rw [this]
    exact hsub.map _
  · intro c hc
    obtain ⟨z, hzz, rfl⟩ := List.mem_map.mp hc
    exact (hz z hzz).2
  · rw [List.map_map]; exact e
end K16
end
section
set_option linter.all false
set_option autoImplicit false
set_option maxRecDepth 100000
set_option maxHeartbeats 2000000
open Ev
namespace K16
theorem conds_draw {N : Nat} (hN : 3 ≤ N) (ds : List Int) {a : Int} (ha : 0 ≤ a) {cs : List Cls} {c : Cls} (hl : cs.length ≤ 4) (hc : c.slots.length ≤ 5 ∧ ∀ x ∈ c.slots, x ∈ allSlots) {x2 x3 x4 x5 x7 x9 x10 x11 : Option OV} :
    ∃ (m : Mk) (a' : Int), 0 ≤ a' ∧ m.length ≤ 5 ∧ evE (callD P N) c_law_stock_3 (SE (.dct (wD ds a)) (some (.fz (.tup (cs.map Cls.d)))) x2 x3 x4 x5 (some (.fz c.d)) x7 none x9 x10 x11) = .ok (.lst (m.map prD)) (SE (.dct (wD ds a')) (some (.fz (.tup (cs.map Cls.d)))) x2 x3 x4 x5 (some (.fz c.d)) x7 none x9 x10 x11) := by
  obtain ⟨zs, ρ, e, ⟨a', h0, rfl⟩, hsub, hz⟩ := lc_st (cl := callD P N) (c := c_law_stock_3) (ρ := SE (.dct (wD ds a)) (some (.fz (.tup (cs.map Cls.d)))) x2 x3 x4 x5 (some (.fz c.d)) x7 none x9 x10 x11) (ρ1 := SE (.dct (wD ds a)) (some (.fz (.tup (cs.map Cls.d)))) x2 x3 x4 x5 (some (.fz c.d)) x7 none x9 x10 x11) (xs := c.slots) (e := D.str) (r := prD)
    (fun ρ => ∃ a', 0 ≤ a' ∧ ρ = SE (.dct (wD ds a')) (some (.fz (.tup (cs.map Cls.d)))) x2 x3 x4 x5 (some (.fz c.d)) x7 none x9 x10 x11) (fun x y => True) rfl (by
      generalize wD ds a = W at *
      generalize cs.map Cls.d = C
      rw [c_law_stock_3, lcI_eq, Cls.d]
      generalize c.slots.map D.str = Z
      dsimp! []) ⟨a, ha, rfl⟩ (by have := hc.1; simp only [mostLen]; omega) (fun x hx ρ hI => by
      obtain ⟨a', h0, rfl⟩ := hI
      obtain ⟨i, i0, i1, en⟩ := next_ok (N := N) (by omega) ds h0 (m := 2) (by omega)
      have ev := slot_values_ok (N := N) (by omega) (cs := cs) (hc.2 x hx) (by omega)
      by_cases hV : vals cs x = []
      · refine ⟨none, SE (.dct (wD ds (a' + 1))) (some (.fz (.tup (cs.map Cls.d)))) x2 x3 x4 x5 (some (.fz c.d)) x7 none x9 x10 x11, ?_, ⟨a' + 1, by omega, rfl⟩, fun y hy => trivial⟩
        rw [hV] at ev
        show _ = Res.ok none _
        generalize wD ds a' = W at *
        generalize cs.map Cls.d = C at *
        generalize c.d = Cd at *
        by_cases h : i = 0 <;> dsimp! [cmpF, c_law_stock_3, en, h, ev] <;> rfl
      · obtain ⟨v, hv, ep⟩ := pick_t (N := N) (by omega) ds (show 0 ≤ a' + 1 by omega) (f := D.str) hV
        have hf : D.flats 29 ((vals cs x).map D.str) = true := flats_strs
        have he := eqs_strs (vals cs x) []
        rw [decide_eq_false hV] at he
        by_cases h : i = 0
        · refine ⟨some (x, v), SE (.dct (wD ds (a' + 1 + 1))) (some (.fz (.tup (cs.map Cls.d)))) x2 x3 x4 x5 (some (.fz c.d)) x7 none x9 x10 x11, ?_, ⟨a' + 1 + 1, by omega, rfl⟩, fun y hy => trivial⟩
          show _ = Res.ok (some (D.tup [.str x, .str v])) _
          generalize wD ds a' = W at *
          generalize wD ds (a' + 1 + 1) = W2 at *
          generalize wD ds (a' + 1) = W1 at *
          generalize (vals cs x).map D.str = V at *
          generalize cs.map Cls.d = C at *
          generalize c.d = Cd at *
          rw [List.map_nil] at he
          dsimp! [cmpF, c_law_stock_3, en, h, ev, hf, he, ep] <;> rfl
        · refine ⟨none, SE (.dct (wD ds (a' + 1))) (some (.fz (.tup (cs.map Cls.d)))) x2 x3 x4 x5 (some (.fz c.d)) x7 none x9 x10 x11, ?_, ⟨a' + 1, by omega, rfl⟩, fun y hy => trivial⟩
          show _ = Res.ok none _
          generalize wD ds a' = W at *
          generalize wD ds (a' + 1) = W1 at *
          generalize cs.map Cls.d = C at *
          generalize c.d = Cd at *
          dsimp! [cmpF, c_law_stock_3, en, h] <;> rfl)
  refine ⟨zs.map (·.2), a', h0, ?_, ?_⟩
  · have := hsub.length_le
    rw [List.length_map] at this ⊢
    have := hc.1
    omega
  · rw [List.map_map]; exact e
theorem rule_turn {N : Nat} (hN : 5 ≤ N) (ds : List Int) {a : Int} (ha : 0 ≤ a) {cs : List Cls} (hl : cs.length ≤ 4) (hcs : ∀ c ∈ cs, c.slots.length ≤ 5 ∧ ∀ x ∈ c.slots, x ∈ allSlots) (hne : cs ≠ []) {rs : List Rul} (hr : rs.length ≤ 100) (k : D) {x5 x6 x7 : Option OV} :
    ∃ (r : Rul) (a' : Int) (y6 y7 : Option OV), 0 ≤ a' ∧ Fz y6 ∧ RulOk r ∧ lpF (callD P N) l_law_stock_4 k (SE (.dct (wD ds a)) (some (.fz (.tup (cs.map Cls.d)))) none none (some (.lst (rs.map Rul.d))) x5 x6 x7 none none none none) = .ok .nx (SE (.dct (wD ds a')) (some (.fz (.tup (cs.map Cls.d)))) none none (some (.lst ((rs ++ [r]).map Rul.d))) (some (.fz k)) y6 y7 none none none none) := by
  obtain ⟨c, hc, e1⟩ := pick_t (N := N) (by omega) ds ha (f := Cls.d) hne
  obtain ⟨m, a2, h2, hm, e2⟩ := conds_draw (N := N) (by omega) ds (show 0 ≤ a + 1 by omega) hl (hcs c hc) (x2 := none) (x3 := none) (x4 := some (.lst (rs.map Rul.d))) (x5 := some (.fz k)) (x7 := x7) (x9 := none) (x10 := none) (x11 := none)
  obtain ⟨ch, a3, h3, hg, hch, e3⟩ := chain_draw (N := N) (by omega) ds h2
  refine ⟨⟨c.name, m, ch⟩, a3, some (.fz c.d), some (.fz (.lst (m.map prD))), h3, .d, ⟨by show m.length ≤ 100; omega, hch, hg⟩, ?_⟩
  rw [List.map_append, show ([⟨c.name, m, ch⟩] : List Rul).map Rul.d = [D.tup [.str c.name, .tup (m.map prD), .tup (chD ch)]] from rfl]
  have hA : (rs.map Rul.d).length < 16777216 := by rw [List.length_map]; omega
  have hcd : idx2 c.d (.int 0) = some (.str c.name) := rfl
  generalize wD ds a = W at *
  generalize wD ds (a + 1) = W1 at *
  generalize wD ds a2 = W2 at *
  generalize wD ds a3 = W3 at *
  generalize cs.map Cls.d = C at *
  generalize rs.map Rul.d = R at *
  generalize c.d = Cd at *
  generalize m.map prD = Mm at *
  generalize chD ch = Ch at *
  have s1 : evS (callD P N) (.set (.nm 6) (.frz (.df k_law_pick (.bor 0 (.val (.var 1) .nil))))) (SE (.dct W) (some (.fz (.tup C))) none none (some (.lst R)) (some (.fz k)) x6 x7 none none none none) = .ok .nx (SE (.dct W1) (some (.fz (.tup C))) none none (some (.lst R)) (some (.fz k)) (some (.fz Cd)) x7 none none none none) := by
    dsimp! [e1] <;> rfl
  have s2 : evS (callD P N) (.set (.nm 7) (.frz c_law_stock_3)) (SE (.dct W1) (some (.fz (.tup C))) none none (some (.lst R)) (some (.fz k)) (some (.fz Cd)) x7 none none none none) = .ok .nx (SE (.dct W2) (some (.fz (.tup C))) none none (some (.lst R)) (some (.fz k)) (some (.fz Cd)) (some (.fz (.lst Mm))) none none none none) := by
    rw [evS, evE, e2]; rfl
  show evSs (callD P N) (.cons _ (.cons _ (.cons _ .nil))) (SE (.dct W) (some (.fz (.tup C))) none none (some (.lst R)) (some (.fz k)) x6 x7 none none none none) = _
  rw [ss_nx s1, ss_nx s2]
  clear s1 s2 e1 e2
  dsimp! [e3, hcd, hA] <;> rfl
end K16
end
section
set_option linter.all false
set_option autoImplicit false
set_option maxRecDepth 100000
set_option maxHeartbeats 2000000
open Ev
namespace K16
theorem it_r1' {cl : CL} {a : E} {n : Nat} {r r' : Env} (h : evE cl a r = .ok (.fz (.int n)) r') (hn : n ≤ 100000000) (ho : ∀ q ρ, opd a q ρ = q.bd fun o ρ => .ok (.tmp o) ρ := by intro _ _; rfl) : evIt cl (.rng1 a) r = .ok (rngOf 0 n) r' := by
  rw [evIt, ho, h, bd_ok, bd_ok]
  exact it_rng (okr hn)
theorem eqs_cls0 (cs : List Cls) : D.eqs (cs.map Cls.d) [] = decide (cs = []) := by cases cs <;> rfl
abbrev rngR : E := .ite (.cmp .ne (.var 1) (.tup .nil)) (.df k_law_next (.bor 0 (.val (.cst (.int 8)) .nil))) (.cst (.int 0))
theorem rules_draw {N : Nat} (hN : 5 ≤ N) (ds : List Int) {a : Int} (ha : 0 ≤ a) {cs : List Cls} (hl : cs.length ≤ 4) (hcs : ∀ c ∈ cs, c.slots.length ≤ 5 ∧ ∀ x ∈ c.slots, x ∈ allSlots) :
    ∃ (rs : List Rul) (a' : Int) (y5 y6 y7 : Option OV), 0 ≤ a' ∧ rs.length ≤ 8 ∧ (∀ r ∈ rs, RulOk r) ∧ Fz y6 ∧ evS (callD P N) l_law_stock_4 (SE (.dct (wD ds a)) (some (.fz (.tup (cs.map Cls.d)))) none none (some (.lst [])) none none none none none none none) = .ok .nx (SE (.dct (wD ds a')) (some (.fz (.tup (cs.map Cls.d)))) none none (some (.lst (rs.map Rul.d))) y5 y6 y7 none none none none) := by
  have hf := flats_map (n := 29) (fun c => cls_flat c 27) cs
  have he := eqs_cls0 cs
  obtain ⟨i, i0, i1, en⟩ := next_ok (N := N) (by omega) ds ha (m := 8) (by omega)
  obtain ⟨n, rfl⟩ : ∃ k : Nat, i = k := ⟨i.toNat, by omega⟩
  by_cases hne : cs = []
  · subst hne
    refine ⟨[], a, none, none, none, ha, by decide, (fun r hr => absurd hr List.not_mem_nil), .n, ?_⟩
    generalize wD ds a = W at *
    refine for2 (ds := []) (ρ1 := (SE (.dct W) (some (.fz (.tup []))) none none (some (.lst [])) none none none none none none none)) rfl ?_ rfl
    rw [l_law_stock_4, forI_eq]
    dsimp! [] <;> rfl
  · rw [decide_eq_false hne] at he
    have hR : evE (callD P N) rngR (SE (.dct (wD ds a)) (some (.fz (.tup (cs.map Cls.d)))) none none (some (.lst [])) none none none none none none none) = .ok (.fz (.int n)) (SE (.dct (wD ds (a + 1))) (some (.fz (.tup (cs.map Cls.d)))) none none (some (.lst [])) none none none none none none none) := by
      generalize wD ds a = W at *
      generalize wD ds (a + 1) = W1 at *
      generalize cs.map Cls.d = C at *
      dsimp! [hf, he, en] <;> rfl
    obtain ⟨ρ, e, a', rs, y5, y6, y7, h0, hr, hl2, hz6, rfl⟩ := for_inv (cl := callD P N) (s := l_law_stock_4) (ρ := (SE (.dct (wD ds a)) (some (.fz (.tup (cs.map Cls.d)))) none none (some (.lst [])) none none none none none none none)) (ρ1 := (SE (.dct (wD ds (a + 1))) (some (.fz (.tup (cs.map Cls.d)))) none none (some (.lst [])) none none none none none none none)) (xs := List.range n) (e := fun (k : Nat) => D.int (k : Int))
      (I := fun pre ρ => ∃ a' rs y5 y6 y7, 0 ≤ a' ∧ (∀ r ∈ rs, RulOk r) ∧ rs.length ≤ pre.length ∧ Fz y6 ∧ ρ = SE (.dct (wD ds a')) (some (.fz (.tup (cs.map Cls.d)))) none none (some (.lst (rs.map Rul.d))) y5 y6 y7 none none none none)
      rfl (by
        rw [← rngOf_map, l_law_stock_4, forI_eq]
        exact it_r1' hR (by omega)) ⟨a + 1, [], none, none, none, by omega, (fun r hr => absurd hr List.not_mem_nil), Nat.le_refl _, .n, rfl⟩ (fun pre k post ρ hp hI => by
        obtain ⟨a', rs, y5, y6, y7, h0, hr, hl2, hz6, rfl⟩ := hI
        have hn : pre.length ≤ 8 := by have := congrArg List.length hp; rw [List.length_range, List.length_append, List.length_cons] at this; omega
        obtain ⟨r, a2, z6, z7, h2, hz6', hro, e⟩ := rule_turn hN ds h0 hl hcs hne (rs := rs) (by omega) (.int k) (x5 := y5) (x6 := y6) (x7 := y7)
        exact ⟨_, e, a2, rs ++ [r], _, z6, z7, h2, (fun x hx => (List.mem_append.mp hx).elim (hr x) (fun h => by rw [List.mem_singleton.mp h]; exact hro)), by rw [List.length_append, List.length_append]; simp; omega, hz6', rfl⟩)
    exact ⟨rs, a', y5, y6, y7, h0, by rw [List.length_range] at hl2; omega, hr, hz6, e⟩
/-! words -/
def ableF (cs : List Cls) (key : Tx) : List Cls := cs.filter fun c => decide (c.kind = s_thing) || !decide (key ∈ [s_I, s_WHICH, s_YOU])
theorem able_ev {N : Nat} {cs : List Cls} {key : Tx} (hl : cs.length ≤ 4) {x0 x2 x3 x4 x5 x6 x7 x8 x9 x11 : Option OV} (h6 : Fz x6) :
    evE (callD P N) c_law_stock_1 [x0, some (.fz (.tup (cs.map Cls.d))), x2, x3, x4, x5, x6, x7, x8, x9, some (.fz (.str key)), x11] = .ok (.lst (((ableF cs key).map Cls.name).map .str)) [x0, some (.fz (.tup (cs.map Cls.d))), x2, x3, x4, x5, x6, x7, x8, x9, some (.fz (.str key)), x11] := by
  rw [List.map_map]
  refine lc_if (xs := cs) (e := Cls.d) rfl ?_ (by simp only [mostLen]; omega) fun c hc => ?_
  · generalize cs.map Cls.d = C; rfl
  · have e3 := isIn_strs key [s_I, s_WHICH, s_YOU]
    show _ = Res.ok (if (decide (c.kind = s_thing) || !decide (key ∈ [s_I, s_WHICH, s_YOU])) then some (D.str c.name) else none) _
    have e4 : cmp2 .notin (.str key) (.tup [.str s_I, .str s_WHICH, .str s_YOU]) = some (!decide (key ∈ [s_I, s_WHICH, s_YOU])) := by rw [c_nin]; rw [show (D.tup [.str s_I, .str s_WHICH, .str s_YOU]) = .tup ([s_I, s_WHICH, s_YOU].map .str) from rfl, e3]; rfl
    generalize decide (key ∈ [s_I, s_WHICH, s_YOU]) = B at *
    generalize cs.map Cls.d = C
    have t2 : evT (callD P N) (.cmp .notin (.var 10) (.tup (.cons (.cst (.str s_I)) (.cons (.cst (.str s_WHICH)) (.cons (.cst (.str s_YOU)) .nil))))) [x0, some (.fz (.tup C)), x2, x3, x4, x5, some (.fz c.d), x7, x8, x9, some (.fz (.str key)), x11] = .ok (!B) [x0, some (.fz (.tup C)), x2, x3, x4, x5, some (.fz c.d), x7, x8, x9, some (.fz (.str key)), x11] := by
      rw [evT]
      show Res.of (cmp2 .notin (.str key) (.tup [.str s_I, .str s_WHICH, .str s_YOU])) _ = _
      rw [e4]; rfl
    have hcd1 : idx2 c.d (.int 1) = some (.str c.kind) := rfl
    have hcd0 : idx2 c.d (.int 0) = some (.str c.name) := rfl
    generalize c.d = Cd at *
    by_cases h : c.kind = s_thing
    · rw [h] at hcd1
      rw [decide_eq_true h]
      clear t2
      rcases h6 with rfl | ⟨d, rfl⟩ <;> dsimp! [cmpF, c_law_stock_1, hcd1, hcd0]
    · rw [decide_eq_false h]
      have t1 : evT (callD P N) (.cmp .eq (.idx (.var 6) (.cst (.int 1))) (.cst (.str s_thing))) [x0, some (.fz (.tup C)), x2, x3, x4, x5, some (.fz Cd), x7, x8, x9, some (.fz (.str key)), x11] = .ok false [x0, some (.fz (.tup C)), x2, x3, x4, x5, some (.fz Cd), x7, x8, x9, some (.fz (.str key)), x11] := by
        dsimp! [hcd1, h]
      have t3 := (t_orf t1).trans t2
      have t4 : evTs (callD P N) (.cons (.or (.cmp .eq (.idx (.var 6) (.cst (.int 1))) (.cst (.str s_thing))) (.cmp .notin (.var 10) (.tup (.cons (.cst (.str s_I)) (.cons (.cst (.str s_WHICH)) (.cons (.cst (.str s_YOU)) .nil)))))) .nil) [x0, some (.fz (.tup C)), x2, x3, x4, x5, some (.fz Cd), x7, x8, x9, some (.fz (.str key)), x11] = .ok (!B) [x0, some (.fz (.tup C)), x2, x3, x4, x5, some (.fz Cd), x7, x8, x9, some (.fz (.str key)), x11] := by
        rw [evTs, t3]; cases B <;> rfl
      show ((evTs (callD P N) (.cons (.or (.cmp .eq (.idx (.var 6) (.cst (.int 1))) (.cst (.str s_thing))) (.cmp .notin (.var 10) (.tup (.cons (.cst (.str s_I)) (.cons (.cst (.str s_WHICH)) (.cons (.cst (.str s_YOU)) .nil)))))) .nil) [x0, some (.fz (.tup C)), x2, x3, x4, x5, some (.fz Cd), x7, x8, x9, some (.fz (.str key)), x11]).bd fun b ρ => if b then (evE (callD P N) (.idx (.var 6) (.cst (.int 0))) ρ).bd fun o ρ => Res.ok (some o.d) (unwipe [x0, some (.fz (.tup C)), x2, x3, x4, x5, x6, x7, x8, x9, some (.fz (.str key)), x11] ρ [6]) else Res.ok none (unwipe [x0, some (.fz (.tup C)), x2, x3, x4, x5, x6, x7, x8, x9, some (.fz (.str key)), x11] ρ [6])) = _
      rw [t4, bd_ok]
      clear t1 t2 t3 t4
      cases B <;> rcases h6 with rfl | ⟨d, rfl⟩ <;> dsimp! [hcd0]
end K16
end
section
set_option linter.all false
set_option autoImplicit false
set_option maxRecDepth 100000
set_option maxHeartbeats 2000000
open Ev
namespace K16
def keysL : List Tx := [s_I, s_WHICH, s_YOU, s_ana, s_big, s_dog, s_see, s_sleep, s_stone]
structure WdOk (cs : List Cls) (x : Wd) : Prop where
  cls : ∃ c ∈ cs, c.name = x.cls
  root : x.root.length ≤ 10
  let_ : ∀ k ∈ x.root, Let k
theorem word_turn {N : Nat} (hN : 4 ≤ N) (ds : List Int) {a : Int} (ha : 0 ≤ a) {cs : List Cls} (hl : cs.length ≤ 4) {ws : List Wd} (hw : ws.length ≤ 100) (key : Tx) {x4 x5 x6 x7 x10 x11 : Option OV} (h6 : Fz x6) :
    ∃ (o : Option Wd) (a' : Int) (y11 : Option OV), 0 ≤ a' ∧ (∀ x, o = some x → x.key = key ∧ WdOk cs x) ∧ lpF (callD P N) l_law_stock_2 (.str key) (SE (.dct (wD ds a)) (some (.fz (.tup (cs.map Cls.d)))) none none x4 x5 x6 x7 none (some (.lst (ws.map Wd.d))) x10 x11) = .ok .nx (SE (.dct (wD ds a')) (some (.fz (.tup (cs.map Cls.d)))) none none x4 x5 x6 x7 none (some (.lst ((ws ++ o.toList).map Wd.d))) (some (.fz (.str key))) y11) := by
  have e1 := able_ev (N := N) (cs := cs) (key := key) hl (x0 := some (.dct (wD ds a))) (x2 := none) (x3 := none) (x4 := x4) (x5 := x5) (x7 := x7) (x8 := none) (x9 := some (.lst (ws.map Wd.d))) (x11 := x11) h6
  have hf : D.flats 29 (((ableF cs key).map Cls.name).map D.str) = true := flats_strs
  have he := eqs_strs ((ableF cs key).map Cls.name) []
  have hA : (ws.map Wd.d).length < 16777216 := by rw [List.length_map]; omega
  obtain ⟨i, i0, i1, en⟩ := next_ok (N := N) (by omega) ds ha (m := 3) (by omega)
  have s1 : evS (callD P N) (.set (.nm 11) (.frz c_law_stock_1)) (SE (.dct (wD ds a)) (some (.fz (.tup (cs.map Cls.d)))) none none x4 x5 x6 x7 none (some (.lst (ws.map Wd.d))) (some (.fz (.str key))) x11) = .ok .nx (SE (.dct (wD ds a)) (some (.fz (.tup (cs.map Cls.d)))) none none x4 x5 x6 x7 none (some (.lst (ws.map Wd.d))) (some (.fz (.str key))) (some (.fz (.lst (((ableF cs key).map Cls.name).map D.str))))) := by
    rw [evS, evE, e1]; rfl
  clear e1
  by_cases hn : (ableF cs key).map Cls.name = []
  · refine ⟨none, a, some (.fz (.lst (((ableF cs key).map Cls.name).map D.str))), ha, (fun x hx => by cases hx), ?_⟩
    · show evSs (callD P N) (.cons _ (.cons _ .nil)) (SE (.dct (wD ds a)) (some (.fz (.tup (cs.map Cls.d)))) none none x4 x5 x6 x7 none (some (.lst (ws.map Wd.d))) (some (.fz (.str key))) x11) = _
      rw [ss_nx s1, hn, show ws ++ (none : Option Wd).toList = ws from List.append_nil _]
      generalize wD ds a = W at *
      generalize cs.map Cls.d = C at *
      generalize ws.map Wd.d = Z at *
      clear s1
      dsimp! [] <;> rfl
  · rw [decide_eq_false hn, List.map_nil] at he
    by_cases h : 0 < i
    · obtain ⟨j, j0, j1, en2⟩ := next_ok (N := N) (by omega) ds (show 0 ≤ a + 1 by omega) (m := 3) (by omega)
      obtain ⟨t, a2, h2, tl, tk, el⟩ := letters_ok (N := N) (by omega) ds (show 0 ≤ a + 1 + 1 by omega) (m := 1 + j) (by omega) (by omega)
      obtain ⟨r, hr, ep⟩ := pick_l (N := N) (by omega) ds h2 (f := D.str) hn
      refine ⟨some ⟨key, t, r⟩, a2 + 1, some (.fz (.lst (((ableF cs key).map Cls.name).map D.str))), by omega, fun x hx => ?_, ?_⟩
      · cases hx
        obtain ⟨c, hc, e⟩ := List.mem_map.mp hr
        exact ⟨rfl, ⟨c, (List.mem_filter.mp hc).1, e⟩, by show t.length ≤ 10; omega, fun k hk => ⟨(tk k hk).1, by have := (tk k hk).2; omega⟩⟩
      · show evSs (callD P N) (.cons _ (.cons _ .nil)) (SE (.dct (wD ds a)) (some (.fz (.tup (cs.map Cls.d)))) none none x4 x5 x6 x7 none (some (.lst (ws.map Wd.d))) (some (.fz (.str key))) x11) = _
        rw [ss_nx s1, List.map_append, show (some (⟨key, t, r⟩ : Wd)).toList.map Wd.d = [D.tup [.str key, .str t, .str r]] from rfl]
        generalize wD ds a = W at *
        generalize wD ds (a + 1) = W1 at *
        generalize wD ds (a + 1 + 1) = W2 at *
        generalize wD ds a2 = W3 at *
        generalize wD ds (a2 + 1) = W4 at *
        generalize cs.map Cls.d = C at *
        generalize ws.map Wd.d = Z at *
        generalize ((ableF cs key).map Cls.name).map D.str = A at *
        clear s1
        dsimp! [hf, he, en, h, en2, el, ep, hA] <;> rfl
    · refine ⟨none, a + 1, some (.fz (.lst (((ableF cs key).map Cls.name).map D.str))), by omega, (fun x hx => by cases hx), ?_⟩
      show evSs (callD P N) (.cons _ (.cons _ .nil)) (SE (.dct (wD ds a)) (some (.fz (.tup (cs.map Cls.d)))) none none x4 x5 x6 x7 none (some (.lst (ws.map Wd.d))) (some (.fz (.str key))) x11) = _
      rw [ss_nx s1, show ws ++ (none : Option Wd).toList = ws from List.append_nil _]
      generalize wD ds a = W at *
      generalize wD ds (a + 1) = W1 at *
      generalize cs.map Cls.d = C at *
      generalize ws.map Wd.d = Z at *
      generalize ((ableF cs key).map Cls.name).map D.str = A at *
      clear s1
      dsimp! [hf, he, en, h] <;> rfl
end K16
end
section
set_option linter.all false
set_option autoImplicit false
set_option maxRecDepth 100000
set_option maxHeartbeats 2000000
open Ev
namespace K16
theorem words_draw {N : Nat} (hN : 4 ≤ N) (ds : List Int) {a : Int} (ha : 0 ≤ a) {cs : List Cls} (hl : cs.length ≤ 4) {x4 x5 x6 x7 : Option OV} (h6 : Fz x6) :
    ∃ (ws : List Wd) (a' : Int) (y10 y11 : Option OV), 0 ≤ a' ∧ (ws.map Wd.key).Sublist keysL ∧ (∀ x ∈ ws, WdOk cs x) ∧ evS (callD P N) l_law_stock_2 (SE (.dct (wD ds a)) (some (.fz (.tup (cs.map Cls.d)))) none none x4 x5 x6 x7 none (some (.lst [])) none none) = .ok .nx (SE (.dct (wD ds a')) (some (.fz (.tup (cs.map Cls.d)))) none none x4 x5 x6 x7 none (some (.lst (ws.map Wd.d))) y10 y11) := by
  obtain ⟨ρ, e, ws, a', y10, y11, h0, hs, hw, rfl⟩ := for_inv (cl := callD P N) (s := l_law_stock_2) (ρ := (SE (.dct (wD ds a)) (some (.fz (.tup (cs.map Cls.d)))) none none x4 x5 x6 x7 none (some (.lst [])) none none)) (ρ1 := (SE (.dct (wD ds a)) (some (.fz (.tup (cs.map Cls.d)))) none none x4 x5 x6 x7 none (some (.lst [])) none none)) (xs := keysL) (e := D.str)
    (I := fun pre ρ => ∃ ws a' y10 y11, 0 ≤ a' ∧ (ws.map Wd.key).Sublist pre ∧ (∀ x ∈ ws, WdOk cs x) ∧ ρ = SE (.dct (wD ds a')) (some (.fz (.tup (cs.map Cls.d)))) none none x4 x5 x6 x7 none (some (.lst (ws.map Wd.d))) y10 y11)
    rfl rfl ⟨[], a, none, none, ha, .slnil, fun x hx => absurd hx List.not_mem_nil, rfl⟩ (fun pre key post ρ hp hI => by
      obtain ⟨ws, a', y10, y11, h0, hs, hw, rfl⟩ := hI
      have hn : pre.length ≤ 9 := by have := congrArg List.length hp; rw [show keysL.length = 9 from rfl, List.length_append] at this; omega
      have hl2 := hs.length_le
      rw [List.length_map] at hl2
      obtain ⟨o, a2, z11, h2, ho, e⟩ := word_turn hN ds h0 hl (ws := ws) (by omega) key (x4 := x4) (x5 := x5) (x7 := x7) (x10 := y10) (x11 := y11) h6
      refine ⟨_, e, ws ++ o.toList, a2, _, z11, h2, ?_, ?_, rfl⟩
      · rw [List.map_append]
        refine hs.append ?_
        cases o with
        | none => exact List.nil_sublist _
        | some x =>
          have := (ho x rfl).1
          show [x.key].Sublist [key]
          rw [this]; exact List.Sublist.refl _
      · intro x hx
        rcases List.mem_append.mp hx with hx | hx
        · exact hw x hx
        · cases o with
          | none => cases hx
          | some y => rw [List.mem_singleton.mp hx]; exact (ho y rfl).2)
  exact ⟨ws, a', y10, y11, h0, hs, hw, e⟩
theorem wdOf_own {ws : List Wd} (hn : (ws.map Wd.key).Nodup) : ∀ x ∈ ws, wdOf ws x.key = some x := by
  induction ws with
  | nil => intro x hx; cases hx
  | cons w ws ih =>
    intro x hx
    rw [List.map_cons, List.nodup_cons] at hn
    rcases List.mem_cons.mp hx with rfl | hx
    · rw [wdOf, List.filter_cons, if_pos (by simp)]; rfl
    · have : w.key ≠ x.key := fun e => hn.1 (by rw [e]; exact List.mem_map_of_mem hx)
      rw [wdOf, List.filter_cons, if_neg (by simpa using this)]
      exact ih hn.2 x hx
theorem clsOf_some {cs : List Cls} {n : Tx} (h : ∃ c ∈ cs, c.name = n) : ∃ c, clsOf cs n = some c := by
  obtain ⟨c, hc, e⟩ := h
  rw [clsOf]
  cases hh : cs.filter fun c => decide (c.name = n) with
  | nil => exact absurd (List.filter_eq_nil_iff.mp hh c hc) (by simp [e])
  | cons c' l => exact ⟨c', rfl⟩
theorem clsOf_own {ws : List Cls} (hn : (ws.map Cls.name).Nodup) : ∀ x ∈ ws, clsOf ws x.name = some x := by
  induction ws with
  | nil => intro x hx; cases hx
  | cons w ws ih =>
    intro x hx
    rw [List.map_cons, List.nodup_cons] at hn
    rcases List.mem_cons.mp hx with rfl | hx
    · rw [clsOf, List.filter_cons, if_pos (by simp)]; rfl
    · have : w.name ≠ x.name := fun e => hn.1 (by rw [e]; exact List.mem_map_of_mem hx)
      rw [clsOf, List.filter_cons, if_neg (by simpa using this)]
      exact ih hn.2 x hx
theorem keysL_nd : keysL.Nodup := by decide
theorem stock_draw {N : Nat} (hN : 6 ≤ N) (ds : List Int) {a : Int} (ha : 0 ≤ a) : ∃ (s : Stk) (a' : Int), 0 ≤ a' ∧ SOk s ∧ (∀ c ∈ s.cs, clsOf s.cs c.name = some c) ∧ wdOf s.ws s_none = none ∧ callD P N k_law_stock [.dct (wD ds a)] = .ok (.fz s.d) [some (.dct (wD ds a'))] := by
  obtain ⟨M, rfl⟩ : ∃ M, N = M + 1 := ⟨N - 1, by omega⟩
  obtain ⟨cs, a1, h1, hcn, hcs, e1⟩ := classes_draw (N := M) (by omega) ds ha
  have hl : cs.length ≤ 4 := by have := hcn.length_le; rw [List.length_map] at this; exact this
  obtain ⟨rs, a2, y5, y6, y7, h2, hrl, hr, hz6, e2⟩ := rules_draw (N := M) (by omega) ds h1 hl hcs
  obtain ⟨ws, a3, y10, y11, h3, hwk, hw, e3⟩ := words_draw (N := M) (by omega) ds h2 hl (x4 := some (.lst (rs.map Rul.d))) (x5 := y5) (x7 := y7) hz6
  have hwl := hwk.length_le
  rw [List.length_map] at hwl
  have hwl : ws.length ≤ 9 := hwl
  refine ⟨⟨cs, rs, ws⟩, a3, h3, ⟨hl, by show rs.length ≤ 100; omega, hwl, hr, hcs, fun x hx => ⟨clsOf_some (hw x hx).cls, (hw x hx).root, (hw x hx).let_⟩, wdOf_own (hwk.nodup keysL_nd)⟩, ?_, ?_, ?_⟩
  · exact clsOf_own (hcn.nodup (by decide))
  · show wdOf ws s_none = none
    rw [wdOf, List.filter_eq_nil_iff.mpr fun x hx => ?_]; rfl
    have h1 : x.key ∈ keysL := hwk.subset (List.mem_map_of_mem hx)
    intro e
    rw [of_decide_eq_true e] at h1
    exact absurd h1 (by decide)
  · rw [call_eq (d := d_law_stock) rfl rfl]
    show d_law_stock.end (evSs _ b_law_stock (SE (.dct (wD ds a)) none none none none none none none none none none none)) = CRes.ok (.fz (.tup [.tup (cs.map Cls.d), .tup (rs.map Rul.d), .tup (ws.map Wd.d)])) _
    generalize wD ds a = W at *
    generalize wD ds a1 = W1 at *
    generalize wD ds a2 = W2 at *
    generalize wD ds a3 = W3 at *
    generalize cs.map Cls.d = C at *
    generalize rs.map Rul.d = R at *
    generalize ws.map Wd.d = Z at *
    have s1 : evS (callD P M) (.set (.nm 1) (.bi .tuple c_law_stock_5)) (SE (.dct W) none none none none none none none none none none none) = .ok .nx (SE (.dct W1) (some (.fz (.tup C))) none none none none none none none none none none) := by
      rw [evS, evE, e1]; rfl
    have s2 : evS (callD P M) (.set (.nm 4) (.lst .nil)) (SE (.dct W1) (some (.fz (.tup C))) none none none none none none none none none none) = .ok .nx (SE (.dct W1) (some (.fz (.tup C))) none none (some (.lst [])) none none none none none none none) := by
      dsimp! []
    have s4 : evS (callD P M) (.set (.nm 9) (.lst .nil)) (SE (.dct W2) (some (.fz (.tup C))) none none (some (.lst R)) y5 y6 y7 none none none none) = .ok .nx (SE (.dct W2) (some (.fz (.tup C))) none none (some (.lst R)) y5 y6 y7 none (some (.lst [])) none none) := by
      dsimp! []
    rw [b_law_stock, ss_nx s1, ss_nx s2, ss_nx e2, ss_nx s4, ss_nx e3]
    clear s1 s2 e2 s4 e3 e1
    dsimp! [] <;> first | rfl | decide
end K16
end
section
set_option linter.all false
set_option autoImplicit false
set_option maxRecDepth 100000
set_option maxHeartbeats 2000000
open Ev
namespace K16
abbrev LE (x0 x1 x2 x3 x4 x5 x6 x7 x8 x9 x10 x11 x12 x13 x14 x15 : Option OV) : Env := [x0, x1, x2, x3, x4, x5, x6, x7, x8, x9, x10, x11, x12, x13, x14, x15]
theorem c8_ok {N : Nat} (hN : 6 ≤ N) {s : Stk} (h : SOk s) {n : Tx} {L : List Mk} (hL : L.length ≤ 1024) (hm : ∀ m ∈ L, m.length ≤ 5) {x0 x1 x2 x4 x5 x7 x8 x10 x11 x12 x13 x14 x15 : Option OV} (h10 : Fz x10) :
    evE (callD P N) c_law_8 (LE x0 x1 x2 (some (.fz s.d)) x4 x5 (some (.fz (.str n))) x7 x8 (some (.fz (.lst (L.map mkD)))) x10 x11 x12 x13 x14 x15) = .ok (.lst []) (LE x0 x1 x2 (some (.fz s.d)) x4 x5 (some (.fz (.str n))) x7 x8 (some (.fz (.lst (L.map mkD)))) x10 x11 x12 x13 x14 x15) := by
  have e0 : ([] : List D) = (L.filter fun _ => false).map mkD := by rw [List.filter_eq_nil_iff.mpr fun _ _ => by simp]; rfl
  rw [e0]
  refine lc_if (xs := L) (e := mkD) rfl ?_ (by simp only [mostLen]; omega) fun m hm' => ?_
  · generalize L.map mkD = Z
    generalize s.d = S
    rfl
  · have e1 := chain_of_ok (N := N) (by omega) (s := s) (n := n) (m := m) (by have := hm m hm'; omega) h.rok h.rs
    have e2 := law_chain_of_ok (N := N) (by omega) (s := s) (n := n) (m := m) (by have := hm m hm'; omega) h.rok h.rs
    have e3 := (sam_chain (chainF_200 h n m)).same (N := N) (by omega) (by omega)
    generalize L.map mkD = Z
    generalize s.d = S at *
    generalize mkD m = Mm at *
    generalize D.tup (chD (chainF s.rs n m)) = C at *
    rcases h10 with rfl | ⟨d, rfl⟩ <;> dsimp! [cmpF, c_law_8, e1, e2, e3]
theorem l9_ok {N : Nat} (hN : 7 ≤ N) {s : Stk} (h : SOk s) (hc : ∀ c ∈ s.cs, clsOf s.cs c.name = some c) {x0 x1 x2 x4 x5 x6 x7 x8 x9 x10 x11 x12 x13 x14 x15 : Option OV} (h10 : Fz x10) :
    ∃ y6 y7 y8 y9, evS (callD P N) l_law_9 (LE x0 x1 x2 (some (.fz s.d)) x4 x5 x6 x7 x8 x9 x10 x11 x12 x13 x14 x15) = .ok .nx (LE x0 x1 x2 (some (.fz s.d)) x4 x5 y6 y7 y8 y9 x10 x11 x12 x13 x14 x15) := by
  obtain ⟨ρ, e, y6, y7, y8, y9, rfl⟩ := for_inv (cl := callD P N) (s := l_law_9) (ρ := (LE x0 x1 x2 (some (.fz s.d)) x4 x5 x6 x7 x8 x9 x10 x11 x12 x13 x14 x15)) (ρ1 := (LE x0 x1 x2 (some (.fz s.d)) x4 x5 x6 x7 x8 x9 x10 x11 x12 x13 x14 x15)) (xs := s.cs) (e := Cls.d)
    (I := fun pre ρ => ∃ y6 y7 y8 y9, ρ = LE x0 x1 x2 (some (.fz s.d)) x4 x5 y6 y7 y8 y9 x10 x11 x12 x13 x14 x15)
    rfl (by
      have e0 := stk0 s
      generalize s.cs.map Cls.d = C at *
      generalize s.d = S at *
      rw [l_law_9, forI_eq]; dsimp! [e0]) ⟨x6, x7, x8, x9, rfl⟩ (fun pre c post ρ hp hI => by
      obtain ⟨y6, y7, y8, y9, rfl⟩ := hI
      have hcm : c ∈ s.cs := by rw [hp]; simp
      have hck := h.cok c hcm
      have hcc := hc c hcm
      have e1 := law_marks_ok (N := N) (by omega) hcc hck.1 hck.2 h.cs
      have e2 := marks_of_ok (N := N) (by omega) hcc hck.1 hck.2 h.cs
      have e3 := (sam_marks (l := marksF s.cs c.slots) (fun m hm => by rw [marks_row hm]; exact hck.1) (marks_1024 h.cs hck.1)).same (N := N) (by omega) (by omega)
      refine ⟨_, ?_, some (.fz (.str c.name)), some (.fz (.str c.kind)), some (.fz (.tup (c.slots.map .str))), some (.fz (.lst ((marksF s.cs c.slots).map mkD))), rfl⟩
      have e4 := c8_ok (N := N) (by omega) h (n := c.name) (L := marksF s.cs c.slots) (marks_1024 h.cs hck.1) (fun m hm => by rw [marks_row hm]; exact hck.1) (x0 := x0) (x1 := x1) (x2 := x2) (x4 := x4) (x5 := x5) (x7 := some (.fz (.str c.kind))) (x8 := some (.fz (.tup (c.slots.map .str)))) (x11 := x11) (x12 := x12) (x13 := x13) (x14 := x14) (x15 := x15) h10
      rw [Cls.d]
      generalize (marksF s.cs c.slots).map mkD = Z at *
      generalize c.slots.map D.str = SL at *
      generalize s.d = S at *
      dsimp! [lpF, l_law_9, e1, e2, e3, e4] <;> rfl)
  exact ⟨y6, y7, y8, y9, e⟩
end K16
end
section
set_option linter.all false
set_option autoImplicit false
set_option maxRecDepth 100000
set_option maxHeartbeats 2000000
open Ev
namespace K16
theorem l5_ok {N : Nat} (hN : 7 ≤ N) {s : Stk} (h : SOk s) {x : Wd} (hx : x ∈ s.ws) {x0 x1 x2 x4 x5 x6 x7 x8 x9 x10 x12 x14 x15 : Option OV} (h10 : Fz x10) (h14 : Fz x14) :
    ∃ y10 y14, Fz y10 ∧ Fz y14 ∧ evS (callD P N) l_law_5 (LE x0 x1 x2 (some (.fz s.d)) x4 x5 x6 x7 x8 x9 x10 (some (.fz (.str x.key))) x12 (some (.fz (.tup ((tabF s x).map rowD)))) x14 x15) = .ok .nx (LE x0 x1 x2 (some (.fz s.d)) x4 x5 x6 x7 x8 x9 y10 (some (.fz (.str x.key))) x12 (some (.fz (.tup ((tabF s x).map rowD)))) y14 x15) := by
  obtain ⟨ρ, e, y10, y14, hy, hy14, rfl⟩ := for_inv (cl := callD P N) (s := l_law_5) (ρ := (LE x0 x1 x2 (some (.fz s.d)) x4 x5 x6 x7 x8 x9 x10 (some (.fz (.str x.key))) x12 (some (.fz (.tup ((tabF s x).map rowD)))) x14 x15)) (ρ1 := (LE x0 x1 x2 (some (.fz s.d)) x4 x5 x6 x7 x8 x9 x10 (some (.fz (.str x.key))) x12 (some (.fz (.tup ((tabF s x).map rowD)))) x14 x15)) (xs := tabF s x) (e := rowD)
    (I := fun pre ρ => ∃ y10 y14, Fz y10 ∧ Fz y14 ∧ ρ = LE x0 x1 x2 (some (.fz s.d)) x4 x5 x6 x7 x8 x9 y10 (some (.fz (.str x.key))) x12 (some (.fz (.tup ((tabF s x).map rowD)))) y14 x15)
    rfl (by generalize (tabF s x).map rowD = T; generalize s.d = S; rfl) ⟨x10, x14, h10, h14, rfl⟩ (fun pre p post ρ hp hI => by
      obtain ⟨y10, y14, hy, hy14, rfl⟩ := hI
      obtain ⟨h1, h2, h3⟩ := tabF_mk h hx (p := p) (by rw [hp]; simp)
      have e1 := word_of_ok (N := N) (by omega) h hx (m := p.1) (by omega)
      rw [← h2] at e1
      have e2 := (Sa.o (k := 1) p.2).sam.same (N := N) (by omega) (by omega)
      refine ⟨_, ?_, some (.fz (mkD p.1)), some (.fz (opD .str p.2)), .d, .d, rfl⟩
      rw [rowD]
      generalize (tabF s x).map rowD = T
      generalize s.d = S at *
      generalize mkD p.1 = Mm at *
      generalize opD D.str p.2 = O at *
      dsimp! [lpF, l_law_5, e1, e2] <;> rfl)
  exact ⟨y10, y14, hy, hy14, e⟩
theorem c4_ok {N : Nat} (hN : 7 ≤ N) (ds : List Int) {a : Int} (ha : 0 ≤ a) {s : Stk} (h : SOk s) {x : Wd} (hx : x ∈ s.ws) {m : Mk} (hm : m.length ≤ 5) {x0 x2 x4 x5 x7 x8 x9 x12 x13 x14 x15 : Option OV} (h15 : Fz x15) :
    ∃ a', 0 ≤ a' ∧ evE (callD P N) c_law_4 (LE x0 (some (.dct (wD ds a))) x2 (some (.fz s.d)) x4 x5 (some (.fz (.str x.cls))) x7 x8 x9 (some (.fz (mkD m))) (some (.fz (.str x.key))) x12 x13 x14 x15) = .ok (.lst []) (LE x0 (some (.dct (wD ds a'))) x2 (some (.fz s.d)) x4 x5 (some (.fz (.str x.cls))) x7 x8 x9 (some (.fz (mkD m))) (some (.fz (.str x.key))) x12 x13 x14 x15) := by
  obtain ⟨c, hc⟩ := (h.wok x hx).1
  have hck := h.cok c (clsOf_mem hc).1
  have hsl : slotsF s x.cls = c.slots := by rw [slotsF, hc]; rfl
  obtain ⟨L, a', h0, hL, hLm, e⟩ := bent_ok (N := N) (by omega) ds ha (m := m) hc hck.1 hck.2 h.cs hm
  refine ⟨a', h0, ?_⟩
  have e0 : ([] : List D) = (L.filter fun _ => false).map mkD := by rw [List.filter_eq_nil_iff.mpr fun _ _ => by simp]; rfl
  refine lc2 (ds := L.map mkD) (ρ1 := LE x0 (some (.dct (wD ds a'))) x2 (some (.fz s.d)) x4 x5 (some (.fz (.str x.cls))) x7 x8 x9 (some (.fz (mkD m))) (some (.fz (.str x.key))) x12 x13 x14 x15) rfl ?_ ?_
  · generalize L.map mkD = Z at *
    generalize s.d = S at *
    generalize mkD m = Mm at *
    generalize wD ds a = W at *
    generalize wD ds a' = W1 at *
    rw [c_law_4, lcI_eq]
    dsimp! [e] <;> rfl
  · have := lcGo_typ (f := cmpF (callD P N) c_law_4) (ρ := LE x0 (some (.dct (wD ds a'))) x2 (some (.fz s.d)) x4 x5 (some (.fz (.str x.cls))) x7 x8 x9 (some (.fz (mkD m))) (some (.fz (.str x.key))) x12 x13 x14 x15) (xs := L) (e := mkD) (p := fun _ => false) (r := mkD) (acc := []) (fun b hb => by
      have e1 := word_of_ok (N := N) (by omega) h hx (m := b) (by have := (hLm b hb).2; omega)
      rw [wordF, hsl, if_neg (hLm b hb).1] at e1
      simp only [opD] at e1
      generalize s.d = S at *
      generalize mkD m = Mm at *
      generalize mkD b = B at *
      generalize wD ds a' = W1 at *
      rcases h15 with rfl | ⟨d, rfl⟩ <;> dsimp! [cmpF, c_law_4, e1, isNon]) (by show 0 + L.length ≤ _; simp only [mostLen]; omega)
    rw [this, ← e0]; rfl
end K16
end
section
set_option linter.all false
set_option autoImplicit false
set_option maxRecDepth 100000
set_option maxHeartbeats 2000000
open Ev
namespace K16
theorem c6_ok {N : Nat} {s : Stk} (h : SOk s) {x : Wd} (hx : x ∈ s.ws) {x0 x1 x2 x3 x4 x5 x6 x7 x8 x9 x10 x11 x12 x14 x15 : Option OV} (h10 : Fz x10) (h14 : Fz x14) :
    evE (callD P N) c_law_6 (LE x0 x1 x2 x3 x4 x5 x6 x7 x8 x9 x10 x11 x12 (some (.fz (.tup ((tabF s x).map rowD)))) x14 x15) = .ok (.lst ((formsX s x).map .str)) (LE x0 x1 x2 x3 x4 x5 x6 x7 x8 x9 x10 x11 x12 (some (.fz (.tup ((tabF s x).map rowD)))) x14 x15) := by
  rw [formsX, ← forms_fm]
  refine lc_if (xs := tabF s x) (e := rowD) (r := fun p => opD .str p.2) rfl ?_ (by have := tabF_len h hx; simp only [mostLen]; omega) fun p hp => ?_
  · generalize (tabF s x).map rowD = T
    rfl
  · obtain ⟨m, o⟩ := p
    rw [rowD]
    generalize mkD m = Mm
    generalize (tabF s x).map rowD = T
    rcases h10 with rfl | ⟨d, rfl⟩ <;> rcases h14 with rfl | ⟨d2, rfl⟩ <;> cases o with
      | none => dsimp! [cmpF, c_law_6, opD, isNon] <;> rfl
      | some w => dsimp! [cmpF, c_law_6, opD, isNon] <;> rfl
end K16
end
section
set_option linter.all false
set_option autoImplicit false
set_option maxRecDepth 100000
set_option maxHeartbeats 2000000
open Ev
namespace K16
theorem ss_ev {cl : CL} {c : E} {r : Env} {A R : List D} (ho : ∀ q ρ, opd c q ρ = q.bd fun o ρ => .ok (.tmp o) ρ) (he : evE cl c r = .ok (.lst A) r) (hs : bi1 .sortset (.lst A) = some (.lst R)) : evE cl (.bi .tuple (.bi .sortset c)) r = .ok (.fz (.tup R)) r := by
  have e2 : evE cl (.bi .sortset c) r = .ok (.lst R) r := by
    rw [evE, ho, he]
    show (Res.of ((some (D.lst A)).bind fun x => bi1 .sortset x) _) = _
    rw [Option.bind_some, hs]; rfl
  rw [evE, opd_bi, e2]; rfl
/-- a test that two calls' values are the same -/
theorem t_same {N : Nat} {a b : E} {r : Env} {d : D} {n : Nat} {o1 o2 : OV} (h1 : evE (callD P N) a r = .ok o1 r) (h2 : evE (callD P N) b r = .ok o2 r) (ho1 : o1 = .fz d) (ho2 : o2 = .fz d) (hs : Sam d n) (hn : n ≤ 900000) (hN : 1 ≤ N) : evT (callD P N) (.not (.df k_law_same (.val a (.val b .nil)))) r = .ok false r := by
  subst ho1; subst ho2
  have e := hs.same (N := N) hn hN
  dsimp! [↓h1, ↓h2, e]
theorem l7_test {N : Nat} (hN : 9 ≤ N) {s : Stk} (h : SOk s) {x : Wd} (hx : x ∈ s.ws) {x0 x1 x2 x4 x5 x6 x7 x8 x9 x10 x12 x14 x15 : Option OV} (h10 : Fz x10) (h14 : Fz x14) :
    evT (callD P N) (.or (.not (.df k_law_same (.val (.df k_table_of (.val (.var 3) (.val (.var 11) .nil))) (.val (.var 13) .nil)))) (.not (.df k_law_same (.val (.df k_all_forms (.val (.var 3) (.val (.var 11) .nil))) (.val (.bi .tuple (.bi .sortset c_law_6)) .nil))))) (LE x0 x1 x2 (some (.fz s.d)) x4 x5 x6 x7 x8 x9 x10 (some (.fz (.str x.key))) x12 (some (.fz (.tup ((tabF s x).map rowD)))) x14 x15) = .ok false (LE x0 x1 x2 (some (.fz s.d)) x4 x5 x6 x7 x8 x9 x10 (some (.fz (.str x.key))) x12 (some (.fz (.tup ((tabF s x).map rowD)))) x14 x15) := by
  obtain ⟨r, hr, hrl⟩ := sortset_ok (l := formsX s x) (Nat.le_trans (Nat.le_trans (List.length_filterMap_le _ _) (tabF_len h hx)) (by decide))
  have hl : r.length ≤ 4000 := Nat.le_trans hrl (Nat.le_trans (Nat.le_trans (List.length_filterMap_le _ _) (tabF_len h hx)) (by decide))
  have e1 := table_of_ok (N := N) (by omega) h hx
  have s1 := sam_tab h hx
  have e3 := all_forms_ok (N := N) (by omega) h hx hr
  have s2 := sam_txs hl
  have e5 := ss_ev (cl := callD P N) (fun q ρ => rfl) (c6_ok (N := N) h hx h10 h14 (x0 := x0) (x1 := x1) (x2 := x2) (x3 := some (.fz s.d)) (x4 := x4) (x5 := x5) (x6 := x6) (x7 := x7) (x8 := x8) (x9 := x9) (x11 := some (.fz (.str x.key))) (x12 := x12) (x15 := x15)) hr
  clear hr
  generalize (tabF s x).map rowD = T at *
  generalize r.map D.str = F at *
  generalize s.d = S at *
  have t1 : evE (callD P N) (.df k_table_of (.val (.var 3) (.val (.var 11) .nil))) (LE x0 x1 x2 (some (.fz S)) x4 x5 x6 x7 x8 x9 x10 (some (.fz (.str x.key))) x12 (some (.fz (.tup T))) x14 x15) = .ok (.fz (.tup T)) (LE x0 x1 x2 (some (.fz S)) x4 x5 x6 x7 x8 x9 x10 (some (.fz (.str x.key))) x12 (some (.fz (.tup T))) x14 x15) := by dsimp! [e1]
  have t2 : evE (callD P N) (.var 13) (LE x0 x1 x2 (some (.fz S)) x4 x5 x6 x7 x8 x9 x10 (some (.fz (.str x.key))) x12 (some (.fz (.tup T))) x14 x15) = .ok (.fz (.tup T)) (LE x0 x1 x2 (some (.fz S)) x4 x5 x6 x7 x8 x9 x10 (some (.fz (.str x.key))) x12 (some (.fz (.tup T))) x14 x15) := by dsimp! []
  have t3 : evE (callD P N) (.df k_all_forms (.val (.var 3) (.val (.var 11) .nil))) (LE x0 x1 x2 (some (.fz S)) x4 x5 x6 x7 x8 x9 x10 (some (.fz (.str x.key))) x12 (some (.fz (.tup T))) x14 x15) = .ok (.fz (.tup F)) (LE x0 x1 x2 (some (.fz S)) x4 x5 x6 x7 x8 x9 x10 (some (.fz (.str x.key))) x12 (some (.fz (.tup T))) x14 x15) := by dsimp! [e3]
  rw [t_orf (t_same t1 t2 rfl rfl s1 (by omega) (by omega)), t_same t3 e5 rfl rfl s2 (by omega) (by omega)]
end K16
end
section
set_option linter.all false
set_option autoImplicit false
set_option maxRecDepth 100000
set_option maxHeartbeats 2000000
open Ev
namespace K16
abbrev l7T1 : E := .or (.not (.df k_law_same (.val (.df k_table_of (.val (.var 3) (.val (.var 11) .nil))) (.val (.var 13) .nil)))) (.not (.df k_law_same (.val (.df k_all_forms (.val (.var 3) (.val (.var 11) .nil))) (.val (.bi .tuple (.bi .sortset c_law_6)) .nil))))
abbrev l7T2 : E := .or (.cmp .ne c_law_4 (.lst .nil)) (.cmp .isnot (.df k_word_of (.val (.var 3) (.val (.cst (.str s_none)) (.val (.var 10) .nil)))) (.cst .non))
abbrev l7P : E := .ite (.cmp .ne (.var 13) (.tup .nil)) (.idx (.df k_law_pick (.bor 1 (.val (.var 13) .nil))) (.cst (.int 0))) (.tup .nil)
theorem l7_turn {N : Nat} (hN : 9 ≤ N) (ds : List Int) {a : Int} (ha : 0 ≤ a) {s : Stk} (h : SOk s) (hno : wdOf s.ws s_none = none) {x : Wd} (hx : x ∈ s.ws) {x0 x2 x4 x5 x6 x7 x8 x9 x10 x11 x12 x13 x14 x15 : Option OV} (h10 : Fz x10) (h14 : Fz x14) (h15 : Fz x15) :
    ∃ (a' : Int) (y6 y10 y11 y12 y13 y14 : Option OV), 0 ≤ a' ∧ Fz y10 ∧ Fz y14 ∧
      lpF (callD P N) l_law_7 x.d (LE x0 (some (.dct (wD ds a))) x2 (some (.fz s.d)) x4 x5 x6 x7 x8 x9 x10 x11 x12 x13 x14 x15) = .ok .nx (LE x0 (some (.dct (wD ds a'))) x2 (some (.fz s.d)) x4 x5 y6 x7 x8 x9 y10 y11 y12 y13 y14 x15) := by
  have e1 := law_table_ok (N := N) (by omega) h hx
  have s1 : evS (callD P N) (.set (.nm 13) (.frz (.df k_law_table (.val (.var 3) (.val (.var 11) .nil))))) (LE x0 (some (.dct (wD ds a))) x2 (some (.fz s.d)) x4 x5 (some (.fz (.str x.cls))) x7 x8 x9 x10 (some (.fz (.str x.key))) (some (.fz (.str x.root))) x13 x14 x15) = .ok .nx (LE x0 (some (.dct (wD ds a))) x2 (some (.fz s.d)) x4 x5 (some (.fz (.str x.cls))) x7 x8 x9 x10 (some (.fz (.str x.key))) (some (.fz (.str x.root))) (some (.fz (.tup ((tabF s x).map rowD)))) x14 x15) := by
    generalize (tabF s x).map rowD = T at *
    generalize s.d = S at *
    generalize wD ds a = W at *
    dsimp! [e1] <;> rfl
  have s2 := l7_test hN h hx (x0 := x0) (x1 := some (.dct (wD ds a))) (x2 := x2) (x4 := x4) (x5 := x5) (x6 := some (.fz (.str x.cls))) (x7 := x7) (x8 := x8) (x9 := x9) (x12 := some (.fz (.str x.root))) (x15 := x15) h10 h14
  obtain ⟨y10, y14, hy, hy14, s3⟩ : ∃ y10 y14, Fz y10 ∧ Fz y14 ∧ _ := l5_ok (N := N) (by omega) h hx (x0 := x0) (x1 := some (.dct (wD ds a))) (x2 := x2) (x4 := x4) (x5 := x5) (x6 := some (.fz (.str x.cls))) (x7 := x7) (x8 := x8) (x9 := x9) (x12 := some (.fz (.str x.root))) (x14 := x14) (x15 := x15) h10 h14
  have s4 : ∃ (m : Mk) (a' : Int), 0 ≤ a' ∧ m.length ≤ 5 ∧ evS (callD P N) (.set (.nm 10) (.frz l7P)) (LE x0 (some (.dct (wD ds a))) x2 (some (.fz s.d)) x4 x5 (some (.fz (.str x.cls))) x7 x8 x9 y10 (some (.fz (.str x.key))) (some (.fz (.str x.root))) (some (.fz (.tup ((tabF s x).map rowD)))) y14 x15) = .ok .nx (LE x0 (some (.dct (wD ds a'))) x2 (some (.fz s.d)) x4 x5 (some (.fz (.str x.cls))) x7 x8 x9 (some (.fz (mkD m))) (some (.fz (.str x.key))) (some (.fz (.str x.root))) (some (.fz (.tup ((tabF s x).map rowD)))) y14 x15) := by
    by_cases ht : tabF s x = []
    · refine ⟨[], a, ha, by decide, ?_⟩
      rw [ht]
      generalize s.d = S at *
      generalize wD ds a = W at *
      show _ = Res.ok Flow.nx (LE x0 (some (.dct W)) x2 (some (.fz S)) x4 x5 (some (.fz (.str x.cls))) x7 x8 x9 (some (.fz (.tup []))) (some (.fz (.str x.key))) (some (.fz (.str x.root))) (some (.fz (.tup []))) y14 x15)
      dsimp! [] <;> rfl
    · obtain ⟨p, hp, ep⟩ := pick_t (N := N) (by omega) ds ha (f := rowD) ht
      have hm := (tabF_mk h hx hp).2.2
      refine ⟨p.1, a + 1, by omega, hm, ?_⟩
      rw [rowD] at ep
      have hfl := flats_of (n := 29) (l := (tabF s x).map rowD) (fun d hd => by
        obtain ⟨q, hq, rfl⟩ := List.mem_map.mp hd
        exact flat_up (Sa.row (k := 0) (tabF_mk h hx hq).2.2).flat (by decide))
      obtain ⟨q, qs, hq⟩ : ∃ q qs, (tabF s x).map rowD = q :: qs := by
        cases hh : tabF s x with
        | nil => exact absurd hh ht
        | cons q qs => exact ⟨rowD q, qs.map rowD, rfl⟩
      rw [hq] at hfl ep ⊢
      rw [flats_c, Bool.and_eq_true] at hfl
      generalize mkD p.1 = Mm at *
      generalize opD D.str p.2 = O at *
      generalize s.d = S at *
      generalize wD ds a = W at *
      generalize wD ds (a + 1) = W1 at *
      dsimp! [hfl.1, hfl.2, ep] <;> rfl
  obtain ⟨m, a1, h1, hm, s4⟩ := s4
  obtain ⟨a2, h2, e5⟩ := c4_ok (N := N) (by omega) ds h1 h hx hm (x0 := x0) (x2 := x2) (x4 := x4) (x5 := x5) (x7 := x7) (x8 := x8) (x9 := x9) (x12 := some (.fz (.str x.root))) (x13 := some (.fz (.tup ((tabF s x).map rowD)))) (x14 := y14) (x15 := x15) h15
  have e6 := word_of_none (N := N) (by omega) h hno (m := m)
  have s5 : evT (callD P N) l7T2 (LE x0 (some (.dct (wD ds a1))) x2 (some (.fz s.d)) x4 x5 (some (.fz (.str x.cls))) x7 x8 x9 (some (.fz (mkD m))) (some (.fz (.str x.key))) (some (.fz (.str x.root))) (some (.fz (.tup ((tabF s x).map rowD)))) y14 x15) = .ok false (LE x0 (some (.dct (wD ds a2))) x2 (some (.fz s.d)) x4 x5 (some (.fz (.str x.cls))) x7 x8 x9 (some (.fz (mkD m))) (some (.fz (.str x.key))) (some (.fz (.str x.root))) (some (.fz (.tup ((tabF s x).map rowD)))) y14 x15) := by
    generalize (tabF s x).map rowD = T at *
    generalize s.d = S at *
    generalize mkD m = Mm at *
    generalize wD ds a1 = W at *
    generalize wD ds a2 = W1 at *
    have t1 : evT (callD P N) (.cmp .ne c_law_4 (.lst .nil)) (LE x0 (some (.dct W)) x2 (some (.fz S)) x4 x5 (some (.fz (.str x.cls))) x7 x8 x9 (some (.fz Mm)) (some (.fz (.str x.key))) (some (.fz (.str x.root))) (some (.fz (.tup T))) y14 x15) = .ok false (LE x0 (some (.dct W1)) x2 (some (.fz S)) x4 x5 (some (.fz (.str x.cls))) x7 x8 x9 (some (.fz Mm)) (some (.fz (.str x.key))) (some (.fz (.str x.root))) (some (.fz (.tup T))) y14 x15) := by
      rw [evT, oc_law_4, e5]
      dsimp! []
    rw [t_orf t1]
    dsimp! [e6, isNon]
  refine ⟨a2, some (.fz (.str x.cls)), some (.fz (mkD m)), some (.fz (.str x.key)), some (.fz (.str x.root)), some (.fz (.tup ((tabF s x).map rowD))), y14, h2, .d, hy14, ?_⟩
  show evSs (callD P N) (.cons (.set (.nm 13) (.frz (.df k_law_table (.val (.var 3) (.val (.var 11) .nil))))) (.cons (.ifs l7T1 (.cons (.ret (.cst (.bl false))) .nil) .nil) (.cons l_law_5 (.cons (.set (.nm 10) (.frz l7P)) (.cons (.ifs l7T2 (.cons (.ret (.cst (.bl false))) .nil) .nil) .nil))))) (LE x0 (some (.dct (wD ds a))) x2 (some (.fz s.d)) x4 x5 (some (.fz (.str x.cls))) x7 x8 x9 x10 (some (.fz (.str x.key))) (some (.fz (.str x.root))) x13 x14 x15) = _
  rw [ss_nx s1, ss_nx (by rw [s_iff s2, ss_end]), ss_nx s3, ss_nx s4, ss_nx (by rw [s_iff s5, ss_end]), ss_end]
theorem l7_ok {N : Nat} (hN : 9 ≤ N) (ds : List Int) {a : Int} (ha : 0 ≤ a) {s : Stk} (h : SOk s) (hno : wdOf s.ws s_none = none) {x0 x2 x4 x5 x6 x7 x8 x9 x10 x11 x12 x13 x14 x15 : Option OV} (h10 : Fz x10) (h14 : Fz x14) (h15 : Fz x15) :
    ∃ (a' : Int) (y6 y10 y11 y12 y13 y14 : Option OV), 0 ≤ a' ∧ Fz y10 ∧ Fz y14 ∧
      evS (callD P N) l_law_7 (LE x0 (some (.dct (wD ds a))) x2 (some (.fz s.d)) x4 x5 x6 x7 x8 x9 x10 x11 x12 x13 x14 x15) = .ok .nx (LE x0 (some (.dct (wD ds a'))) x2 (some (.fz s.d)) x4 x5 y6 x7 x8 x9 y10 y11 y12 y13 y14 x15) := by
  obtain ⟨ρ, e, a', y6, y10, y11, y12, y13, y14, h0, hy10, hy14, rfl⟩ := for_inv (cl := callD P N) (s := l_law_7) (ρ := (LE x0 (some (.dct (wD ds a))) x2 (some (.fz s.d)) x4 x5 x6 x7 x8 x9 x10 x11 x12 x13 x14 x15)) (ρ1 := (LE x0 (some (.dct (wD ds a))) x2 (some (.fz s.d)) x4 x5 x6 x7 x8 x9 x10 x11 x12 x13 x14 x15)) (xs := s.ws) (e := Wd.d)
    (I := fun pre ρ => ∃ a' y6 y10 y11 y12 y13 y14, 0 ≤ a' ∧ Fz y10 ∧ Fz y14 ∧ ρ = LE x0 (some (.dct (wD ds a'))) x2 (some (.fz s.d)) x4 x5 y6 x7 x8 x9 y10 y11 y12 y13 y14 x15)
    rfl (by
      have e0 := stk2 s
      generalize s.ws.map Wd.d = C at *
      generalize s.d = S at *
      generalize wD ds a = W
      rw [l_law_7, forI_eq]; dsimp! [e0]) ⟨a, x6, x10, x11, x12, x13, x14, ha, h10, h14, rfl⟩ (fun pre x post ρ hp hI => by
      obtain ⟨a', y6, y10, y11, y12, y13, y14, h0, hy10, hy14, rfl⟩ := hI
      obtain ⟨a2, z6, z10, z11, z12, z13, z14, h2, hz10, hz14, e⟩ := l7_turn hN ds h0 h hno (x := x) (by rw [hp]; simp) (x0 := x0) (x2 := x2) (x4 := x4) (x5 := x5) (x6 := y6) (x7 := x7) (x8 := x8) (x9 := x9) (x11 := y11) (x12 := y12) (x13 := y13) hy10 hy14 h15
      exact ⟨_, e, a2, z6, z10, z11, z12, z13, z14, h2, hz10, hz14, rfl⟩)
  exact ⟨a', y6, y10, y11, y12, y13, y14, h0, hy10, hy14, e⟩
end K16
end
section
set_option linter.all false
set_option autoImplicit false
set_option maxRecDepth 100000
set_option maxHeartbeats 2000000
open Ev
namespace K16
abbrev l3E : E := .bin .add (.mt2 .get (.var 5) (.var 14) (.tup .nil)) (.tup (.cons (.tup (.cons (.var 11) (.cons (.var 10) .nil))) .nil))
theorem l3_turn {N : Nat} {pre : List Rw} {r : Rw} {x0 x1 x2 x3 x4 x6 x7 x8 x9 x10 x11 x12 x13 x14 x15 : Option OV} (hl : pre.length ≤ 10000) :
    lpF (callD P N) l_law_3 (rD r) (LE x0 x1 x2 x3 x4 (some (.dct (knD (knF pre)))) x6 x7 x8 x9 x10 x11 x12 x13 x14 x15) = .ok .nx (LE x0 x1 x2 x3 x4 (some (.dct (knD (knF (pre ++ [r]))))) x6 x7 x8 x9 (some (.fz (mkD r.2.2))) (some (.fz (.str r.2.1))) x12 x13 (some (.fz (.str r.1))) x15) := by
  have hg := get_kn (knF pre) r.1
  have hp := add_kn (knF pre) r
  rw [← knF_snoc] at hp
  have hk := kn_len pre
  have hgl := getK_len pre r.1
  have hL : ((getK (knF pre) r.1).map eD).length ≤ 10000 := by rw [List.length_map]; omega
  obtain ⟨w, k, m⟩ := r
  rw [rD]
  rw [eD] at hp
  simp only at *
  generalize (getK (knF pre) w).map eD = L at *
  generalize knD (knF (pre ++ [(w, k, m)])) = K2 at *
  generalize knD (knF pre) = K at *
  generalize mkD m = Mm at *
  have k1 : K.length < 16777216 := by omega
  have k2 : L.length + 1 ≤ 16777216 := by omega
  have e1 : evE (callD P N) l3E (LE x0 x1 x2 x3 x4 (some (.dct K)) x6 x7 x8 x9 (some (.fz Mm)) (some (.fz (.str k))) x12 x13 (some (.fz (.str w))) x15) = .ok (.fz (.tup (L ++ [.tup [.str k, Mm]]))) (LE x0 x1 x2 x3 x4 (some (.dct K)) x6 x7 x8 x9 (some (.fz Mm)) (some (.fz (.str k))) x12 x13 (some (.fz (.str w))) x15) := by
    dsimp! [hg, k2]
  have e2 : evS (callD P N) (.sidx 5 (.var 14) l3E) (LE x0 x1 x2 x3 x4 (some (.dct K)) x6 x7 x8 x9 (some (.fz Mm)) (some (.fz (.str k))) x12 x13 (some (.fz (.str w))) x15) = .ok .nx (LE x0 x1 x2 x3 x4 (some (.dct K2)) x6 x7 x8 x9 (some (.fz Mm)) (some (.fz (.str k))) x12 x13 (some (.fz (.str w))) x15) := by
    rw [evS, e1, ← hp]
    show (Res.of (if keyOk (.str w) && decide (K.length < mostLen) then some (OV.dct (dPut K (.str w) (.tup (L ++ [.tup [.str k, Mm]])))) else none) _).bd _ = _
    rw [if_pos (by rw [decide_eq_true (show K.length < mostLen from k1)]; rfl)]
    rfl
  show (evSs (callD P N) (.cons (.sidx 5 (.var 14) l3E) .nil) (LE x0 x1 x2 x3 x4 (some (.dct K)) x6 x7 x8 x9 (some (.fz Mm)) (some (.fz (.str k))) x12 x13 (some (.fz (.str w))) x15)) = _
  rw [ss_nx e2, ss_end]
theorem l3_ok {N : Nat} {rows : List Rw} (hl : rows.length ≤ 10000) {x0 x1 x2 x3 x6 x7 x8 x9 x10 x11 x12 x13 x14 x15 : Option OV} (h14 : Fz x14) (h10 : Fz x10) :
    ∃ y10 y11 y14, Fz y14 ∧ Fz y10 ∧ evS (callD P N) l_law_3 (LE x0 x1 x2 x3 (some (.fz (.lst (rows.map rD)))) (some (.dct [])) x6 x7 x8 x9 x10 x11 x12 x13 x14 x15) = .ok .nx (LE x0 x1 x2 x3 (some (.fz (.lst (rows.map rD)))) (some (.dct (knD (knF rows)))) x6 x7 x8 x9 y10 y11 x12 x13 y14 x15) := by
  obtain ⟨ρ, e, y10, y11, y14, hy, hy10, rfl⟩ := for_inv (cl := callD P N) (s := l_law_3) (ρ := (LE x0 x1 x2 x3 (some (.fz (.lst (rows.map rD)))) (some (.dct [])) x6 x7 x8 x9 x10 x11 x12 x13 x14 x15)) (ρ1 := (LE x0 x1 x2 x3 (some (.fz (.lst (rows.map rD)))) (some (.dct [])) x6 x7 x8 x9 x10 x11 x12 x13 x14 x15)) (xs := rows) (e := rD)
    (I := fun pre ρ => ∃ y10 y11 y14, Fz y14 ∧ Fz y10 ∧ ρ = LE x0 x1 x2 x3 (some (.fz (.lst (rows.map rD)))) (some (.dct (knD (knF pre)))) x6 x7 x8 x9 y10 y11 x12 x13 y14 x15)
    rfl (by generalize rows.map rD = Z; rfl) ⟨x10, x11, x14, h14, h10, rfl⟩ (fun pre r post ρ hp hI => by
      obtain ⟨y10, y11, y14, hy, hy10, rfl⟩ := hI
      have : pre.length ≤ 10000 := by have := hl; rw [hp, List.length_append] at this; omega
      exact ⟨_, l3_turn this, _, _, _, .d, .d, rfl⟩)
  exact ⟨y10, y11, y14, hy, hy10, e⟩
theorem sdk_ev {cl : CL} {rows : List Rw} {x0 x1 x2 x3 x4 x6 x7 x8 x9 x10 x11 x12 x13 x14 x15 : Option OV} :
    evE cl (.bi .sortdk (.var 5)) (LE x0 x1 x2 x3 x4 (some (.dct (knD (knF rows)))) x6 x7 x8 x9 x10 x11 x12 x13 x14 x15) = .ok (.lst ((sortT (keysK (knF rows))).map .str)) (LE x0 x1 x2 x3 x4 (some (.dct (knD (knF rows)))) x6 x7 x8 x9 x10 x11 x12 x13 x14 x15) := by
  have hs := sortdk_ok (knF rows)
  generalize knD (knF rows) = K at *
  generalize (sortT (keysK (knF rows))).map D.str = Z at *
  rw [evE]
  show ((Res.of ((some (D.dct K)).bind fun x => bi1 .sortdk x) _)) = _
  rw [Option.bind_some, hs]; rfl
theorem c1_ok {N : Nat} {rows : List Rw} (hl : rows.length ≤ 10000) {x0 x1 x2 x3 x4 x6 x7 x8 x9 x10 x11 x12 x13 x14 x15 : Option OV} (h14 : Fz x14) :
    evE (callD P N) c_law_1 (LE x0 x1 x2 x3 x4 (some (.dct (knD (knF rows)))) x6 x7 x8 x9 x10 x11 x12 x13 x14 x15) = .ok (.lst ((dblF (knF rows)).map dbD)) (LE x0 x1 x2 x3 x4 (some (.dct (knD (knF rows)))) x6 x7 x8 x9 x10 x11 x12 x13 x14 x15) := by
  rw [dblF, List.map_map]
  have hk := keys_len rows
  have hn := sortT_len (knF rows)
  refine lc_if (xs := sortT (keysK (knF rows))) (e := D.str) (r := dbD ∘ fun w => (w, getK (knF rows) w)) rfl ?_ (by simp only [mostLen]; omega) fun w hw => ?_
  · rw [c_law_1, lcI_eq]
    have e := sdk_ev (cl := callD P N) (rows := rows) (x0 := x0) (x1 := x1) (x2 := x2) (x3 := x3) (x4 := x4) (x6 := x6) (x7 := x7) (x8 := x8) (x9 := x9) (x10 := x10) (x11 := x11) (x12 := x12) (x13 := x13) (x14 := x14) (x15 := x15)
    generalize knD (knF rows) = K at *
    generalize (sortT (keysK (knF rows))).map D.str = Z at *
    rw [evIt, e]; rfl
  · have hg := mem_keys_get (k := knF rows) (knF rows) (dbl_sub _ w hw)
    show _ = Res.ok (if decide (1 < (getK (knF rows) w).length) then some (D.tup [.str w, .tup ((getK (knF rows) w).map eD)]) else none) _
    have hL : ((getK (knF rows) w).map eD).length = (getK (knF rows) w).length := List.length_map _
    rw [← hL]
    generalize (getK (knF rows) w).map eD = L at *
    generalize knD (knF rows) = K at *
    by_cases h : 1 < L.length
    · have a : (1 : Int) < (L.length : Int) := by omega
      rcases h14 with rfl | ⟨d2, rfl⟩ <;> dsimp! [cmpF, c_law_1, hg, h, a]
    · have a : ¬ (1 : Int) < (L.length : Int) := by omega
      rcases h14 with rfl | ⟨d2, rfl⟩ <;> dsimp! [cmpF, c_law_1, hg, h, a]
abbrev l2E : E := .bin .add (.slc (.bi .sortdk (.var 5)) (.cst .non) (.cst (.int 12))) (.lst (.cons (.cst (.str s_zz)) (.cons (.df k_law_letters (.bor 1 (.val (.cst (.int 2)) .nil))) .nil)))
theorem l2_ok {N : Nat} (hN : 9 ≤ N) (ds : List Int) {a : Int} (ha : 0 ≤ a) {s : Stk} (h : SOk s) {x0 x2 x4 x6 x7 x8 x9 x10 x11 x12 x13 x14 x15 : Option OV} (h14 : Fz x14) :
    ∃ (a' : Int) (y14 : Option OV), 0 ≤ a' ∧ Fz y14 ∧ evS (callD P N) l_law_2 (LE x0 (some (.dct (wD ds a))) x2 (some (.fz s.d)) x4 (some (.dct (knD (knF (rowsF s s.ws))))) x6 x7 x8 x9 x10 x11 x12 x13 x14 x15) = .ok .nx (LE x0 (some (.dct (wD ds a'))) x2 (some (.fz s.d)) x4 (some (.dct (knD (knF (rowsF s s.ws))))) x6 x7 x8 x9 x10 x11 x12 x13 y14 x15) := by
  obtain ⟨t, a', h0, hl, ht, et⟩ := letters_ok (N := N) (by omega) ds ha (m := 2) (by omega) (by omega)
  obtain ⟨ρ, e, y14, hy, rfl⟩ := for_inv (cl := callD P N) (s := l_law_2) (ρ := (LE x0 (some (.dct (wD ds a))) x2 (some (.fz s.d)) x4 (some (.dct (knD (knF (rowsF s s.ws))))) x6 x7 x8 x9 x10 x11 x12 x13 x14 x15)) (ρ1 := (LE x0 (some (.dct (wD ds a'))) x2 (some (.fz s.d)) x4 (some (.dct (knD (knF (rowsF s s.ws))))) x6 x7 x8 x9 x10 x11 x12 x13 x14 x15)) (xs := (sortT (keysK (knF (rowsF s s.ws)))).take 12 ++ [s_zz, t]) (e := D.str)
    (I := fun pre ρ => ∃ y14, Fz y14 ∧ ρ = LE x0 (some (.dct (wD ds a'))) x2 (some (.fz s.d)) x4 (some (.dct (knD (knF (rowsF s s.ws))))) x6 x7 x8 x9 x10 x11 x12 x13 y14 x15)
    rfl (by
      have eS := sdk_ev (cl := callD P N) (rows := rowsF s s.ws) (x0 := x0) (x1 := (some (.dct (wD ds a)))) (x2 := x2) (x3 := (some (.fz s.d))) (x4 := x4) (x6 := x6) (x7 := x7) (x8 := x8) (x9 := x9) (x10 := x10) (x11 := x11) (x12 := x12) (x13 := x13) (x14 := x14) (x15 := x15)
      rw [List.map_append, List.map_take]
      have hc : cut ((sortT (keysK (knF (rowsF s s.ws)))).map D.str) none (some 12) = ((sortT (keysK (knF (rowsF s s.ws)))).map D.str).take 12 := cutL_hi _ 12
      generalize (sortT (keysK (knF (rowsF s s.ws)))).map D.str = Z at *
      generalize knD (knF (rowsF s s.ws)) = K at *
      generalize s.d = S at *
      have k1 : (Z.take 12).length ≤ 12 := by rw [List.length_take]; omega
      generalize Z.take 12 = Z2 at *
      generalize wD ds a = W at *
      generalize wD ds a' = W1 at *
      have k2 : Z2.length + 2 ≤ 16777216 := by omega
      show forI (callD P N) (.fors (.nm 14) (.ev l2E) _) _ = _
      rw [forI_eq]
      dsimp! [↓eS, endOf, hc, et, k2]) ⟨x14, h14, rfl⟩ (fun pre w post ρ hp hI => by
      obtain ⟨y14, hy, rfl⟩ := hI
      refine ⟨_, ?_, some (.fz (.str w)), .d, rfl⟩
      have e1 := analyses_ok (N := N) hN h (w := w)
      have e2 := get_kn (knF (rowsF s s.ws)) w
      have e3 : D.tup (((rowsF s s.ws).filter fun r => decide (r.1 = w)).map fun r => eD r.2) = .tup ((getK (knF (rowsF s s.ws)) w).map eD) := by rw [get_knF, List.map_map]; rfl
      rw [e3] at e1
      have e4 := (sam_get h w).same (N := N) (by omega) (by omega)
      generalize D.tup ((getK (knF (rowsF s s.ws)) w).map eD) = G at *
      generalize knD (knF (rowsF s s.ws)) = K at *
      generalize s.d = S at *
      generalize wD ds a' = W at *
      dsimp! [lpF, l_law_2, e1, e2, e4] <;> rfl)
  exact ⟨a', y14, h0, hy, e⟩
end K16
end
section
set_option linter.all false
set_option autoImplicit false
set_option maxRecDepth 100000
set_option maxHeartbeats 2000000
open Ev
namespace K16
abbrev lT : E := .not (.df k_law_same (.val (.df k_doubles (.val (.var 3) .nil)) (.val (.bi .tuple c_law_1) .nil)))
theorem turn_ok {N : Nat} (hN : 10 ≤ N) (ds : List Int) {a : Int} (ha : 0 ≤ a) (d : D) {x0 x2 x3 x4 x5 x6 x7 x8 x9 x10 x11 x12 x13 x14 : Option OV} (h10 : Fz x10) (h14 : Fz x14) :
    ∃ (a' : Int) (y2 y3 y4 y5 y6 y7 y8 y9 y10 y11 y12 y13 y14 : Option OV), 0 ≤ a' ∧ Fz y10 ∧ Fz y14 ∧
      lpF (callD P N) l_law_10 d (LE x0 (some (.dct (wD ds a))) x2 x3 x4 x5 x6 x7 x8 x9 x10 x11 x12 x13 x14 none) = .ok .nx (LE x0 (some (.dct (wD ds a'))) y2 y3 y4 y5 y6 y7 y8 y9 y10 y11 y12 y13 y14 none) := by
  obtain ⟨s, a1, h1, h, hc, hno, es⟩ := stock_draw (N := N) (by omega) ds ha
  have s1 : evS (callD P N) (.set (.nm 3) (.frz (.df k_law_stock (.bor 1 .nil)))) (LE x0 (some (.dct (wD ds a))) (some (.fz d)) x3 x4 x5 x6 x7 x8 x9 x10 x11 x12 x13 x14 none) = .ok .nx (LE x0 (some (.dct (wD ds a1))) (some (.fz d)) (some (.fz s.d)) x4 x5 x6 x7 x8 x9 x10 x11 x12 x13 x14 none) := by
    generalize s.d = S at *
    generalize wD ds a = W at *
    generalize wD ds a1 = W1 at *
    dsimp! [es] <;> rfl
  have ea := law_all_ok (N := N) (by omega) h
  have s2 : evS (callD P N) (.par 4 5 (.frz (.df k_law_all (.val (.var 3) .nil))) (.dct .nil)) (LE x0 (some (.dct (wD ds a1))) (some (.fz d)) (some (.fz s.d)) x4 x5 x6 x7 x8 x9 x10 x11 x12 x13 x14 none) = .ok .nx (LE x0 (some (.dct (wD ds a1))) (some (.fz d)) (some (.fz s.d)) (some (.fz (.lst ((rowsF s s.ws).map rD)))) (some (.dct [])) x6 x7 x8 x9 x10 x11 x12 x13 x14 none) := by
    generalize (rowsF s s.ws).map rD = R at *
    generalize s.d = S at *
    generalize wD ds a1 = W at *
    dsimp! [ea]
  obtain ⟨y6, y7, y8, y9, s3⟩ := l9_ok (N := N) (by omega) h hc (x0 := x0) (x1 := some (.dct (wD ds a1))) (x2 := some (.fz d)) (x4 := some (.fz (.lst ((rowsF s s.ws).map rD)))) (x5 := some (.dct [])) (x6 := x6) (x7 := x7) (x8 := x8) (x9 := x9) (x11 := x11) (x12 := x12) (x13 := x13) (x14 := x14) (x15 := none) h10
  obtain ⟨a2, z6, y10, y11, y12, y13, y14, h2, hy10, hy14, s4⟩ := l7_ok (N := N) (by omega) ds h1 h hno (x0 := x0) (x2 := some (.fz d)) (x4 := some (.fz (.lst ((rowsF s s.ws).map rD)))) (x5 := some (.dct [])) (x6 := y6) (x7 := y7) (x8 := y8) (x9 := y9) (x11 := x11) (x12 := x12) (x13 := x13) (x15 := none) h10 h14 .n
  have hr := rows_9216 h
  obtain ⟨z10, z11, z14, hz14, hz10, s5⟩ := l3_ok (N := N) (rows := rowsF s s.ws) (by omega) (x0 := x0) (x1 := some (.dct (wD ds a2))) (x2 := some (.fz d)) (x3 := some (.fz s.d)) (x6 := z6) (x7 := y7) (x8 := y8) (x9 := y9) (x11 := y11) (x12 := y12) (x13 := y13) (x15 := none) hy14 hy10
  obtain ⟨a3, w14, h3, hw14, s6⟩ := l2_ok (N := N) (by omega) ds h2 h (x0 := x0) (x2 := some (.fz d)) (x4 := some (.fz (.lst ((rowsF s s.ws).map rD)))) (x6 := z6) (x7 := y7) (x8 := y8) (x9 := y9) (x10 := z10) (x11 := z11) (x12 := y12) (x13 := y13) (x15 := none) hz14
  have s7 : evT (callD P N) lT (LE x0 (some (.dct (wD ds a3))) (some (.fz d)) (some (.fz s.d)) (some (.fz (.lst ((rowsF s s.ws).map rD)))) (some (.dct (knD (knF (rowsF s s.ws))))) z6 y7 y8 y9 z10 z11 y12 y13 w14 none) = .ok false (LE x0 (some (.dct (wD ds a3))) (some (.fz d)) (some (.fz s.d)) (some (.fz (.lst ((rowsF s s.ws).map rD)))) (some (.dct (knD (knF (rowsF s s.ws))))) z6 y7 y8 y9 z10 z11 y12 y13 w14 none) := by
    have e1 := doubles_ok (N := N) (by omega) h
    have e2 := c1_ok (N := N) (rows := rowsF s s.ws) (by omega) (x0 := x0) (x1 := (some (.dct (wD ds a3)))) (x2 := (some (.fz d))) (x3 := (some (.fz s.d))) (x4 := (some (.fz (.lst ((rowsF s s.ws).map rD))))) (x6 := z6) (x7 := y7) (x8 := y8) (x9 := y9) (x10 := z10) (x11 := z11) (x12 := y12) (x13 := y13) (x15 := none) hw14
    have sm := sam_dbl h
    generalize (rowsF s s.ws).map rD = R at *
    generalize (dblF (knF (rowsF s s.ws))).map dbD = B at *
    generalize knD (knF (rowsF s s.ws)) = K at *
    generalize s.d = S at *
    generalize wD ds a3 = W at *
    refine t_same (d := .tup B) (o1 := .fz (.tup B)) (o2 := .fz (.tup B)) ?_ ?_ rfl rfl sm (by omega) (by omega)
    · dsimp! [e1]
    · rw [evE, oc_law_1, e2]; rfl
  refine ⟨a3, some (.fz d), some (.fz s.d), some (.fz (.lst ((rowsF s s.ws).map rD))), some (.dct (knD (knF (rowsF s s.ws)))), z6, y7, y8, y9, z10, z11, y12, y13, w14, h3, hz10, hw14, ?_⟩
  show evSs (callD P N) (.cons (.set (.nm 3) (.frz (.df k_law_stock (.bor 1 .nil)))) (.cons (.par 4 5 (.frz (.df k_law_all (.val (.var 3) .nil))) (.dct .nil)) (.cons l_law_9 (.cons l_law_7 (.cons l_law_3 (.cons l_law_2 (.cons (.ifs lT (.cons (.ret (.cst (.bl false))) .nil) .nil) .nil))))))) (LE x0 (some (.dct (wD ds a))) (some (.fz d)) x3 x4 x5 x6 x7 x8 x9 x10 x11 x12 x13 x14 none) = _
  rw [ss_nx s1, ss_nx s2, ss_nx s3, ss_nx s4, ss_nx s5, ss_nx s6, ss_nx (by rw [s_iff s7, ss_end]), ss_end]
theorem law_okN {N : Nat} (hN : 10 ≤ N) (ns : List Int) (hn : ns.length ≤ 63) : ∃ outs, callD P (N + 1) k_law [.fz (.scr ns)] = .ok (.fz (.bl true)) outs := by
  obtain ⟨ds, ed⟩ := draws_ok (N := N) (by omega) hn
  have s1 : evS (callD P N) (.set (.nm 1) (.dct (.cons (.cst (.str s_draws)) (.df k_law_draws (.val (.var 0) (.val (.cst (.int 3000)) .nil))) (.cons (.cst (.str s_at)) (.cst (.int 0)) .nil)))) (LE (some (.fz (.scr ns))) none none none none none none none none none none none none none none none) = .ok .nx (LE (some (.fz (.scr ns))) (some (.dct (wD ds 0))) none none none none none none none none none none none none none none) := by
    rw [show wD ds 0 = [(.str s_draws, .lst (ds.map .int)), (.str s_at, .int 0)] from rfl]
    generalize ds.map D.int = L at *
    dsimp! [ed] <;> first | rfl | decide
  obtain ⟨ρ, e, a', y2, y3, y4, y5, y6, y7, y8, y9, y10, y11, y12, y13, y14, h0, hy10, hy14, rfl⟩ := for_inv (cl := callD P N) (s := l_law_10) (ρ := (LE (some (.fz (.scr ns))) (some (.dct (wD ds 0))) none none none none none none none none none none none none none none)) (ρ1 := (LE (some (.fz (.scr ns))) (some (.dct (wD ds 0))) none none none none none none none none none none none none none none)) (xs := List.range 5) (e := fun (k : Nat) => D.int (k : Int))
    (I := fun pre ρ => ∃ a' y2 y3 y4 y5 y6 y7 y8 y9 y10 y11 y12 y13 y14, 0 ≤ a' ∧ Fz y10 ∧ Fz y14 ∧ ρ = LE (some (.fz (.scr ns))) (some (.dct (wD ds a'))) y2 y3 y4 y5 y6 y7 y8 y9 y10 y11 y12 y13 y14 none)
    rfl (by
      rw [← rngOf_map]
      exact rng_lit (n := 5) (by decide)) ⟨0, none, none, none, none, none, none, none, none, none, none, none, none, none, by omega, .n, .n, rfl⟩ (fun pre k post ρ hp hI => by
      obtain ⟨a', y2, y3, y4, y5, y6, y7, y8, y9, y10, y11, y12, y13, y14, h0, hy10, hy14, rfl⟩ := hI
      obtain ⟨a2, z2, z3, z4, z5, z6, z7, z8, z9, z10, z11, z12, z13, z14, h2, hz10, hz14, e⟩ := turn_ok (N := N) (by omega) ds h0 (.int k) (x0 := some (.fz (.scr ns))) (x2 := y2) (x3 := y3) (x4 := y4) (x5 := y5) (x6 := y6) (x7 := y7) (x8 := y8) (x9 := y9) (x11 := y11) (x12 := y12) (x13 := y13) hy10 hy14
      exact ⟨_, e, a2, z2, z3, z4, z5, z6, z7, z8, z9, z10, z11, z12, z13, z14, h2, hz10, hz14, rfl⟩)
  refine ⟨d_law.outs (LE (some (.fz (.scr ns))) (some (.dct (wD ds a'))) y2 y3 y4 y5 y6 y7 y8 y9 y10 y11 y12 y13 y14 none), ?_⟩
  rw [call_eq (d := d_law) rfl rfl]
  show d_law.end (evSs _ b_law (LE (some (.fz (.scr ns))) none none none none none none none none none none none none none none none)) = _
  rw [b_law, ss_nx s1, ss_nx e]
  generalize wD ds a' = W
  clear s1 e
  rw [ss_ret (r' := (LE (some (.fz (.scr ns))) (some (.dct W)) y2 y3 y4 y5 y6 y7 y8 y9 y10 y11 y12 y13 y14 none)) (o := .fz (.bl true)) (by dsimp! [])]
  rfl
theorem law_ok (ns : List Int) (hn : ns.length ≤ 63) : ∃ outs, callD P 60 k_law [.fz (.scr ns)] = .ok (.fz (.bl true)) outs := law_okN (N := 59) (by omega) ns hn
end K16
end
section
set_option Elab.async false
theorem PySem.Challenge.cw_meaningsled_k16_whole_tables_and_analyse_holds : PySem.Challenge.rw_meaningsled_k16_whole_tables_and_analyse.Holds :=
  K16.top_holds fun ns hn => by
    rw [K16.T_P]
    exact K16.law_ok ns hn
end
